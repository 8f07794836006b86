import PyProof.Rows.All
import Wide.All
import OpenK.AllK
import Wide.FinOn
import HandS.ForMost
import HandS.ForExc
import HandS.IsInst
import HandS.Wide
import HandS.Walk
import HandS.Flow
import HandS.Style
import HandS.CallSlots
import HandS.ExcInit
import PyProof.SumWalkG
import PyProof.WalkInts
import PyProof.ListOps
import KE.DataCmp
import HandS.SortInts
import HandS.SortRule
import HandS.Deep
import HandS.SetFor
import HandS.Conv
import HandS.TryOnly
import HandS.Codes
import HandS.Defaults
import HandS.HeadHook2
import HandS.HeadEnd
import HandS.Head2
import HandS.Ends
import KE.KIntText
import KE.KStateDown
import PySem.Challenge.RW_wishdeal_k19_whole_dealt_step_by_step
set_option Elab.async false
set_option linter.all false
set_option maxRecDepth 100000
set_option maxHeartbeats 0
namespace Tv
open PySem PySem.Spec PyProof.Rows L2

/-! ### data -/
inductive D where
  | non | bl (b : Bool) | int (i : Int) | str (s : List Nat)
  | lst (xs : List D) | tup (xs : List D) | scr (xs : List Int) | dic0

inductive T where
  | v (d : D) | b (d : D) | l (ts : List T) | tp (ts : List T)

def D.flat : D → Bool
  | .non | .bl _ | .int _ | .str _ => true
  | _ => false

mutual
def T.er : T → D
  | .v d => d
  | .b d => d
  | .l ts => .lst (T.ers ts)
  | .tp ts => .tup (T.ers ts)
def T.ers : List T → List D
  | [] => []
  | t :: ts => t.er :: T.ers ts
end
mutual
def T.noB : T → Bool
  | .v _ => true
  | .b _ => false
  | .l ts => T.noBs ts
  | .tp ts => T.noBs ts
def T.noBs : List T → Bool
  | [] => true
  | t :: ts => t.noB && T.noBs ts
end
theorem ers_map (ts : List T) : T.ers ts = ts.map T.er := by
  induction ts with
  | nil => rfl
  | cons t ts ih => simp [T.ers, ih]
theorem noBs_all (ts : List T) : T.noBs ts = ts.all T.noB := by
  induction ts with
  | nil => rfl
  | cons t ts ih => simp [T.noBs, ih]

def okS (s : List Nat) : Bool := decide (s.length ≤ sizeLine) && s.all (fun c => decide (c < 0x110000))
mutual
inductive RpD (K : W.Frag) (F : Hp) : V → D → Prop
  | non : RpD K F .non .non
  | bl (b : Bool) : RpD K F (.bl b) (.bl b)
  | int (i : Int) : RpD K F (.int i) (.int i)
  | str (x : Str) (h : okS x.cps.toList = true) : RpD K F (.str x) (.str x.cps.toList)
  | lst {a : Addr} {xs : List V} {ds : List D} (h : F a = some (.lst xs)) (r : RpDs K F xs ds) : RpD K F (.ref a) (.lst ds)
  | tup {a : Addr} {xs : List V} {ds : List D} (h : SqT K F a xs) (r : RpDs K F xs ds) : RpD K F (.ref a) (.tup ds)
  | scr {a : Addr} {ns : List Int} (h : SqL K F a (ns.map V.int)) : RpD K F (.ref a) (.scr ns)
  | dic0 {a : Addr} (h : F a = some (.dK [])) : RpD K F (.ref a) .dic0
inductive RpDs (K : W.Frag) (F : Hp) : List V → List D → Prop
  | nil : RpDs K F [] []
  | cons {x : V} {xs : List V} {d : D} {ds : List D} (r : RpD K F x d) (rs : RpDs K F xs ds) : RpDs K F (x :: xs) (d :: ds)
end

theorem SqT.mono' {K : W.Frag} {F F' : Hp} (h : ∀ a o, F a = some o → F' a = some o) {a xs} (s : SqT K F a xs) : SqT K F' a xs := by
  rcases s with (s | ⟨o, s⟩) | s
  · exact .inl (.inl (h _ _ s))
  · exact .inl (.inr ⟨o, h _ _ s⟩)
  · exact .inr s
theorem SqL.mono' {K : W.Frag} {F F' : Hp} (h : ∀ a o, F a = some o → F' a = some o) {a xs} (s : SqL K F a xs) : SqL K F' a xs := by
  rcases s with (s | ⟨o, s⟩) | s
  · exact .inl (.inl (h _ _ s))
  · exact .inl (.inr ⟨o, h _ _ s⟩)
  · exact .inr s

def Sub (F F' : Hp) : Prop := ∀ a o, F a = some o → F' a = some o
theorem Sub.rfl {F : Hp} : Sub F F := fun _ _ h => h
theorem Sub.trans {F F' F'' : Hp} (a : Sub F F') (b : Sub F' F'') : Sub F F'' := fun x o h => b x o (a x o h)

mutual
theorem RpD.mono {K : W.Frag} {F F' : Hp} (h : Sub F F') : ∀ {x : V} {d : D}, RpD K F x d → RpD K F' x d
  | _, _, .non => .non
  | _, _, .bl b => .bl b
  | _, _, .int i => .int i
  | _, _, .str x e => .str x e
  | _, _, .lst e r => .lst (h _ _ e) (RpDs.mono h r)
  | _, _, .tup e r => .tup (SqT.mono' h e) (RpDs.mono h r)
  | _, _, .scr e => .scr (SqL.mono' h e)
  | _, _, .dic0 e => .dic0 (h _ _ e)
theorem RpDs.mono {K : W.Frag} {F F' : Hp} (h : Sub F F') : ∀ {x : List V} {d : List D}, RpDs K F x d → RpDs K F' x d
  | _, _, .nil => .nil
  | _, _, .cons a b => .cons (RpD.mono h a) (RpDs.mono h b)
end
theorem RpDs.length {K : W.Frag} {F : Hp} : ∀ {x : List V} {d : List D}, RpDs K F x d → x.length = d.length
  | _, _, .nil => rfl
  | _, _, .cons _ r => by simp [RpDs.length r]
theorem RpDs.get {K : W.Frag} {F : Hp} : ∀ {xs : List V} {ds : List D} (i : Nat) {d : D}, RpDs K F xs ds → ds[i]? = some d → ∃ x, xs[i]? = some x ∧ RpD K F x d
  | _, _, _, _, .nil, e => by simp at e
  | _, _, 0, _, .cons r _, e => by simp at e; subst e; exact ⟨_, rfl, r⟩
  | _, _, i + 1, d, .cons _ t, e => by
    obtain ⟨u, h1, h2⟩ := RpDs.get (d := d) i t (by simpa using e)
    exact ⟨u, by simpa using h1, h2⟩
theorem RpDs.getV {K : W.Frag} {F : Hp} : ∀ {xs : List V} {ds : List D} (i : Nat) {x : V}, RpDs K F xs ds → xs[i]? = some x → ∃ d, ds[i]? = some d ∧ RpD K F x d
  | _, _, _, _, .nil, e => by simp at e
  | _, _, 0, _, .cons r _, e => by simp at e; subst e; exact ⟨_, rfl, r⟩
  | _, _, i + 1, d, .cons _ t, e => by
    obtain ⟨u, h1, h2⟩ := RpDs.getV (x := d) i t (by simpa using e)
    exact ⟨u, by simpa using h1, h2⟩
theorem RpDs.append {K : W.Frag} {F : Hp} : ∀ {xs ys : List V} {ds es : List D}, RpDs K F xs ds → RpDs K F ys es → RpDs K F (xs ++ ys) (ds ++ es)
  | _, _, _, _, .nil, r => r
  | _, _, _, _, .cons a b, r => .cons a (RpDs.append b r)
theorem RpDs.take {K : W.Frag} {F : Hp} : ∀ (n : Nat) {xs : List V} {ds : List D}, RpDs K F xs ds → RpDs K F (xs.take n) (ds.take n)
  | 0, _, _, _ => .nil
  | _ + 1, _, _, .nil => .nil
  | n + 1, _, _, .cons a b => .cons a (RpDs.take n b)
theorem RpDs.drop {K : W.Frag} {F : Hp} : ∀ (n : Nat) {xs : List V} {ds : List D}, RpDs K F xs ds → RpDs K F (xs.drop n) (ds.drop n)
  | 0, _, _, r => r
  | _ + 1, _, _, .nil => .nil
  | n + 1, _, _, .cons _ b => RpDs.drop n b

mutual
inductive RpT (K : W.Frag) (F H : Hp) : V → T → List Addr → Prop
  | v {x : V} {d : D} (r : RpD K F x d) : RpT K F H x (.v d) []
  | b {x : V} {d : D} (r : RpD K H x d) : RpT K F H x (.b d) []
  | l {a : Addr} {xs : List V} {ts : List T} {f : List Addr} (h : H a = some (.lst xs)) (r : RpTs K F H xs ts f) : RpT K F H (.ref a) (.l ts) (a :: f)
  | tp {a : Addr} {xs : List V} {ts : List T} {f : List Addr} (h : H a = some (.tup xs)) (r : RpTs K F H xs ts f) : RpT K F H (.ref a) (.tp ts) (a :: f)
inductive RpTs (K : W.Frag) (F H : Hp) : List V → List T → List Addr → Prop
  | nil : RpTs K F H [] [] []
  | cons {x : V} {xs : List V} {t : T} {ts : List T} {f g : List Addr} (r : RpT K F H x t f) (rs : RpTs K F H xs ts g) : RpTs K F H (x :: xs) (t :: ts) (f ++ g)
end

mutual
/-- nothing borrowed: only the footprint is asked -/
theorem RpT.frame {K : W.Frag} {F F' H H' : Hp} (hF : Sub F F') : ∀ {x : V} {t : T} {f : List Addr}, RpT K F H x t f → t.noB = true → (∀ a ∈ f, H' a = H a) → RpT K F' H' x t f
  | _, _, _, .v r, _, _ => .v (r.mono hF)
  | _, _, _, .b r, e, _ => by simp [T.noB] at e
  | _, _, _, .l h r, e, k => .l ((k _ (by simp)).trans h) (RpTs.frame hF r (by simpa [T.noB] using e) fun a ha => k a (by simp [ha]))
  | _, _, _, .tp h r, e, k => .tp ((k _ (by simp)).trans h) (RpTs.frame hF r (by simpa [T.noB] using e) fun a ha => k a (by simp [ha]))
theorem RpTs.frame {K : W.Frag} {F F' H H' : Hp} (hF : Sub F F') : ∀ {x : List V} {t : List T} {f : List Addr}, RpTs K F H x t f → T.noBs t = true → (∀ a ∈ f, H' a = H a) → RpTs K F' H' x t f
  | _, _, _, .nil, _, _ => .nil
  | _, _, _, .cons a b, e, k => by
    simp [T.noBs] at e
    exact .cons (RpT.frame hF a e.1 fun y hy => k y (by simp [hy])) (RpTs.frame hF b e.2 fun y hy => k y (by simp [hy]))
end
mutual
/-- all stays -/
theorem RpT.grow {K : W.Frag} {F F' H H' : Hp} (hF : Sub F F') (hH : Sub H H') : ∀ {x : V} {t : T} {f : List Addr}, RpT K F H x t f → RpT K F' H' x t f
  | _, _, _, .v r => .v (r.mono hF)
  | _, _, _, .b r => .b (r.mono hH)
  | _, _, _, .l h r => .l (hH _ _ h) (RpTs.grow hF hH r)
  | _, _, _, .tp h r => .tp (hH _ _ h) (RpTs.grow hF hH r)
theorem RpTs.grow {K : W.Frag} {F F' H H' : Hp} (hF : Sub F F') (hH : Sub H H') : ∀ {x : List V} {t : List T} {f : List Addr}, RpTs K F H x t f → RpTs K F' H' x t f
  | _, _, _, .nil => .nil
  | _, _, _, .cons a b => .cons (RpT.grow hF hH a) (RpTs.grow hF hH b)
end
mutual
/-- as it may be read -/
theorem RpT.read {K : W.Frag} {F H : Hp} (hF : Sub F H) : ∀ {x : V} {t : T} {f : List Addr}, RpT K F H x t f → RpD K H x t.er
  | _, _, _, .v r => r.mono hF
  | _, _, _, .b r => r
  | _, _, _, .l h r => .lst h (RpTs.read hF r)
  | _, _, _, .tp h r => .tup (.of h) (RpTs.read hF r)
theorem RpTs.read {K : W.Frag} {F H : Hp} (hF : Sub F H) : ∀ {x : List V} {t : List T} {f : List Addr}, RpTs K F H x t f → RpDs K H x (T.ers t)
  | _, _, _, .nil => .nil
  | _, _, _, .cons a b => .cons (RpT.read hF a) (RpTs.read hF b)
end
/-- F with what stands at fp -/
def addF (F H : Hp) (f : List Addr) : Hp := fun a => if a ∈ f then H a else F a
theorem addF_sub {F H : Hp} {f : List Addr} (h : Sub F H) : Sub F (addF F H f) := fun a o e => by
  unfold addF; split
  · exact h a o e
  · exact e
theorem addF_in {F H : Hp} {f : List Addr} (h : Sub F H) : Sub (addF F H f) H := fun a o e => by
  unfold addF at e; split at e
  · exact e
  · exact h a o e
theorem addF_more {F H : Hp} {f g : List Addr} (h : Sub F H) (k : ∀ a ∈ f, a ∈ g) : Sub (addF F H f) (addF F H g) := fun a o e => by
  unfold addF at e ⊢; split at e
  · rename_i hm; rw [if_pos (k a hm)]; exact e
  · split
    · exact h a o e
    · exact e
mutual
/-- frozen -/
theorem RpT.freeze {K : W.Frag} {F H : Hp} (hF : Sub F H) : ∀ {x : V} {t : T} {f : List Addr}, RpT K F H x t f → t.noB = true → RpD K (addF F H f) x t.er
  | _, _, _, .v r, _ => r.mono (addF_sub hF)
  | _, _, _, .b r, e => by simp [T.noB] at e
  | _, _, _, .l h r, e => .lst (by unfold addF; rw [if_pos (by simp)]; exact h) ((RpTs.freeze hF r (by simpa [T.noB] using e)).mono (addF_more hF fun a ha => by simp [ha]))
  | _, _, _, .tp h r, e => .tup (.of (by unfold addF; rw [if_pos (by simp)]; exact h)) ((RpTs.freeze hF r (by simpa [T.noB] using e)).mono (addF_more hF fun a ha => by simp [ha]))
theorem RpTs.freeze {K : W.Frag} {F H : Hp} (hF : Sub F H) : ∀ {x : List V} {t : List T} {f : List Addr}, RpTs K F H x t f → T.noBs t = true → RpDs K (addF F H f) x (T.ers t)
  | _, _, _, .nil, _ => .nil
  | _, _, _, .cons a b, e => by
    simp [T.noBs] at e
    exact .cons ((RpT.freeze hF a e.1).mono (addF_more hF fun y hy => by simp [hy])) ((RpTs.freeze hF b e.2).mono (addF_more hF fun y hy => by simp [hy]))
end

/-! ### the slots -/
abbrev Env := List (Option T)
inductive RpE (K : W.Frag) (F H : Hp) : L2.St → Env → List Addr → Prop
  | nil : RpE K F H [] [] []
  | emp {o : Option V} {σ : L2.St} {Γ : Env} {f : List Addr} (r : RpE K F H σ Γ f) : RpE K F H (o :: σ) (none :: Γ) f
  | fil {x : V} {t : T} {σ : L2.St} {Γ : Env} {f g : List Addr} (h : RpT K F H x t f) (n : t.noB = true) (r : RpE K F H σ Γ g) : RpE K F H (some x :: σ) (some t :: Γ) (f ++ g)
theorem RpE.length {K : W.Frag} {F H : Hp} {σ : L2.St} {Γ : Env} {f : List Addr} (r : RpE K F H σ Γ f) : σ.length = Γ.length := by
  induction r with
  | nil => rfl
  | emp _ ih => simp [ih]
  | fil _ _ _ ih => simp [ih]
theorem RpE.frame {K : W.Frag} {F F' H H' : Hp} (hF : Sub F F') {σ : L2.St} {Γ : Env} {f : List Addr} (r : RpE K F H σ Γ f) (k : ∀ a ∈ f, H' a = H a) : RpE K F' H' σ Γ f := by
  induction r with
  | nil => exact .nil
  | emp _ ih => exact .emp (ih k)
  | fil h n _ ih => exact .fil (h.frame hF n fun a ha => k a (by simp [ha])) n (ih fun a ha => k a (by simp [ha]))
/-- a slot taken out -/
theorem RpE.out {K : W.Frag} {F H : Hp} {σ : L2.St} {Γ : Env} {f : List Addr} (r : RpE K F H σ Γ f) : ∀ {i : Nat} {t : T}, Γ[i]? = some (some t) →
    ∃ x f1 g, σ[i]? = some (some x) ∧ RpT K F H x t f1 ∧ t.noB = true ∧ RpE K F H σ (Γ.set i none) g ∧ ∀ a, f.count a = f1.count a + g.count a := by
  induction r with
  | nil => intro i t e; simp at e
  | @emp o σ Γ f r ih =>
    intro i t e
    cases i with
    | zero => simp at e
    | succ i =>
      obtain ⟨x, f1, g, h1, h2, h3, h4, h5⟩ := ih (i := i) (t := t) (by simpa using e)
      exact ⟨x, f1, g, by simpa using h1, h2, h3, .emp h4, h5⟩
  | @fil x t' σ Γ f g h n r ih =>
    intro i t e
    cases i with
    | zero =>
      simp at e; subst e
      exact ⟨x, f, g, rfl, h, n, .emp r, fun a => by rw [List.count_append]⟩
    | succ i =>
      obtain ⟨y, f1, g', h1, h2, h3, h4, h5⟩ := ih (i := i) (t := t) (by simpa using e)
      exact ⟨y, f1, f ++ g', by simpa using h1, h2, h3, .fil h n h4, fun a => by rw [List.count_append, List.count_append, h5]; omega⟩
/-- a slot forgotten (and its value any) -/
theorem RpE.drop {K : W.Frag} {F H : Hp} {σ : L2.St} {Γ : Env} {f : List Addr} (r : RpE K F H σ Γ f) : ∀ (i : Nat) (o : Option V), ∃ g, RpE K F H (σ.set i o) (Γ.set i none) g ∧ ∀ a, g.count a ≤ f.count a := by
  induction r with
  | nil => intro i o; exact ⟨[], .nil, fun a => Nat.le_refl _⟩
  | @emp o' σ Γ f r ih =>
    intro i o
    cases i with
    | zero => exact ⟨f, .emp r, fun a => Nat.le_refl _⟩
    | succ i => obtain ⟨g, h1, h2⟩ := ih i o; exact ⟨g, .emp h1, h2⟩
  | @fil x t' σ Γ f g h n r ih =>
    intro i o
    cases i with
    | zero => exact ⟨g, .emp r, fun a => by rw [List.count_append]; omega⟩
    | succ i => obtain ⟨g', h1, h2⟩ := ih i o; exact ⟨f ++ g', .fil h n h1, fun a => by rw [List.count_append, List.count_append]; have := h2 a; omega⟩
/-- a slot filled -/
theorem RpE.put {K : W.Frag} {F H : Hp} {σ : L2.St} {Γ : Env} {f : List Addr} (r : RpE K F H σ Γ f) {x : V} {t : T} {f1 : List Addr} (h : RpT K F H x t f1) (n : t.noB = true) :
    ∀ {i : Nat}, i < Γ.length → ∃ g, RpE K F H (σ.set i (some x)) (Γ.set i (some t)) g ∧ ∀ a, g.count a ≤ f1.count a + f.count a := by
  induction r with
  | nil => intro i hi; simp at hi
  | @emp o' σ Γ f r ih =>
    intro i hi
    cases i with
    | zero => exact ⟨f1 ++ f, .fil h n r, fun a => by rw [List.count_append]; omega⟩
    | succ i => obtain ⟨g, h1, h2⟩ := ih (i := i) (by simpa using hi); exact ⟨g, .emp h1, h2⟩
  | @fil y t' σ Γ f g h' n' r ih =>
    intro i hi
    cases i with
    | zero => exact ⟨f1 ++ g, .fil h n r, fun a => by rw [List.count_append, List.count_append]; omega⟩
    | succ i => obtain ⟨g', h1, h2⟩ := ih (i := i) (by simpa using hi); exact ⟨f ++ g', .fil h' n' h1, fun a => by rw [List.count_append, List.count_append]; have := h2 a; omega⟩
theorem RpE.putBack {K : W.Frag} {F H : Hp} {σ : L2.St} {Γ : Env} {f : List Addr} (r : RpE K F H σ Γ f) {x : V} {t : T} {f1 : List Addr} (h : RpT K F H x t f1) (n : t.noB = true)
    {i : Nat} (hx : σ[i]? = some (some x)) : ∃ g, RpE K F H σ (Γ.set i (some t)) g ∧ ∀ a, g.count a ≤ f1.count a + f.count a := by
  have hi : i < σ.length := (List.getElem?_eq_some_iff.mp hx).1
  obtain ⟨g, h1, h2⟩ := r.put h n (i := i) (by rw [← r.length]; exact hi)
  have e : σ.set i (some x) = σ := by
    apply List.ext_getElem?
    intro j
    by_cases hj : i = j
    · subst hj; rw [List.getElem?_set_self hi, hx]
    · rw [List.getElem?_set_ne hj]
  rw [e] at h1
  exact ⟨g, h1, h2⟩

/-! ### the state -/
structure Base where
  H0 : Hp
  F0 : Hp
structure Rel (K : W.Frag) (B : Base) (F H : Hp) (σ : L2.St) (Γ : Env) (tmp : List Addr) : Prop where
  env : ∃ f, RpE K F H σ Γ f ∧ (∀ a, f.count a + tmp.count a ≤ 1) ∧ ∀ a, a ∈ f ∨ a ∈ tmp → F a = none ∧ B.H0 a = none ∧ H a ≠ none
  sub : Sub F H
  keep : Sub B.H0 H
  keepF : Sub B.F0 F
  newF : ∀ a, B.H0 a ≠ none → F a = B.F0 a
theorem Rel.length {K : W.Frag} {B : Base} {F H : Hp} {σ : L2.St} {Γ : Env} {tmp : List Addr} (r : Rel K B F H σ Γ tmp) : σ.length = Γ.length := by
  obtain ⟨f, h, _⟩ := r.env; exact h.length
theorem mem_of_count {a : Addr} {f g : List Addr} (h : f.count a ≤ g.count a) (m : a ∈ f) : a ∈ g := by
  have := List.count_pos_iff.mpr m
  exact List.count_pos_iff.mp (by omega)
/-- fewer footprints in hand -/
theorem Rel.less {K : W.Frag} {B : Base} {F H : Hp} {σ : L2.St} {Γ : Env} {tmp tmp' : List Addr} (r : Rel K B F H σ Γ tmp) (h : ∀ a, tmp'.count a ≤ tmp.count a) : Rel K B F H σ Γ tmp' := by
  obtain ⟨f, h1, h2, h3⟩ := r.env
  exact ⟨⟨f, h1, fun a => by have := h a; have := h2 a; omega, fun a ha => h3 a (ha.elim .inl fun m => .inr (mem_of_count (h a) m))⟩, r.sub, r.keep, r.keepF, r.newF⟩
theorem Rel.get {K : W.Frag} {B : Base} {F H : Hp} {σ : L2.St} {Γ : Env} {tmp : List Addr} (r : Rel K B F H σ Γ tmp) {i : Nat} {t : T} (e : Γ[i]? = some (some t)) :
    ∃ x f, σ[i]? = some (some x) ∧ RpT K F H x t f ∧ t.noB = true := by
  obtain ⟨f, h1, h2, h3⟩ := r.env
  obtain ⟨x, f1, g, a1, a2, a3, a4, a5⟩ := h1.out e
  exact ⟨x, f1, a1, a2, a3⟩
/-- a new thing in hand -/
theorem Rel.alloc {K : W.Frag} {B : Base} {F H : Hp} {σ : L2.St} {Γ : Env} {tmp : List Addr} (r : Rel K B F H σ Γ tmp) {p : Addr} {o : HO} (hp : H p = none) : Rel K B F (upd H p o) σ Γ (p :: tmp) := by
  obtain ⟨f, h1, h2, h3⟩ := r.env
  have ne : ∀ a, a ∈ f ∨ a ∈ tmp → a ≠ p := fun a ha e => (h3 a ha).2.2 (e ▸ hp)
  have nf : p ∉ f := fun m => ne p (.inl m) rfl
  have nt : p ∉ tmp := fun m => ne p (.inr m) rfl
  have hF : F p = none := by
    cases q : F p with
    | none => rfl
    | some u => have := r.sub p u q; rw [hp] at this; cases this
  have h0 : B.H0 p = none := by
    cases q : B.H0 p with
    | none => rfl
    | some u => have := r.keep p u q; rw [hp] at this; cases this
  refine ⟨⟨f, h1.frame Sub.rfl fun a ha => upd_ne (ne a (.inl ha)), fun a => ?_, fun a ha => ?_⟩, fun a u e => ?_, fun a u e => ?_, r.keepF, r.newF⟩
  · by_cases e : a = p
    · subst e
      rw [List.count_cons_self, List.count_eq_zero.mpr nf, List.count_eq_zero.mpr nt]
      exact Nat.le_refl _
    · rw [List.count_cons_of_ne (Ne.symm e)]; exact h2 a
  · by_cases e : a = p
    · subst e; exact ⟨hF, h0, by rw [upd_same]; simp⟩
    · have m : a ∈ f ∨ a ∈ tmp := by
        rcases ha with m | m
        · exact .inl m
        · exact .inr ((List.mem_cons.mp m).resolve_left e)
      rw [upd_ne e]
      exact h3 a m
  · rw [upd_ne (fun q => by subst q; rw [hF] at e; cases e)]; exact r.sub a u e
  · rw [upd_ne (fun q => by subst q; rw [h0] at e; cases e)]; exact r.keep a u e
theorem upd_sub {H : Hp} {p : Addr} {o : HO} (hp : H p = none) : Sub H (upd H p o) := fun a u e => by
  rw [upd_ne (fun q => by subst q; rw [hp] at e; cases e)]; exact e
/-- what is in hand is frozen -/
theorem Rel.freezeTmp {K : W.Frag} {B : Base} {F H : Hp} {σ : L2.St} {Γ : Env} {tmp f1 g : List Addr} (r : Rel K B F H σ Γ tmp) (hc : ∀ a, f1.count a + g.count a ≤ tmp.count a) :
    Rel K B (addF F H f1) H σ Γ g := by
  obtain ⟨f, h1, h2, h3⟩ := r.env
  have inT : ∀ a, a ∈ f1 → a ∈ tmp := fun a m => mem_of_count (f := f1) (by have := hc a; omega) m
  have dis : ∀ a, a ∈ f ∨ a ∈ g → a ∉ f1 := fun a ha m => by
    have e1 := List.count_pos_iff.mpr m
    have e2 := hc a
    have e3 := h2 a
    rcases ha with m' | m'
    · have := List.count_pos_iff.mpr m'; omega
    · have := List.count_pos_iff.mpr m'; omega
  refine ⟨⟨f, h1.frame (addF_sub r.sub) fun _ _ => rfl, fun a => by have := hc a; have := h2 a; omega, fun a ha => ?_⟩, addF_in r.sub, r.keep, fun a o e => addF_sub r.sub a o (r.keepF a o e), fun a ha => ?_⟩
  · have q := h3 a (ha.elim .inl fun m => .inr (mem_of_count (f := g) (by have := hc a; omega) m))
    refine ⟨?_, q.2⟩
    unfold addF; rw [if_neg (dis a ha)]; exact q.1
  · unfold addF
    rw [if_neg fun m => ha (h3 a (.inr (inT a m))).2.1]
    exact r.newF a ha
/-- a slot's thing taken in hand -/
theorem Rel.take {K : W.Frag} {B : Base} {F H : Hp} {σ : L2.St} {Γ : Env} {tmp : List Addr} (r : Rel K B F H σ Γ tmp) {i : Nat} {t : T} (e : Γ[i]? = some (some t)) :
    ∃ x f, σ[i]? = some (some x) ∧ RpT K F H x t f ∧ t.noB = true ∧ Rel K B F H σ (Γ.set i none) (f ++ tmp) := by
  obtain ⟨f, h1, h2, h3⟩ := r.env
  obtain ⟨x, f1, g, a1, a2, a3, a4, a5⟩ := h1.out e
  refine ⟨x, f1, a1, a2, a3, ⟨g, a4, fun a => ?_, fun a ha => h3 a ?_⟩, r.sub, r.keep, r.keepF, r.newF⟩
  · rw [List.count_append]; have := h2 a; have := a5 a; omega
  · rcases ha with m | m
    · exact .inl (mem_of_count (f := g) (by have := a5 a; omega) m)
    · rcases List.mem_append.mp m with m | m
      · exact .inl (mem_of_count (f := f1) (by have := a5 a; omega) m)
      · exact .inr m
/-- the thing in hand goes into a slot -/
theorem Rel.store {K : W.Frag} {B : Base} {F H : Hp} {σ : L2.St} {Γ : Env} {f1 tmp : List Addr} {x : V} {t : T} (r : Rel K B F H σ Γ (f1 ++ tmp)) (h : RpT K F H x t f1) (n : t.noB = true) {i : Nat} (hi : i < Γ.length) :
    Rel K B F H (σ.set i (some x)) (Γ.set i (some t)) tmp := by
  obtain ⟨f, h1, h2, h3⟩ := r.env
  obtain ⟨g, a1, a2⟩ := h1.put h n hi
  refine ⟨⟨g, a1, fun a => ?_, fun a ha => h3 a ?_⟩, r.sub, r.keep, r.keepF, r.newF⟩
  · have q := h2 a; rw [List.count_append] at q; have := a2 a; omega
  · rcases ha with m | m
    · have := List.count_pos_iff.mpr m
      have := a2 a
      by_cases z : 0 < f.count a
      · exact .inl (List.count_pos_iff.mp z)
      · exact .inr (List.mem_append_left _ (List.count_pos_iff.mp (by omega)))
    · exact .inr (List.mem_append_right _ m)
theorem Rel.putBack {K : W.Frag} {B : Base} {F H : Hp} {σ : L2.St} {Γ : Env} {f1 tmp : List Addr} {x : V} {t : T} (r : Rel K B F H σ Γ (f1 ++ tmp)) (h : RpT K F H x t f1) (n : t.noB = true) {i : Nat} (hx : σ[i]? = some (some x)) :
    Rel K B F H σ (Γ.set i (some t)) tmp := by
  have hi : i < σ.length := (List.getElem?_eq_some_iff.mp hx).1
  have e : σ.set i (some x) = σ := by
    apply List.ext_getElem?
    intro j
    by_cases hj : i = j
    · subst hj; rw [List.getElem?_set_self hi, hx]
    · rw [List.getElem?_set_ne hj]
  have := r.store h n (i := i) (by rw [← r.length]; exact hi)
  rw [e] at this
  exact this
theorem Rel.forget {K : W.Frag} {B : Base} {F H : Hp} {σ : L2.St} {Γ : Env} {tmp : List Addr} (r : Rel K B F H σ Γ tmp) (i : Nat) (o : Option V) : Rel K B F H (σ.set i o) (Γ.set i none) tmp := by
  obtain ⟨f, h1, h2, h3⟩ := r.env
  obtain ⟨g, a1, a2⟩ := h1.drop i o
  exact ⟨⟨g, a1, fun a => by have := h2 a; have := a2 a; omega, fun a ha => h3 a (ha.elim (fun m => .inl (mem_of_count (a2 a) m)) .inr)⟩, r.sub, r.keep, r.keepF, r.newF⟩
/-- behind a call: the heap has grown, what was frozen is, new things may be -/
theorem Rel.called {K : W.Frag} {B : Base} {F H F' H' : Hp} {σ : L2.St} {Γ : Env} {tmp f1 : List Addr} (r : Rel K B F H σ Γ tmp) (hH : Sub H H') (hF : Sub F F') (hs : Sub F' H') (hn : ∀ a, H a ≠ none → F' a = F a)
    (hc : ∀ a, f1.count a ≤ 1) (hf : ∀ a ∈ f1, F' a = none ∧ H a = none ∧ H' a ≠ none) : Rel K B F' H' σ Γ (f1 ++ tmp) := by
  obtain ⟨f, h1, h2, h3⟩ := r.env
  have st : ∀ a, H a ≠ none → H' a = H a := fun a ha => by
    cases q : H a with
    | none => exact absurd q ha
    | some u => exact hH a u q
  refine ⟨⟨f, h1.frame hF fun a ha => st a (h3 a (.inl ha)).2.2, fun a => ?_, fun a ha => ?_⟩, hs, fun a o e => hH a o (r.keep a o e), fun a o e => hF a o (r.keepF a o e), fun a ha => ?_⟩
  · rw [List.count_append]
    by_cases m : a ∈ f1
    · have e := (hf a m).2.1
      have n1 : a ∉ f := fun q => (h3 a (.inl q)).2.2 e
      have n2 : a ∉ tmp := fun q => (h3 a (.inr q)).2.2 e
      rw [List.count_eq_zero.mpr n1, List.count_eq_zero.mpr n2]
      have := hc a; omega
    · rw [List.count_eq_zero.mpr m]; have := h2 a; omega
  · have old : a ∈ f ∨ a ∈ tmp → F' a = none ∧ B.H0 a = none ∧ H' a ≠ none := fun m => by
      obtain ⟨q1, q2, q3⟩ := h3 a m
      exact ⟨(hn a q3).trans q1, q2, by rw [st a q3]; exact q3⟩
    rcases ha with m | m
    · exact old (.inl m)
    · rcases List.mem_append.mp m with m | m
      · refine ⟨(hf a m).1, ?_, (hf a m).2.2⟩
        cases q : B.H0 a with
        | none => rfl
        | some u => have := r.keep a u q; rw [(hf a m).2.1] at this; cases this
      · exact old (.inr m)
  · have h0 : H a ≠ none := fun q => by
      cases z : B.H0 a with
      | none => exact ha z
      | some u => have := r.keep a u z; rw [q] at this; cases this
    rw [hn a h0]; exact r.newF a ha
end Tv

namespace Tv
open PySem PySem.Spec PyProof.Rows L2

abbrev LIM : Nat := 16777216

inductive BOp where | add | sub | mul | mod | fdiv | pow
  deriving DecidableEq
inductive COp where | eq | ne | lt | le | gt | ge | isIn | notIn
  deriving DecidableEq
inductive Ty where | int | bool | str | list | tuple | dict
  deriving DecidableEq
inductive BF where | len | max | min | sum | all | list | tuple | str | int | abs | sorted
  deriving DecidableEq
inductive MF where | join | find | count
  deriving DecidableEq
inductive Tg where | nm (i : Nat) | tp (is : List Nat)
  deriving DecidableEq

mutual
inductive E where
  | var (i : Nat) | frz (i : Nat) | mov (i : Nat)
  | int (i : Int) | str (s : List Nat) | non | bl (b : Bool)
  | glb (x : String)
  | bin (o : BOp) (a b : E) | neg (a : E) | not (a : E)
  | cmp (o : COp) (a b : E) | isN (a : E) | notN (a : E) | cmp2 (o p : COp) (a b c : E)
  | and (a b : E) | or (a b : E)
  | call (f : String) (as : Es)
  | callB (f : String) (as : Es)
  | lrn (a : E)
  | blt (f : BF) (as : Es)
  | meth (m : MF) (a b : E)
  | isi (a : E) (t : Ty)
  | ix (a i : E) | sl (a : E) (lo hi : OE) | rev (a : E)
  | lst (es : Es) | tup (es : Es) | dic0
  | lc (own : List Nat) (tg : Tg) (it : I) (c : OE) (e : E)
inductive OE where
  | no | so (e : E)
inductive Es where
  | nil | cons (e : E) (es : Es)
inductive I where
  | seq (e : E) | rng1 (a : E) | rng2 (a b : E) | rng3 (a b c : E) | enum (e : E) | zip (a b : E) | rvd (a : E)
end

mutual
inductive S where
  | set (i : Nat) (e : E)
  | setF (i : Nat) (e : E)
  | setT (is : List Nat) (e : E)
  | sto (i : Nat) (ix e : E)
  | stoX (i : Nat) (ix iy e : E)
  | augV (i : Nat) (o : BOp) (e : E)
  | augS (i : Nat) (o : BOp) (ix e : E)
  | app (i : Nat) (e : E)
  | appX (i : Nat) (ix e : E)
  | ext (i : Nat) (e : E)
  | ex (e : E)
  | ife (c : E) (a b : Ss)
  | for (tg : Tg) (it : I) (body : Ss)
  | whl (fuel : Nat) (c : E) (body : Ss)
  | ret (e : E) | retN | pass | brk | cnt
  | dead
inductive Ss where
  | nil | cons (s : S) (ss : Ss)
end

/-- an own exception: its class, its fields -/
structure Exn where
  cls : String
  fs : List (Str × D)

inductive R (α : Type) where
  | bad | ok (a : α) (Γ : Env) | ex (x : Exn) (Γ : Env)
inductive SR where
  | bad | nx (Γ : Env) | rt (t : T) (Γ : Env) | bk (Γ : Env) | ct (Γ : Env) | ex (x : Exn) (Γ : Env)
inductive CR where
  | bad | ret (t : T) | ex (x : Exn)
abbrev Calls := String → List D → CR

@[inline] def R.bind {α β : Type} (r : R α) (f : α → Env → R β) : R β :=
  match r with
  | .bad => .bad
  | .ok a Γ => f a Γ
  | .ex x Γ => .ex x Γ
def R.op {α : Type} (o : Option α) (Γ : Env) : R α :=
  match o with
  | none => .bad
  | some a => .ok a Γ

/-! ### things by value -/
def elemB (d : D) : T := if d.flat then .v d else .b d
/-- a list that may be joined -/
def asL : T → Option (List T)
  | .v (.lst ds) => some (ds.map .v)
  | .b (.lst ds) => some (ds.map elemB)
  | .l ts => some ts
  | _ => none
/-- anything with items -/
def asQ : T → Option (List T)
  | .v (.lst ds) => some (ds.map .v)
  | .b (.lst ds) => some (ds.map elemB)
  | .l ts => some ts
  | .v (.tup ds) => some (ds.map .v)
  | .b (.tup ds) => some (ds.map elemB)
  | .tp ts => some ts
  | .v (.scr ns) => some (ns.map fun n => .v (.int n))
  | _ => none
/-- items for good -/
def asF : T → Option (List D)
  | .v (.lst ds) => some ds
  | .b (.lst ds) => if ds.all D.flat then some ds else none
  | .l ts => if T.noBs ts then some (T.ers ts) else none
  | _ => none
def addT : T → T → Option T
  | .v (.int i), .v (.int j) => some (.v (.int (i + j)))
  | .v (.str s), .v (.str t) => if s.length + t.length ≤ LIM then some (.v (.str (s ++ t))) else none
  | x, y =>
    match asL x, asL y with
    | some a, some b => if a.length + b.length ≤ LIM then some (.l (a ++ b)) else none
    | _, _ => none
def mulT : T → T → Option T
  | .v (.int i), .v (.int j) => if i.natAbs.log2 + j.natAbs.log2 < 1000000 then some (.v (.int (i * j))) else none
  | x, .v (.int k) =>
    match asF x with
    | some ds => if -(2 ^ 63) ≤ k ∧ k < 2 ^ 63 ∧ ds.length * k.toNat ≤ LIM then some (.l ((List.replicate k.toNat ds).flatten.map .v)) else none
    | none => none
  | _, _ => none
def binT (o : BOp) (x y : T) : Option T :=
  match o with
  | .add => addT x y
  | .mul => mulT x y
  | .sub => match x, y with
    | .v (.int i), .v (.int j) => some (.v (.int (i - j)))
    | _, _ => none
  | .mod => match x, y with
    | .v (.int i), .v (.int j) => if j ≠ 0 then some (.v (.int (i.fmod j))) else none
    | _, _ => none
  | .fdiv => match x, y with
    | .v (.int i), .v (.int j) => if 0 < j ∧ j.natAbs.log2 < 9000 then some (.v (.int (i / j))) else none
    | _, _ => none
  | .pow => match x, y with
    | .v (.int i), .v (.int j) => if 0 ≤ j ∧ j ≤ 1000000 ∧ i.natAbs < 2 ^ 64 then some (.v (.int (i ^ j.toNat))) else none
    | _, _ => none

mutual
def D.py : D → PyData
  | .non => .none
  | .bl b => .bool b
  | .int i => .int i
  | .str s => .str ⟨s.toArray⟩
  | .lst xs => .list (D.pys xs)
  | .tup xs => .tuple (D.pys xs)
  | .scr ns => .list (ns.map .int)
  | .dic0 => .dict []
def D.pys : List D → List PyData
  | [] => []
  | d :: ds => d.py :: D.pys ds
end
def eqD (a b : D) : Bool := PyData.eqv a.py b.py
mutual
def D.okD : D → Nat → Bool
  | .lst xs, n + 1 => D.okDs xs n
  | .tup xs, n + 1 => D.okDs xs n
  | .scr _, _ => false
  | .dic0, _ => false
  | .lst _, 0 => false
  | .tup _, 0 => false
  | _, _ => true
def D.okDs : List D → Nat → Bool
  | [], _ => true
  | d :: ds, n => d.okD n && D.okDs ds n
end
def eqT (x y : T) : Option Bool := if x.er.okD 60 && y.er.okD 60 then some (eqD x.er y.er) else none
/-- a list of lists: is it there -/
def inDT (d : D) : D → Option Bool
  | .lst ds => if d.okD 60 && (D.lst ds).okD 60 then some (ds.any fun z => eqD z d) else none
  | _ => none
def inT (x y : T) : Option Bool :=
  match x, y with
  | .v (.str [c]), .v (.str s) => some (decide (c ∈ s))
  | x, y =>
    match asQ y with
    | some ts => if x.er.flat && ts.all (fun t => t.er.flat) then some (ts.any fun t => eqD t.er x.er) else inDT x.er y.er
    | none => none
def intsT : List T → Option (List Int)
  | [] => some []
  | .v (.int i) :: ts => (intsT ts).map fun r => i :: r
  | _ => none
def lOnly : T → Option (List T)
  | .v (.lst ds) => some (ds.map .v)
  | .b (.lst ds) => some (ds.map elemB)
  | .l ts => some ts
  | .v (.scr ns) => some (ns.map fun n => .v (.int n))
  | _ => none
/-- lists of whole numbers, which is more -/
def gtN : List Int → List Int → Bool
  | [], _ => false
  | _ :: _, [] => true
  | x :: xs, y :: ys => if x = y then gtN xs ys else decide (y < x)
def rowsT : List T → Option (List (List T))
  | [] => some []
  | t :: ts => match asL t, rowsT ts with
    | some r, some rs => some (r :: rs)
    | _, _ => none
def insI (x : Int) : List Int → List Int
  | [] => [x]
  | y :: ys => if x ≤ y then x :: y :: ys else y :: insI x ys
def sortI : List Int → List Int
  | [] => []
  | x :: xs => insI x (sortI xs)
/-- pairs of whole numbers, owned -/
def pairTp (p : Int × Int) : T := .tp [.v (.int p.1), .v (.int p.2)]
def pairsT : List T → Option (List (Int × Int))
  | [] => some []
  | .tp [.v (.int a), .v (.int b)] :: ts => (pairsT ts).map fun r => (a, b) :: r
  | _ => none
def leP (p q : Int × Int) : Bool := decide (p.1 < q.1 ∨ (p.1 = q.1 ∧ p.2 ≤ q.2))
def insP (x : Int × Int) : List (Int × Int) → List (Int × Int)
  | [] => [x]
  | y :: ys => if leP x y then x :: y :: ys else y :: insP x ys
def sortP : List (Int × Int) → List (Int × Int)
  | [] => []
  | x :: xs => insP x (sortP xs)
def cmpT (o : COp) (x y : T) : Option Bool :=
  match o with
  | .eq => eqT x y
  | .ne => (eqT x y).map fun b => !b
  | .lt => match x, y with
    | .v (.int i), .v (.int j) => some (decide (i < j))
    | _, _ => none
  | .le => match x, y with
    | .v (.int i), .v (.int j) => some (decide (i ≤ j))
    | _, _ => none
  | .gt => match x, y with
    | .v (.int i), .v (.int j) => some (decide (j < i))
    | x, y => match (lOnly x).bind intsT, (lOnly y).bind intsT with
      | some ns, some ms => some (gtN ns ms)
      | _, _ => none
  | .ge => match x, y with
    | .v (.int i), .v (.int j) => some (decide (j ≤ i))
    | _, _ => none
  | .isIn => inT x y
  | .notIn => (inT x y).map fun b => !b
def D.isi (d : D) (t : Ty) : Bool :=
  match t, d with
  | .int, .int _ => true
  | .int, .bl _ => true
  | .bool, .bl _ => true
  | .str, .str _ => true
  | .list, .lst _ => true
  | .list, .scr _ => true
  | .tuple, .tup _ => true
  | .dict, .dic0 => true
  | _, _ => false
def D.isNon : D → Bool
  | .non => true
  | _ => false
def showI (i : Int) : List Nat := (Str.ofString (toString i)).cps.toList
def sizeT (t : T) : Option Nat :=
  match t with
  | .v (.str s) => some s.length
  | t => (asQ t).map List.length
def boolsT : List T → Option (List Bool)
  | [] => some []
  | .v (.bl i) :: ts => (boolsT ts).map fun r => i :: r
  | _ => none
def maxL (a : Int) (xs : List Int) : Int := xs.foldl (fun m x => if x > m then x else m) a
def minL (a : Int) (xs : List Int) : Int := xs.foldl (fun m x => if x < m then x else m) a
def bltT (f : BF) (ts : List T) : Option T :=
  match f, ts with
  | .len, [t] => (sizeT t).map fun n => .v (.int n)
  | .max, [.v (.int i), .v (.int j)] => some (.v (.int (if j > i then j else i)))
  | .min, [.v (.int i), .v (.int j)] => some (.v (.int (if j < i then j else i)))
  | .max, [t] => match (lOnly t).bind intsT with
    | some (a :: r) => some (.v (.int (maxL a r)))
    | _ => none
  | .min, [t] => match (lOnly t).bind intsT with
    | some (a :: r) => some (.v (.int (minL a r)))
    | _ => none
  | .sum, [t] => ((lOnly t).bind intsT).map fun ns => .v (.int ns.sum)
  | .sum, [t, .l []] => match (lOnly t).bind rowsT with
    | some rs => if rs.flatten.length ≤ LIM then some (.l rs.flatten) else none
    | none => none
  | .sorted, [t] => match (lOnly t).bind intsT with
    | some ns => some (.l ((sortI ns).map fun i => .v (.int i)))
    | none => ((lOnly t).bind pairsT).map fun ps => .l ((sortP ps).map pairTp)
  | .all, [t] => ((lOnly t).bind boolsT).map fun bs => .v (.bl (bs.all id))
  | .list, [t] => (asQ t).map .l
  | .tuple, [t] => match t with
    | .v (.tup ds) => some (.v (.tup ds))
    | .tp ts => some (.tp ts)
    | t => (lOnly t).map .tp
  | .str, [.v (.int i)] => if i.natAbs.log2 < 1920 then some (.v (.str (showI i))) else none
  | .int, [.v (.int i)] => some (.v (.int i))
  | .int, [.v (.bl b)] => some (.v (.int (if b then 1 else 0)))
  | .abs, [.v (.int i)] => some (.v (.int (if i < 0 then -i else i)))
  | _, _ => none
def strsT : List T → Option (List (List Nat))
  | [] => some []
  | .v (.str s) :: ts => (strsT ts).map fun r => s :: r
  | _ => none
def cutL {α : Type} (xs : List α) (lo hi : Option Int) : List α :=
  (xs.drop (HT.sIx xs.length 0 lo)).take (HT.sIx xs.length xs.length hi - HT.sIx xs.length 0 lo)
def findS (a b : List Nat) : Int := Txt.find ⟨a.toArray⟩ ⟨b.toArray⟩
def methT (m : MF) (x y : T) : Option T :=
  match m with
  | .join => match x, y with
    | .v (.str a), t => match (asQ t).bind strsT with
      | some ss => if (ss.map List.length).sum + ss.length * a.length ≤ LIM then some (.v (.str (TL.joinL a ss))) else none
      | none => none
    | _, _ => none
  | .find => match x, y with
    | .v (.str a), .v (.str b) => some (.v (.int (findS a b)))
    | _, _ => none
  | .count => match lOnly x with
    | some ts => if y.er.flat && ts.all (fun t => t.er.flat) then some (.v (.int ((ts.filter fun t => eqD t.er y.er).length : Nat))) else none
    | none => none
def mTy (m : MF) (x : T) : Bool :=
  match m with
  | .join | .find => (match x with
    | .v (.str _) => true
    | _ => false)
  | .count => (lOnly x).isSome
def ixT (x i : T) : Option T :=
  match x, i with
  | .v (.str s), .v (.int k) => (atI s k).map fun c => .v (.str [c])
  | x, .v (.int k) => (asQ x).bind fun ts => atI ts k
  | _, _ => none
def slT (x : T) (lo hi : Option Int) : Option T :=
  match x with
  | .v (.str s) => some (.v (.str (cutL s lo hi)))
  | x => (lOnly x).map fun ts => .l (cutL ts lo hi)
def revT (x : T) : Option T := (lOnly x).map fun ts => .l ts.reverse
def rangeD (lo : Int) (n : Nat) (c : Int) : List D := (List.range n).map fun (i : Nat) => D.int (lo + (i : Int) * c)
/-- the number of turns of range(a, b, c) -/
def rgN (a b c : Int) : Nat := (Builtin.Range.rangeSize a b c).toNat
def small62 (i : Int) : Bool := decide (-(2 ^ 62) ≤ i ∧ i < 2 ^ 62)
def itemsD : D → Option (List D)
  | .lst ds => some ds
  | .tup ds => some ds
  | .scr ns => some (ns.map .int)
  | .str s => some (s.map fun c => .str [c])
  | _ => none
def seqD : D → Option (List D)
  | .lst ds => some ds
  | .tup ds => some ds
  | .scr ns => some (ns.map .int)
  | _ => none
def listD : D → Option (List D)
  | .lst ds => some ds
  | .scr ns => some (ns.map .int)
  | _ => none
def setSlots (Γ : Env) : List Nat → List D → Option Env
  | [], [] => some Γ
  | i :: is, d :: ds => if i < Γ.length then setSlots (Γ.set i (some (.v d))) is ds else none
  | _, _ => none
def bindTg (tg : Tg) (d : D) (Γ : Env) : Option Env :=
  match tg with
  | .nm i => if i < Γ.length then some (Γ.set i (some (.v d))) else none
  | .tp is => match d with
    | .tup ds => setSlots Γ is ds
    | _ => none
def wipeE (Γ : Env) : List Nat → Env
  | [] => Γ
  | v :: vs => (wipeE Γ vs).set v none
def keepV : Option (Option T) → Option T
  | some (some (.v d)) => some (.v d)
  | _ => none
def restE (Γ1 Γ2 : Env) : List Nat → Env
  | [] => Γ2
  | v :: vs => restE Γ1 (Γ2.set v (keepV (Γ1[v]?))) vs
/-- frozen -/
def T.fz (t : T) : Option D := if t.noB then some t.er else none
def fzs : List T → Option (List D)
  | [] => some []
  | t :: ts => match t.fz, fzs ts with
    | some d, some ds => some (d :: ds)
    | _, _ => none

/-- a comprehension's turns -/
def lcL (step : D → Env → R (Option T)) : List D → Env → List T → R (List T)
  | [], Γ, acc => .ok acc Γ
  | d :: ds, Γ, acc =>
    match step d Γ with
    | .ok none Γ' => lcL step ds Γ' acc
    | .ok (some t) Γ' => lcL step ds Γ' (acc ++ [t])
    | _ => .bad
def forL (step : D → Env → SR) : List D → Env → SR
  | [], Γ => .nx Γ
  | d :: ds, Γ =>
    match step d Γ with
    | .nx Γ' => forL step ds Γ'
    | .ct Γ' => forL step ds Γ'
    | .bk Γ' => .nx Γ'
    | r => r
def whlL (c : Env → R T) (body : Env → SR) : Nat → Env → SR
  | 0, _ => .bad
  | n + 1, Γ =>
    match c Γ with
    | .ok (.v (.bl true)) Γ1 =>
      (match body Γ1 with
      | .nx Γ' => whlL c body n Γ'
      | .ct Γ' => whlL c body n Γ'
      | .bk Γ' => .nx Γ'
      | r => r)
    | .ok (.v (.bl false)) Γ1 => .nx Γ1
    | .ex x Γ1 => .ex x Γ1
    | _ => .bad

def isV : T → Bool
  | .v _ => true
  | _ => false
def bor : T → T
  | .v d => .v d
  | t => .b t.er

mutual
def evE (cl : Calls) (con : String → Option D) : E → Env → R T
  | .var i, Γ => match Γ[i]? with
    | some (some t) => .ok (bor t) Γ
    | _ => .bad
  | .frz i, Γ => match Γ[i]? with
    | some (some t) => if isV t then .ok t Γ else .ok (.v t.er) (Γ.set i (some (.v t.er)))
    | _ => .bad
  | .mov i, Γ => match Γ[i]? with
    | some (some t) => .ok t (Γ.set i none)
    | _ => .bad
  | .int i, Γ => .ok (.v (.int i)) Γ
  | .str s, Γ => .ok (.v (.str s)) Γ
  | .non, Γ => .ok (.v .non) Γ
  | .bl b, Γ => .ok (.v (.bl b)) Γ
  | .glb x, Γ => match con x with
    | some d => .ok (.v d) Γ
    | none => .bad
  | .bin o a b, Γ => (evE cl con a Γ).bind fun x Γ1 => (evE cl con b Γ1).bind fun y Γ2 => R.op (binT o x y) Γ2
  | .neg a, Γ => (evE cl con a Γ).bind fun x Γ1 => match x with
    | .v (.int i) => .ok (.v (.int (-i))) Γ1
    | _ => .bad
  | .not a, Γ => (evE cl con a Γ).bind fun x Γ1 => match x with
    | .v (.bl b) => .ok (.v (.bl (!b))) Γ1
    | _ => .bad
  | .cmp o a b, Γ => (evE cl con a Γ).bind fun x Γ1 => (evE cl con b Γ1).bind fun y Γ2 => R.op ((cmpT o x y).map fun c => .v (.bl c)) Γ2
  | .isN a, Γ => (evE cl con a Γ).bind fun x Γ1 => .ok (.v (.bl x.er.isNon)) Γ1
  | .notN a, Γ => (evE cl con a Γ).bind fun x Γ1 => .ok (.v (.bl (!x.er.isNon))) Γ1
  | .cmp2 o p a b c, Γ => (evE cl con a Γ).bind fun x Γ1 => (evE cl con b Γ1).bind fun y Γ2 => match cmpT o x y with
    | some true => (evE cl con c Γ2).bind fun z Γ3 => R.op ((cmpT p y z).map fun c => .v (.bl c)) Γ3
    | some false => .ok (.v (.bl false)) Γ2
    | none => .bad
  | .and a b, Γ => (evE cl con a Γ).bind fun x Γ1 => match x with
    | .v (.bl true) => evE cl con b Γ1
    | .v (.bl false) => .ok (.v (.bl false)) Γ1
    | _ => .bad
  | .or a b, Γ => (evE cl con a Γ).bind fun x Γ1 => match x with
    | .v (.bl false) => evE cl con b Γ1
    | .v (.bl true) => .ok (.v (.bl true)) Γ1
    | _ => .bad
  | .lrn a, Γ => (evE cl con a Γ).bind fun x Γ1 => match x with
    | .v (.int j) => if small62 j && decide (j ≤ LIM) then .ok (.l ((List.range j.toNat).map fun (i : Nat) => .v (.int (i : Int)))) Γ1 else .bad
    | _ => .bad
  | .callB f as, Γ => (evEs cl con as Γ).bind fun ts Γ1 => match cl f (T.ers ts) with
    | .ret (.v d) => if d.flat then .ok (.v d) Γ1 else .bad
    | _ => .bad
  | .call f as, Γ => (evEs cl con as Γ).bind fun ts Γ1 => match fzs ts with
    | none => .bad
    | some ds => match cl f ds with
      | .bad => .bad
      | .ret t => .ok t Γ1
      | .ex x => .ex x Γ1
  | .blt f as, Γ => (evEs cl con as Γ).bind fun ts Γ1 => R.op (bltT f ts) Γ1
  | .meth m a b, Γ => (evE cl con a Γ).bind fun x Γ1 => if mTy m x then (evE cl con b Γ1).bind fun y Γ2 => R.op (methT m x y) Γ2 else .bad
  | .isi a t, Γ => (evE cl con a Γ).bind fun x Γ1 => .ok (.v (.bl (x.er.isi t))) Γ1
  | .ix a i, Γ => (evE cl con a Γ).bind fun x Γ1 => (evE cl con i Γ1).bind fun y Γ2 => R.op (ixT x y) Γ2
  | .sl a lo hi, Γ => (evE cl con a Γ).bind fun x Γ1 => (evO cl con lo Γ1).bind fun l Γ2 => (evO cl con hi Γ2).bind fun h Γ3 => R.op (slT x l h) Γ3
  | .rev a, Γ => (evE cl con a Γ).bind fun x Γ1 => R.op (revT x) Γ1
  | .lst es, Γ => (evEs cl con es Γ).bind fun ts Γ1 => if T.noBs ts && decide (ts.length ≤ LIM) then .ok (.l ts) Γ1 else .bad
  | .tup es, Γ => (evEs cl con es Γ).bind fun ts Γ1 => if T.noBs ts && decide (ts.length ≤ LIM) then .ok (.tp ts) Γ1 else .bad
  | .dic0, Γ => .ok (.v .dic0) Γ
  | .lc own tg it c e, Γ => (evI cl con it Γ).bind fun ds Γ1 => if ds.length ≤ LIM then
    (lcL (fun d Γ2 => match bindTg tg d Γ2 with
      | none => .bad
      | some Γ3 => (evC cl con c Γ3).bind fun b Γ4 => match b with
        | false => .ok none (wipeE Γ4 own)
        | true => (evE cl con e Γ4).bind fun t Γ5 => if t.noB then .ok (some t) (wipeE Γ5 own) else .bad) ds (wipeE Γ1 own) []).bind fun ts Γ6 => .ok (.l ts) (restE Γ1 Γ6 own)
    else .bad
def evC (cl : Calls) (con : String → Option D) : OE → Env → R Bool
  | .no, Γ => .ok true Γ
  | .so e, Γ => (evE cl con e Γ).bind fun x Γ1 => match x with
    | .v (.bl b) => .ok b Γ1
    | _ => .bad
def evO (cl : Calls) (con : String → Option D) : OE → Env → R (Option Int)
  | .no, Γ => .ok none Γ
  | .so e, Γ => (evE cl con e Γ).bind fun x Γ1 => match x with
    | .v (.int i) => .ok (some i) Γ1
    | _ => .bad
def evEs (cl : Calls) (con : String → Option D) : Es → Env → R (List T)
  | .nil, Γ => .ok [] Γ
  | .cons e es, Γ => (evE cl con e Γ).bind fun t Γ1 => (evEs cl con es Γ1).bind fun ts Γ2 => .ok (t :: ts) Γ2
def evI (cl : Calls) (con : String → Option D) : I → Env → R (List D)
  | .seq e, Γ => (evE cl con e Γ).bind fun t Γ1 => R.op (t.fz.bind itemsD) Γ1
  | .rng1 a, Γ => (evE cl con a Γ).bind fun x Γ1 => match x with
    | .v (.int j) => if small62 j && decide (j ≤ LIM) then .ok (rangeD 0 j.toNat 1) Γ1 else .bad
    | _ => .bad
  | .rng2 a b, Γ => (evE cl con a Γ).bind fun x Γ1 => (evE cl con b Γ1).bind fun y Γ2 => match x, y with
    | .v (.int i), .v (.int j) => if small62 i && small62 j && decide (j - i ≤ LIM) then .ok (rangeD i (j - i).toNat 1) Γ2 else .bad
    | _, _ => .bad
  | .rng3 a b c, Γ => (evE cl con a Γ).bind fun x Γ1 => (evE cl con b Γ1).bind fun y Γ2 => (evE cl con c Γ2).bind fun z Γ3 => match x, y, z with
    | .v (.int i), .v (.int j), .v (.int k) => if Builtin.Range.small i j k && decide (0 < k ∧ k < 1073741824) && decide (j - i ≤ LIM) then .ok (rangeD i (rgN i j k) k) Γ3 else .bad
    | _, _, _ => .bad
  | .enum e, Γ => (evE cl con e Γ).bind fun t Γ1 => match t.fz.bind listD with
    | some ds => .ok (ds.zipIdx.map fun p => .tup [.int p.2, p.1]) Γ1
    | none => .bad
  | .zip a b, Γ => (evE cl con a Γ).bind fun x Γ1 => (evE cl con b Γ1).bind fun y Γ2 => match x.fz.bind listD, y.fz.bind listD with
    | some ds, some es => .ok ((ds.zip es).map fun p => .tup [p.1, p.2]) Γ2
    | _, _ => .bad
  | .rvd a, Γ => (evE cl con a Γ).bind fun t Γ1 => match t.fz.bind listD with
    | some ds => .ok ds.reverse Γ1
    | none => .bad
end

def liftE (r : R T) (f : T → Env → SR) : SR :=
  match r with
  | .bad => .bad
  | .ok a Γ => f a Γ
  | .ex x Γ => .ex x Γ
def liftI (r : R (List D)) (f : List D → Env → SR) : SR :=
  match r with
  | .bad => .bad
  | .ok a Γ => f a Γ
  | .ex x Γ => .ex x Γ
/-! ### lists that are written -/
def isLs (Γ : Env) (i : Nat) : Bool := match Γ[i]? with
  | some (some (.l _)) => true
  | _ => false
def ixT1 (n : Nat) : T → Option Nat
  | .v (.int j) => ixN n j
  | _ => none
def isLs2 (Γ : Env) (i : Nat) (k : T) : Bool := match Γ[i]? with
  | some (some (.l ts)) => (match (ixT1 ts.length k).bind fun n => ts[n]? with
    | some (.l _) => true
    | _ => false)
  | _ => false
def putO (Γ : Env) (i : Nat) (o : Option T) : SR := match o with
  | some t => .nx (Γ.set i (some t))
  | none => .bad
def stoT (o : Option (Option T)) (k t : T) : Option T := match o with
  | some (some (.l ts)) => (ixT1 ts.length k).bind fun n => if t.noB then some (.l (ts.set n t)) else none
  | _ => none
def stoXT (o : Option (Option T)) (k j t : T) : Option T := match o with
  | some (some (.l ts)) => (ixT1 ts.length k).bind fun n => match ts[n]? with
    | some (.l us) => (ixT1 us.length j).bind fun m => if t.noB then some (.l (ts.set n (.l (us.set m t)))) else none
    | _ => none
  | _ => none
def appT (o : Option (Option T)) (t : T) : Option T := match o with
  | some (some (.l ts)) => if t.noB && decide (ts.length < LIM) then some (.l (ts ++ [t])) else none
  | _ => none
def appXT (o : Option (Option T)) (k t : T) : Option T := match o with
  | some (some (.l ts)) => (ixT1 ts.length k).bind fun n => match ts[n]? with
    | some (.l us) => if t.noB && decide (us.length < LIM) then some (.l (ts.set n (.l (us ++ [t])))) else none
    | _ => none
  | _ => none
def lstT : T → Option (List T)
  | .v (.lst ds) => some (ds.map .v)
  | .b (.lst ds) => if ds.all D.flat then some (ds.map .v) else none
  | .l ts => some ts
  | _ => none
def extT (o : Option (Option T)) (t : T) : Option T := match o, lstT t with
  | some (some (.l ts)), some us => if T.noBs us && decide (ts.length + us.length ≤ LIM) then some (.l (ts ++ us)) else none
  | _, _ => none
def getI (o : Option (Option T)) (k : T) : Option Int := match o with
  | some (some (.l ts)) => match (ixT1 ts.length k).bind fun n => ts[n]? with
    | some (.v (.int x)) => some x
    | _ => none
  | _ => none
def augI (o : BOp) (x : Int) (t : T) : Option Int := match o, t with
  | .add, .v (.int y) => some (x + y)
  | .sub, .v (.int y) => some (x - y)
  | _, _ => none
def augT (o : BOp) (s : Option (Option T)) (k : T) (x : Int) (t : T) : Option T := match s with
  | some (some (.l ts)) => (ixT1 ts.length k).bind fun n => (augI o x t).map fun z => .l (ts.set n (.v (.int z)))
  | _ => none

mutual
def evS (cl : Calls) (con : String → Option D) : S → Env → SR
  | .set i e, Γ => liftE (evE cl con e Γ) fun t Γ1 => if t.noB && decide (i < Γ1.length) then .nx (Γ1.set i (some t)) else .bad
  | .setF i e, Γ => liftE (evE cl con e Γ) fun t Γ1 => match t.fz with
    | some d => if i < Γ1.length then .nx (Γ1.set i (some (.v d))) else .bad
    | none => .bad
  | .setT is e, Γ => liftE (evE cl con e Γ) fun t Γ1 => match t.fz.bind seqD with
    | some ds => (match setSlots Γ1 is ds with
      | some Γ2 => .nx Γ2
      | none => .bad)
    | none => .bad
  | .sto i ix e, Γ => liftE (evE cl con e Γ) fun t Γ1 => if isLs Γ1 i then liftE (evE cl con ix Γ1) fun k Γ2 => putO Γ2 i (stoT (Γ2[i]?) k t) else .bad
  | .stoX i ix iy e, Γ => liftE (evE cl con e Γ) fun t Γ1 => if isLs Γ1 i then liftE (evE cl con ix Γ1) fun k Γ2 => if isLs2 Γ2 i k then liftE (evE cl con iy Γ2) fun j Γ3 => putO Γ3 i (stoXT (Γ3[i]?) k j t) else .bad else .bad
  | .augV i o e, Γ => match Γ[i]? with
    | some (some (.v (.int x))) => liftE (evE cl con e Γ) fun t Γ1 => putO Γ1 i ((augI o x t).map fun z => .v (.int z))
    | _ => .bad
  | .augS i o ix e, Γ => if isLs Γ i then liftE (evE cl con ix Γ) fun k Γ1 => match getI (Γ1[i]?) k with
    | some x => liftE (evE cl con e Γ1) fun t Γ2 => putO Γ2 i (augT o (Γ2[i]?) k x t)
    | none => .bad
    else .bad
  | .app i e, Γ => if isLs Γ i then liftE (evE cl con e Γ) fun t Γ1 => putO Γ1 i (appT (Γ1[i]?) t) else .bad
  | .appX i ix e, Γ => if isLs Γ i then liftE (evE cl con ix Γ) fun k Γ1 => if isLs2 Γ1 i k then liftE (evE cl con e Γ1) fun t Γ2 => putO Γ2 i (appXT (Γ2[i]?) k t) else .bad else .bad
  | .ext i e, Γ => if isLs Γ i then liftE (evE cl con e Γ) fun t Γ1 => putO Γ1 i (extT (Γ1[i]?) t) else .bad
  | .ex e, Γ => liftE (evE cl con e Γ) fun _ Γ1 => .nx Γ1
  | .ife c a b, Γ => liftE (evE cl con c Γ) fun t Γ1 => match t with
    | .v (.bl true) => evSs cl con a Γ1
    | .v (.bl false) => evSs cl con b Γ1
    | _ => .bad
  | .for tg it body, Γ => liftI (evI cl con it Γ) fun ds Γ1 => forL (fun d Γ2 => match bindTg tg d Γ2 with
    | some Γ3 => evSs cl con body Γ3
    | none => .bad) ds Γ1
  | .whl n c body, Γ => whlL (evE cl con c) (evSs cl con body) n Γ
  | .ret e, Γ => liftE (evE cl con e Γ) fun t Γ1 => if t.noB then .rt t Γ1 else .bad
  | .retN, Γ => .rt (.v .non) Γ
  | .pass, Γ => .nx Γ
  | .brk, Γ => .bk Γ
  | .cnt, Γ => .ct Γ
  | .dead, _ => .bad
def evSs (cl : Calls) (con : String → Option D) : Ss → Env → SR
  | .nil, Γ => .nx Γ
  | .cons s ss, Γ => match evS cl con s Γ with
    | .nx Γ1 => evSs cl con ss Γ1
    | r => r
end

structure Fn where
  np : Nat
  ns : Nat
  body : Ss
def env0 (ds : List D) (ns : Nat) : Env := ds.map (fun d => some (.v d)) ++ List.replicate (ns - ds.length) none
def toCR : SR → CR
  | .rt t _ => if t.noB then .ret t else .bad
  | .nx _ => .ret (.v .non)
  | .ex x _ => .ex x
  | _ => .bad
def evF (P : String → Option Fn) (con : String → Option D) : Nat → Calls
  | 0, _, _ => .bad
  | k + 1, f, ds => match P f with
    | none => .bad
    | some fn => if ds.length = fn.np then toCR (evSs (evF P con k) con fn.body (env0 ds fn.ns)) else .bad
end Tv

namespace Tv
open PySem PySem.Spec PyProof.Rows L2

/-! ### does the small tree tell the text's -/
structure CP where
  blk : Bool
  fns : List String
def visB (sc : Scope) (x : Str) : Bool :=
  match sc.names.lookup x with
  | some .local => true
  | some .cell => true
  | some .free => true
  | _ => false
def glB (sc : Scope) (x : Str) : Bool := decide (sc.names.lookup x = some .globalImplicit)
def stB (sc : Scope) (b : CP) (x : Str) : Bool := decide (sc.names.lookup x = some .local) || (!b.blk && decide (sc.names.lookup x = some .cell))
def chkName (N : List Str) (sc : Scope) (i : Nat) (e : Expr) : Bool :=
  match e with
  | .Name x _ => decide (N[i]? = some x) && visB sc x && !(x == ("__debug__" : Str)) && !(x == ("__classdict__" : Str))
  | _ => false
def isGl (sc : Scope) (n : String) (e : Expr) : Bool :=
  match e with
  | .Name x _ => decide (x = Str.ofString n) && glB sc x
  | _ => false
def chkSt (N : List Str) (sc : Scope) (b : CP) (i : Nat) (e : Expr) : Bool :=
  match e with
  | .Name x _ => decide (N[i]? = some x) && stB sc b x
  | _ => false
def chkSts (N : List Str) (sc : Scope) (b : CP) : List Nat → List Expr → Bool
  | [], [] => true
  | i :: is, e :: es => chkSt N sc b i e && chkSts N sc b is es
  | _, _ => false
def chkTg (N : List Str) (sc : Scope) (b : CP) (tg : Tg) (e : Expr) : Bool :=
  match tg with
  | .nm i => chkSt N sc b i e
  | .tp is => match e with
    | .Tuple es _ _ => chkSts N sc b is es
    | _ => false
def Tg.slots : Tg → List Nat
  | .nm i => [i]
  | .tp is => is
def isTuple : Expr → Bool
  | .Tuple .. => true
  | _ => false
def BOp.op : BOp → Operator
  | .add => .Add | .sub => .Sub | .mul => .Mult | .mod => .Mod | .fdiv => .FloorDiv | .pow => .Pow
def COp.op : COp → CmpOp
  | .eq => .Eq | .ne => .NotEq | .lt => .Lt | .le => .LtE | .gt => .Gt | .ge => .GtE | .isIn => .In | .notIn => .NotIn
def BF.nm : BF → String
  | .len => "len" | .max => "max" | .min => "min" | .sum => "sum" | .all => "all" | .list => "list" | .tuple => "tuple" | .str => "str" | .int => "int" | .abs => "abs" | .sorted => "sorted"
def BF.ty : BF → Bool
  | .list | .tuple | .str | .int => true
  | _ => false
def MF.nm : MF → String
  | .join => "join" | .find => "find" | .count => "count"
def Ty.nm : Ty → String
  | .int => "int" | .bool => "bool" | .str => "str" | .list => "list" | .tuple => "tuple" | .dict => "dict"
def notStar : Expr → Bool
  | .Starred .. => false
  | _ => true
def notSet : Expr → Bool
  | .Set .. => false
  | _ => true
def ownP (N : List Str) (own : List Nat) : List (Str × Nat) := own.filterMap fun i => (N[i]?).map fun x => (x, i)

mutual
def chkE (N : List Str) (sc : Scope) (b : CP) : E → Expr → Bool
  | .var i, e => chkName N sc i e
  | .frz i, e => chkName N sc i e
  | .mov i, e => chkName N sc i e
  | .int i, e => match e with
    | .Constant (.int j) _ _ => decide (i = j)
    | _ => false
  | .str s, e => match e with
    | .Constant (.str x) _ _ => decide (x.cps.toList = s) && okS s
    | _ => false
  | .non, e => match e with
    | .Constant .none _ _ => true
    | _ => false
  | .bl c, e => match e with
    | .Constant (.bool d) _ _ => decide (c = d)
    | _ => false
  | .glb x, e => isGl sc x e && !(Str.ofString x == ("__debug__" : Str))
  | .bin o a c, e => match e with
    | .BinOp x op y _ => decide (op = o.op) && chkE N sc b a x && chkE N sc b c y
    | _ => false
  | .neg a, e => match e with
    | .UnaryOp .USub x _ => chkE N sc b a x
    | _ => false
  | .not a, e => match e with
    | .UnaryOp .Not x _ => chkE N sc b a x
    | _ => false
  | .cmp o a c, e => match e with
    | .Compare x [op] [y] _ => decide (op = o.op) && chkE N sc b a x && chkE N sc b c y
    | _ => false
  | .isN a, e => match e with
    | .Compare x [.Is] [.Constant .none _ _] _ => chkE N sc b a x
    | _ => false
  | .notN a, e => match e with
    | .Compare x [.IsNot] [.Constant .none _ _] _ => chkE N sc b a x
    | _ => false
  | .cmp2 o p a c d, e => match e with
    | .Compare x [op, oq] [y, z] _ => decide (op = o.op) && decide (oq = p.op) && chkE N sc b a x && chkE N sc b c y && chkE N sc b d z
    | _ => false
  | .and a c, e => match e with
    | .BoolOp .And (x :: y :: r) q => chkE N sc b a x && (if r.isEmpty then chkE N sc b c y else chkE N sc b c (.BoolOp .And (y :: r) q))
    | _ => false
  | .or a c, e => match e with
    | .BoolOp .Or (x :: y :: r) q => chkE N sc b a x && (if r.isEmpty then chkE N sc b c y else chkE N sc b c (.BoolOp .Or (y :: r) q))
    | _ => false
  | .call f as, e => match e with
    | .Call (.Name x _) (y :: ys) [] _ => decide (x = Str.ofString f) && b.fns.contains f && glB sc x && !(x == ("__debug__" : Str)) && chkEs N sc b as (y :: ys)
    | _ => false
  | .lrn a, e => match e with
    | .Call fn [.Call gn [y] [] _] [] _ => isGl sc "list" fn && isGl sc "range" gn && chkE N sc b a y && notStar y
    | _ => false
  | .callB f as, e => match e with
    | .Call (.Name x _) (y :: ys) [] _ => decide (x = Str.ofString f) && b.fns.contains f && glB sc x && !(x == ("__debug__" : Str)) && chkEs N sc b as (y :: ys)
    | _ => false
  | .blt f as, e => match e with
    | .Call fn (y :: ys) [] _ => isGl sc f.nm fn && chkEs N sc b as (y :: ys)
    | _ => false
  | .meth m a c, e => match e with
    | .Call (.Attribute x n ap) [y] [] cp => decide (n = Str.ofString m.nm) && decide (ap.endLine = cp.line) && chkE N sc b a x && chkE N sc b c y
    | _ => false
  | .isi a t, e => match e with
    | .Call fn [x, y] [] _ => isGl sc "isinstance" fn && chkE N sc b a x && isGl sc t.nm y
    | _ => false
  | .ix a i, e => match e with
    | .Subscript x y _ => chkE N sc b a x && chkE N sc b i y
    | _ => false
  | .sl a lo hi, e => match e with
    | .Subscript x (.Slice l h none _) _ => chkE N sc b a x && chkO N sc b lo l && chkO N sc b hi h
    | _ => false
  | .rev a, e => match e with
    | .Subscript x (.Slice none none (some (.UnaryOp .USub (.Constant (.int 1) _ _) _)) _) _ => chkE N sc b a x
    | _ => false
  | .lst es, e => match e with
    | .List xs _ => chkEs N sc b es xs
    | _ => false
  | .tup es, e => match e with
    | .Tuple xs _ _ => chkEs N sc b es xs
    | _ => false
  | .dic0, e => match e with
    | .Dict [] [] _ => true
    | _ => false
  | .lc own tg it c m, e => match e with
    | .ListComp x [⟨t, iter, ifs, 0⟩] scope _ => chkI N sc b it t iter && decide own.Nodup && blkC N sc scope (ownP N own) && decide ((ownP N own).map (·.2) = own) && chkTg N (relS scope sc) ⟨true, b.fns⟩ tg t &&
        (tg.slots.all fun i => own.contains i) && (match c, ifs with
          | .no, [] => true
          | .so k, [y] => chkE N (relS scope sc) ⟨true, b.fns⟩ k y
          | _, _ => false) && chkE N (relS scope sc) ⟨true, b.fns⟩ m x
    | _ => false
def chkO (N : List Str) (sc : Scope) (b : CP) : OE → Option Expr → Bool
  | .no, none => true
  | .so e, some x => chkE N sc b e x
  | _, _ => false
def chkEs (N : List Str) (sc : Scope) (b : CP) : Es → List Expr → Bool
  | .nil, [] => true
  | .cons e es, x :: xs => chkE N sc b e x && notStar x && chkEs N sc b es xs
  | _, _ => false
def chkI (N : List Str) (sc : Scope) (b : CP) : I → Expr → Expr → Bool
  | .seq m, _, e => chkE N sc b m e && notSet e
  | .rng1 a, _, e => match e with
    | .Call fn [x] [] _ => isGl sc "range" fn && chkE N sc b a x && notStar x
    | _ => false
  | .rng2 a c, _, e => match e with
    | .Call fn [x, y] [] _ => isGl sc "range" fn && chkE N sc b a x && chkE N sc b c y && notStar x && notStar y
    | _ => false
  | .rng3 a c d, _, e => match e with
    | .Call fn [x, y, z] [] _ => isGl sc "range" fn && chkE N sc b a x && chkE N sc b c y && chkE N sc b d z && notStar x && notStar y && notStar z
    | _ => false
  | .enum a, t, e => match e with
    | .Call fn [x] [] _ => isGl sc "enumerate" fn && chkE N sc b a x && notStar x && isTuple t
    | _ => false
  | .zip a c, t, e => match e with
    | .Call fn [x, y] [] _ => isGl sc "zip" fn && chkE N sc b a x && chkE N sc b c y && notStar x && notStar y && isTuple t
    | _ => false
  | .rvd a, _, e => match e with
    | .Call fn [x] [] _ => isGl sc "reversed" fn && chkE N sc b a x && notStar x
    | _ => false
end

/-! ### the wishes -/
structure Glob where
  cl : Calls
  con : String → Option D
  exr : Exn → Value → Option Addr → Hp → Hp → Prop

def Post {α β : Type} (K : W.Frag) (G : Glob) (W : WX) (B : Base) (F H : Hp) (σ : L2.St) (tmp : List Addr) (rep : Hp → Hp → β → α → List Addr → Prop) (r : R α) (Q : β → Hp → Prop) : Prop :=
  match r with
  | .bad => False
  | .ok a Γ => ∀ v F' H' fp, Rel K B F' H' σ Γ (fp ++ tmp) → rep F' H' v a fp → Sub H H' → Sub F F' → Q v H'
  | .ex x Γ => ∀ c d F' H', Rel K B F' H' σ Γ tmp → Sub H H' → Sub F F' → G.exr x c d F' H' → W c d σ H'
section
variable {α β γ δ : Type} {K : W.Frag} {G : Glob} {W : WX} {B : Base} {F F1 H H1 : Hp} {σ : L2.St} {Γ : Env} {tmp fp : List Addr} {rep : Hp → Hp → β → α → List Addr → Prop} {rep2 : Hp → Hp → δ → γ → List Addr → Prop} {r : R α} {Q Q' : β → Hp → Prop}
theorem Post.imp (P : Post K G W B F H σ tmp rep r Q) (h : ∀ v H', Q v H' → Q' v H') : Post K G W B F H σ tmp rep r Q' := by
  cases r with
  | bad => exact P
  | ok a Γ => exact fun v F' H' fp a b c d => h _ _ (P v F' H' fp a b c d)
  | ex x Γ => exact P
theorem Post.later (P : Post K G W B F H σ tmp rep r Q) (hH : Sub H H1) (hF : Sub F F1) : Post K G W B F1 H1 σ tmp rep r Q := by
  cases r with
  | bad => exact P
  | ok a Γ => exact fun v F' H' fp a b c d => P v F' H' fp a b (hH.trans c) (hF.trans d)
  | ex x Γ => exact fun c d F' H' a b e f => P c d F' H' a (hH.trans b) (hF.trans e) f
theorem Post.bind {f : α → Env → R γ} {Q2 : δ → Hp → Prop} (P : Post K G W B F H σ tmp rep2 (r.bind f) Q2) :
    Post K G W B F H σ (fp ++ tmp) rep r (fun v H' => ∃ a Γ' F' fp', Rel K B F' H' σ Γ' (fp' ++ (fp ++ tmp)) ∧ rep F' H' v a fp' ∧ Sub H H' ∧ Sub F F' ∧ Post K G W B F' H' σ tmp rep2 (f a Γ') Q2) := by
  cases r with
  | bad => exact P
  | ok a Γ => exact fun v F' H' fp' h1 h2 h3 h4 => ⟨a, Γ, F', fp', h1, h2, h3, h4, P.later h3 h4⟩
  | ex x Γ => exact fun c d F' H' h1 h2 h3 h4 => P c d F' H' (h1.less fun a => by rw [List.count_append]; omega) h2 h3 h4
end
def TM {α β : Type} (K : W.Frag) (G : Glob) (W : WX) (rep : Hp → Hp → β → α → List Addr → Prop) (ev : Env → R α) : L2.St → Hp → (β → Hp → Prop) → Prop :=
  fun σ H Q => ∃ B F Γ tmp, Rel K B F H σ Γ tmp ∧ Post K G W B F H σ tmp rep (ev Γ) Q
abbrev rT (K : W.Frag) : Hp → Hp → V → T → List Addr → Prop := fun F H v t fp => RpT K F H v t fp
abbrev rTs (K : W.Frag) : Hp → Hp → List V → List T → List Addr → Prop := fun F H v t fp => RpTs K F H v t fp
abbrev TE' (K : W.Frag) (G : Glob) (W : WX) (m : E) : TE := TM K G W (rT K) (evE G.cl G.con m)
abbrev TA' (K : W.Frag) (G : Glob) (W : WX) (m : Es) : TA := TM K G W (rTs K) (evEs G.cl G.con m)

def bltNames : List String := ["len", "max", "min", "sum", "all", "list", "tuple", "str", "int", "abs", "sorted", "isinstance", "bool", "dict", "range", "enumerate", "zip", "reversed"]
/-- a call's promise: what the small run says -/
def spE (K : W.Frag) (G : Glob) (f : String) : Sp := fun vs H Q E => ∃ F ds, Sub F H ∧ RpDs K F vs ds ∧
  (match G.cl f ds with
  | .bad => False
  | .ret t => ∀ v F' H' fp, Sub H H' → Sub F F' → Sub F' H' → (∀ a, H a ≠ none → F' a = F a) → RpT K F' H' v t fp → t.noB = true → (∀ a, fp.count a ≤ 1) → (∀ a ∈ fp, F' a = none ∧ H a = none ∧ H' a ≠ none) → Q v H'
  | .ex x => ∀ c d F' H', Sub H H' → Sub F F' → Sub F' H' → (∀ a, H a ≠ none → F' a = F a) → G.exr x c d F' H' → E c d H')
/-- a context in which the small tree tells what runs -/
structure Gd (X : Cx) (G : Glob) (W : WX) (b : CP) : Prop where
  nd : X.N.Nodup
  calm : X.calm = true
  own : PassesOwn (model X.prog X.w) X.A X.env X.xe
  tk : Takes X W
  hu : X.A.units + 66 < cLine
  st : b.blk = false → ∀ x, X.fn x = true
  con : ∀ x d, G.con x = some d → ∃ u v, X.mg (Str.ofString x) = some u ∧ RelV v u ∧ RpD X.K (fun _ => none) v d
  blt : ∀ x ∈ bltNames, X.mg (Str.ofString x) = none
  fn : ∀ f ∈ b.fns, ∃ a fd ps k, X.mg (Str.ofString f) = some (.ref a) ∧ PySem.W.keepIn X.K (.ref a) = true ∧ L2.Binds X.K fd ps [] ∧ FnOk X.prog X.w X.K X.mg X.base (L2.CX X.prog X.w) k a fd ps (spE X.K G f) ∧ Room k X.A
theorem PE.imp {X : Cx} {e : Expr} {t t' : TE} (h : PE X e t) (i : ∀ σ H Q, t' σ H Q → t σ H Q) : PE X e t' := ⟨fun pins s σ H Q I q => h.run pins s σ H Q I (i σ H Q q)⟩
theorem PT.imp {X : Cx} {e : Expr} {t t' : TT} (h : PT X e t) (i : ∀ σ H Q, t' σ H Q → t σ H Q) : PT X e t' := ⟨fun pins s σ H Q I q => h.run pins s σ H Q I (i σ H Q q)⟩
theorem PW.imp {X : Cx} {e : Expr} {t t' : TT} (h : PW X e t) (i : ∀ σ H Q, t' σ H Q → t σ H Q) : PW X e t' := ⟨fun w pins s σ H Q I q => h.run w pins s σ H Q I (i σ H Q q)⟩
theorem PA.imp {X : Cx} {e : List Expr} {t t' : TA} (h : PA X e t) (i : ∀ σ H Q, t' σ H Q → t σ H Q) : PA X e t' := ⟨fun p pins s σ H Q I q => h.run p pins s σ H Q I (i σ H Q q)⟩
theorem PI.imp {X : Cx} {tg e : Expr} {t t' : TI} (h : PI X tg e t) (i : ∀ σ H Q, t' σ H Q → t σ H Q) : PI X tg e t' := ⟨fun pins s σ H Q I q => h.run pins s σ H Q I (i σ H Q q)⟩
theorem PO.imp {X : Cx} {e : Option Expr} {t t' : TO} (h : PO X e t) (i : ∀ σ H Q, t' σ H Q → t σ H Q) : PO X e t' := ⟨fun pins s σ H Q I q => h.run pins s σ H Q I (i σ H Q q)⟩

/-- the promise of a small tree: as a value, as a test, as a part of and, or -/
structure Ok (G : Glob) (m : E) : Prop where
  pe : ∀ X W b e, Gd X G W b → chkE X.N X.env.scope b m e = true → PE X e (TE' X.K G W m)
  pt : ∀ X W b e, Gd X G W b → chkE X.N X.env.scope b m e = true → PT X e (tB (TE' X.K G W m))
  pw : ∀ X W b op vs pos, Gd X G W b → chkE X.N X.env.scope b m (.BoolOp op vs pos) = true → PW X (.BoolOp op vs pos) (tB (TE' X.K G W m))
def OkO (G : Glob) (m : OE) : Prop := ∀ X W b e, Gd X G W b → chkO X.N X.env.scope b m e = true → PO X e (TM X.K G W (fun _ _ v a fp => v = a ∧ fp = []) (evO G.cl G.con m))
def OkEs (G : Glob) (m : Es) : Prop := ∀ X W b e, Gd X G W b → chkEs X.N X.env.scope b m e = true → PA X e (TA' X.K G W m)

section
variable {G : Glob}
/-- a value that is in hand -/
theorem Post.now {K : W.Frag} {W : WX} {B : Base} {F H : Hp} {σ : L2.St} {Γ : Env} {tmp fp : List Addr} {t : T} {Q : VK} {v : V} {F' H' : Hp} (P : Post K G W B F H σ tmp (rT K) (.ok t Γ) Q) (r : Rel K B F' H' σ Γ (fp ++ tmp)) (rt : RpT K F' H' v t fp) (hH : Sub H H') (hF : Sub F F') : Q v H' := P v F' H' fp r rt hH hF
theorem Post.flat {K : W.Frag} {W : WX} {B : Base} {F H : Hp} {σ : L2.St} {Γ : Env} {tmp fp : List Addr} {d : D} {Q : VK} {v : V} (P : Post K G W B F H σ tmp (rT K) (.ok (.v d) Γ) Q) (r : Rel K B F H σ Γ (fp ++ tmp)) (rt : RpD K F v d) : Q v H :=
  P v F H [] (r.less fun a => by rw [List.count_append, List.count_append]; simp) (.v rt) Sub.rfl Sub.rfl
/-- other forms than and, or: no part of them -/
theorem pw_no {m : E} (h : ∀ N sc b op vs pos, chkE N sc b m (.BoolOp op vs pos) = false) : ∀ X W b op vs pos, Gd X G W b → chkE X.N X.env.scope b m (.BoolOp op vs pos) = true → PW X (.BoolOp op vs pos) (tB (TE' X.K G W m)) := by
  intro X W b op vs pos _ c
  rw [h] at c; cases c
theorem tB_of {X : Cx} {e : Expr} {t : TE} (h : PE X e t) (he : ∀ whole, isTrue e X.env whole = (do let v ← whole; standAt e.pos; holding [v] (truthy v))) : PT X e (tB t) := pt_val h he
theorem vis_of {sc : Scope} {x : Str} (h : visB sc x = true) : Vis sc x := by
  unfold visB at h
  split at h
  · rename_i e; exact .inl e
  · rename_i e; exact .inr (.inl e)
  · rename_i e; exact .inr (.inr e)
  · cases h
theorem name_of {X : Cx} {i : Nat} {e : Expr} (h : chkName X.N X.env.scope i e = true) : ∃ x pos, e = .Name x pos ∧ PE X e (tVar i) := by
  unfold chkName at h
  split at h
  · rename_i x pos
    simp only [Bool.and_eq_true, decide_eq_true_eq, Bool.not_eq_true'] at h
    obtain ⟨⟨⟨h1, h2⟩, h3⟩, h4⟩ := h
    exact ⟨x, pos, rfl, pe_var h1 (vis_of h2) h3 h4⟩
  · cases h
theorem getσ {K : W.Frag} {B : Base} {F H : Hp} {σ : L2.St} {Γ : Env} {tmp : List Addr} {i : Nat} {t : T} (r : Rel K B F H σ Γ tmp) (e : Γ[i]? = some (some t)) : ∃ x f, σ[i]? = some (some x) ∧ RpT K F H x t f ∧ t.noB = true := r.get e
theorem ok_var (i : Nat) : Ok G (.var i) := by
  have pe : ∀ X W b e, Gd X G W b → chkE X.N X.env.scope b (.var i) e = true → PE X e (TE' X.K G W (.var i)) := by
    intro X W b e g c
    obtain ⟨x, pos, rfl, p⟩ := name_of (show chkName X.N X.env.scope i e = true from c)
    refine PE.imp p fun σ H Q h => ?_
    obtain ⟨B, F, Γ, tmp, rel, P⟩ := h
    simp only [evE] at P
    split at P
    · rename_i t e
      obtain ⟨v, f, hv, rt, nb⟩ := rel.get e
      refine ⟨v, hv, ?_⟩
      have rd := rt.read rel.sub
      cases t with
      | v d =>
        cases rt with
        | v rd => exact P v F H [] (by simpa using rel) (.v rd) Sub.rfl Sub.rfl
      | b d => cases nb
      | l ts => exact P v F H [] (by simpa using rel) (.b rd) Sub.rfl Sub.rfl
      | tp ts => exact P v F H [] (by simpa using rel) (.b rd) Sub.rfl Sub.rfl
    · exact P.elim
  refine ⟨pe, fun X W b e g c => ?_, pw_no fun N sc b op vs pos => rfl⟩
  obtain ⟨x, pos, rfl, _⟩ := name_of (show chkName X.N X.env.scope i e = true from c)
  exact tB_of (pe X W b _ g c) fun _ => rfl
theorem ok_frz (i : Nat) : Ok G (.frz i) := by
  have pe : ∀ X W b e, Gd X G W b → chkE X.N X.env.scope b (.frz i) e = true → PE X e (TE' X.K G W (.frz i)) := by
    intro X W b e g c
    obtain ⟨x, pos, rfl, p⟩ := name_of (show chkName X.N X.env.scope i e = true from c)
    refine PE.imp p fun σ H Q h => ?_
    obtain ⟨B, F, Γ, tmp, rel, P⟩ := h
    simp only [evE] at P
    split at P
    · rename_i t e
      obtain ⟨v, f, hv, rt, nb, rel2⟩ := rel.take e
      refine ⟨v, hv, ?_⟩
      have rd := rt.freeze rel.sub nb
      cases t with
      | v d =>
        cases rt with
        | v rd => exact P v F H [] (by simpa using rel) (.v rd) Sub.rfl Sub.rfl
      | b d => cases nb
      | l ts =>
        have r3 := rel2.freezeTmp (f1 := f) (g := tmp) fun a => by rw [List.count_append]; exact Nat.le_refl _
        have r4 := r3.putBack (f1 := []) (tmp := tmp) (.v rd) rfl hv
        rw [List.set_set] at r4
        exact P v _ H [] r4 (.v rd) Sub.rfl (addF_sub rel.sub)
      | tp ts =>
        have r3 := rel2.freezeTmp (f1 := f) (g := tmp) fun a => by rw [List.count_append]; exact Nat.le_refl _
        have r4 := r3.putBack (f1 := []) (tmp := tmp) (.v rd) rfl hv
        rw [List.set_set] at r4
        exact P v _ H [] r4 (.v rd) Sub.rfl (addF_sub rel.sub)
    · exact P.elim
  refine ⟨pe, fun X W b e g c => ?_, pw_no fun N sc b op vs pos => rfl⟩
  obtain ⟨x, pos, rfl, _⟩ := name_of (show chkName X.N X.env.scope i e = true from c)
  exact tB_of (pe X W b _ g c) fun _ => rfl
theorem ok_mov (i : Nat) : Ok G (.mov i) := by
  have pe : ∀ X W b e, Gd X G W b → chkE X.N X.env.scope b (.mov i) e = true → PE X e (TE' X.K G W (.mov i)) := by
    intro X W b e g c
    obtain ⟨x, pos, rfl, p⟩ := name_of (show chkName X.N X.env.scope i e = true from c)
    refine PE.imp p fun σ H Q h => ?_
    obtain ⟨B, F, Γ, tmp, rel, P⟩ := h
    simp only [evE] at P
    split at P
    · rename_i t e
      obtain ⟨v, f, hv, rt, nb, rel2⟩ := rel.take e
      exact ⟨v, hv, P v F H f rel2 rt Sub.rfl Sub.rfl⟩
    · exact P.elim
  refine ⟨pe, fun X W b e g c => ?_, pw_no fun N sc b op vs pos => rfl⟩
  obtain ⟨x, pos, rfl, _⟩ := name_of (show chkName X.N X.env.scope i e = true from c)
  exact tB_of (pe X W b _ g c) fun _ => rfl
/-- a constant -/
theorem ok_const {m : E} {d : D} {v : V} (hev : ∀ cl con Γ, evE cl con m Γ = .ok (.v d) Γ) (hd : ∀ K F, RpD K F v d)
    (hc : ∀ N sc b e, chkE N sc b m e = true → ∃ c k pos, e = .Constant c k pos ∧ ∀ X : Cx, PE X e (tC v)) : Ok G m := by
  have pe : ∀ X W b e, Gd X G W b → chkE X.N X.env.scope b m e = true → PE X e (TE' X.K G W m) := by
    intro X W b e g c
    obtain ⟨k, n, pos, rfl, p⟩ := hc _ _ _ _ c
    refine PE.imp (p X) fun σ H Q h => ?_
    obtain ⟨B, F, Γ, tmp, rel, P⟩ := h
    rw [hev] at P
    exact P v F H [] (by simpa using rel) (.v (hd _ _)) Sub.rfl Sub.rfl
  refine ⟨pe, fun X W b e g c => ?_, fun X W b op vs pos g c => ?_⟩
  · obtain ⟨k, n, pos, rfl, _⟩ := hc _ _ _ _ c
    exact tB_of (pe X W b _ g c) fun _ => rfl
  · obtain ⟨k, n, pos, z, _⟩ := hc _ _ _ _ c
    cases z
theorem ok_int (i : Int) : Ok G (.int i) := by
  refine ok_const (d := .int i) (v := .int i) (fun _ _ _ => rfl) (fun _ _ => .int i) fun N sc b e c => ?_
  unfold chkE at c
  split at c
  · have c := of_decide_eq_true c
    subst c
    exact ⟨_, _, _, rfl, fun X => pe_int⟩
  · cases c
theorem ok_bl (i : Bool) : Ok G (.bl i) := by
  refine ok_const (d := .bl i) (v := .bl i) (fun _ _ _ => rfl) (fun _ _ => .bl i) fun N sc b e c => ?_
  unfold chkE at c
  split at c
  · have c := of_decide_eq_true c
    subst c
    exact ⟨_, _, _, rfl, fun X => pe_bl⟩
  · cases c
theorem ok_non : Ok G .non := by
  refine ok_const (d := .non) (v := .non) (fun _ _ _ => rfl) (fun _ _ => .non) fun N sc b e c => ?_
  unfold chkE at c
  split at c
  · exact ⟨_, _, _, rfl, fun X => pe_non⟩
  · cases c
theorem ok_str (s : List Nat) : Ok G (.str s) := by
  by_cases hs : okS s = true
  · refine ok_const (d := .str s) (v := .str ⟨s.toArray⟩) (fun _ _ _ => rfl) (fun _ _ => ?_) fun N sc b e c => ?_
    · have := RpD.str (K := ‹_›) (F := ‹_›) ⟨s.toArray⟩ (by simpa using hs)
      simpa using this
    · unfold chkE at c
      split at c
      · simp only [Bool.and_eq_true, decide_eq_true_eq] at c
        obtain ⟨c, _⟩ := c
        subst c
        exact ⟨_, _, _, rfl, fun X => by simpa using pe_str⟩
      · cases c
  · have no : ∀ N sc b e, chkE N sc b (.str s) e = false := fun N sc b e => by
      unfold chkE
      split
      · simp [hs]
      · rfl
    exact ⟨fun X W b e g c => absurd ((no _ _ _ _).symm.trans c) Bool.false_ne_true, fun X W b e g c => absurd ((no _ _ _ _).symm.trans c) Bool.false_ne_true, fun X W b op vs pos g c => absurd ((no _ _ _ _).symm.trans c) Bool.false_ne_true⟩
theorem isGl_of {X : Cx} {n : String} {e : Expr} (h : isGl X.env.scope n e = true) : ∃ pos, e = .Name (Str.ofString n) pos ∧ Gl X (Str.ofString n) := by
  unfold isGl at h
  split at h
  · simp only [Bool.and_eq_true, decide_eq_true_eq] at h
    obtain ⟨h1, h2⟩ := h
    subst h1
    exact ⟨_, rfl, (of_decide_eq_true h2 : X.env.scope.names.lookup (Str.ofString n) = some .globalImplicit)⟩
  · cases h
theorem ok_glb (x : String) : Ok G (.glb x) := by
  have pe : ∀ X W b e, Gd X G W b → chkE X.N X.env.scope b (.glb x) e = true → PE X e (TE' X.K G W (.glb x)) := by
    intro X W b e g c
    unfold chkE at c
    simp only [Bool.and_eq_true, Bool.not_eq_true'] at c
    obtain ⟨pos, rfl, hg⟩ := isGl_of c.1
    refine ⟨fun pins s σ H Q I h => ?_⟩
    obtain ⟨B, F, Γ, tmp, rel, P⟩ := h
    simp only [evE] at P
    split at P
    · rename_i d e
      obtain ⟨u, v, hm, hr, rd⟩ := g.con x d e
      refine (pe_glob hg hm hr c.2).run pins s σ H Q I ?_
      exact P v F H [] (by simpa using rel) (.v (rd.mono fun _ _ z => by cases z)) Sub.rfl Sub.rfl
    · exact P.elim
  refine ⟨pe, fun X W b e g c => ?_, pw_no fun N sc b op vs pos => rfl⟩
  have c' := c
  unfold chkE at c'
  simp only [Bool.and_eq_true] at c'
  obtain ⟨pos, rfl, hg⟩ := isGl_of c'.1
  exact tB_of (pe X W b _ g c) fun _ => rfl
end
end Tv

namespace Tv
open PySem PySem.Spec PyProof.Rows L2

section
variable {K : W.Frag} {F F' H H' : Hp} {x y : V} {t u : T} {f g : List Addr} {d : D} {ds : List D} {ts : List T} {xs : List V}
theorem RpDs.toV : ∀ {xs : List V} {ds : List D}, RpDs K F xs ds → RpTs K F H xs (ds.map .v) []
  | _, _, .nil => .nil
  | _, _, .cons a b => RpTs.cons (f := []) (g := []) (.v a) (RpDs.toV b)
theorem RpD.flat (h : d.flat = true) (r : RpD K H x d) : RpD K F x d := by
  cases r with
  | non => exact .non
  | bl b => exact .bl b
  | int i => exact .int i
  | str z e => exact .str z e
  | lst _ _ => cases h
  | tup _ _ => cases h
  | scr _ => cases h
  | dic0 _ => cases h
theorem RpDs.flat : ∀ {xs : List V} {ds : List D}, ds.all D.flat = true → RpDs K H xs ds → RpDs K F xs ds
  | _, _, _, .nil => .nil
  | _, _, h, .cons a b => by
    simp at h
    exact .cons (a.flat h.1) (RpDs.flat (by simpa using h.2) b)
theorem RpD.elemB (r : RpD K H x d) : RpT K F H x (elemB d) [] := by
  unfold Tv.elemB
  split
  · rename_i h; exact .v (r.flat h)
  · exact .b r
theorem RpDs.toB : ∀ {xs : List V} {ds : List D}, RpDs K H xs ds → RpTs K F H xs (ds.map elemB) []
  | _, _, .nil => .nil
  | _, _, .cons a b => RpTs.cons (f := []) (g := []) a.elemB (RpDs.toB b)
theorem RpTs.length : ∀ {xs : List V} {ts : List T} {f : List Addr}, RpTs K F H xs ts f → xs.length = ts.length
  | _, _, _, .nil => rfl
  | _, _, _, .cons _ r => by simp [RpTs.length r]
theorem RpTs.append : ∀ {xs ys : List V} {ts us : List T} {f g : List Addr}, RpTs K F H xs ts f → RpTs K F H ys us g → RpTs K F H (xs ++ ys) (ts ++ us) (f ++ g)
  | _, _, _, _, _, _, .nil, r => r
  | _, _, _, _, _, _, .cons a b, r => by
    have := RpTs.append b r
    rw [List.append_assoc]
    exact .cons a this
theorem RpTs.ints : ∀ (ns : List Int), RpTs K F H (ns.map V.int) (ns.map fun n => T.v (.int n)) []
  | [] => .nil
  | n :: ns => RpTs.cons (f := []) (g := []) (.v (.int n)) (RpTs.ints ns)
theorem asL_ok (e : asL t = some ts) (hF : Sub F H) (r : RpT K F H x t f) : ∃ a xs g, x = .ref a ∧ H a = some (.lst xs) ∧ RpTs K F H xs ts g ∧ ∀ c, g.count c ≤ f.count c := by
  unfold asL at e
  split at e
  · cases e
    cases r with | v r => cases r with | lst h r => exact ⟨_, _, [], rfl, hF _ _ h, r.toV, fun c => by simp⟩
  · cases e
    cases r with | b r => cases r with | lst h r => exact ⟨_, _, [], rfl, h, r.toB, fun c => by simp⟩
  · cases e
    cases r with | l h r => exact ⟨_, _, _, rfl, h, r, fun c => by rw [List.count_cons]; omega⟩
  · cases e
theorem lOnly_ok (e : lOnly t = some ts) (hF : Sub F H) (r : RpT K F H x t f) : ∃ a xs g, x = .ref a ∧ SqL K H a xs ∧ RpTs K F H xs ts g ∧ ∀ c, g.count c ≤ f.count c := by
  unfold lOnly at e
  split at e
  · cases e
    cases r with | v r => cases r with | lst h r => exact ⟨_, _, [], rfl, .of (hF _ _ h), r.toV, fun c => by simp⟩
  · cases e
    cases r with | b r => cases r with | lst h r => exact ⟨_, _, [], rfl, .of h, r.toB, fun c => by simp⟩
  · cases e
    cases r with | l h r => exact ⟨_, _, _, rfl, .of h, r, fun c => by rw [List.count_cons]; omega⟩
  · cases e
    cases r with | v r => cases r with | scr h => exact ⟨_, _, [], rfl, SqL.mono' hF h, RpTs.ints _, fun c => by simp⟩
  · cases e
theorem asQ_ok (e : asQ t = some ts) (hF : Sub F H) (r : RpT K F H x t f) : ∃ a xs g, x = .ref a ∧ (SqL K H a xs ∨ SqT K H a xs) ∧ RpTs K F H xs ts g ∧ ∀ c, g.count c ≤ f.count c := by
  unfold asQ at e
  split at e
  · cases e
    cases r with | v r => cases r with | lst h r => exact ⟨_, _, [], rfl, .inl (.of (hF _ _ h)), r.toV, fun c => by simp⟩
  · cases e
    cases r with | b r => cases r with | lst h r => exact ⟨_, _, [], rfl, .inl (.of h), r.toB, fun c => by simp⟩
  · cases e
    cases r with | l h r => exact ⟨_, _, _, rfl, .inl (.of h), r, fun c => by rw [List.count_cons]; omega⟩
  · cases e
    cases r with | v r => cases r with | tup h r => exact ⟨_, _, [], rfl, .inr (SqT.mono' hF h), r.toV, fun c => by simp⟩
  · cases e
    cases r with | b r => cases r with | tup h r => exact ⟨_, _, [], rfl, .inr h, r.toB, fun c => by simp⟩
  · cases e
    cases r with | tp h r => exact ⟨_, _, _, rfl, .inr (.of h), r, fun c => by rw [List.count_cons]; omega⟩
  · cases e
    cases r with | v r => cases r with | scr h => exact ⟨_, _, [], rfl, .inl (SqL.mono' hF h), RpTs.ints _, fun c => by simp⟩
  · cases e
theorem asF_ok (e : asF t = some ds) (hF : Sub F H) (r : RpT K F H x t f) : ∃ a xs, x = .ref a ∧ H a = some (.lst xs) ∧ RpDs K (addF F H f) xs ds := by
  unfold asF at e
  split at e
  · cases e
    cases r with | v r => cases r with | lst h r => exact ⟨_, _, rfl, hF _ _ h, r.mono (addF_sub hF)⟩
  · split at e
    · rename_i h0
      cases e
      cases r with | b r => cases r with | lst h r => exact ⟨_, _, rfl, h, RpDs.flat h0 r⟩
    · cases e
  · split at e
    · rename_i h0
      cases e
      cases r with | l h r => exact ⟨_, _, rfl, h, (r.freeze hF h0).mono (addF_more hF fun a ha => by simp [ha])⟩
    · cases e
  · cases e
theorem fz_ok (e : t.fz = some d) (hF : Sub F H) (r : RpT K F H x t f) : RpD K (addF F H f) x d := by
  unfold T.fz at e
  split at e
  · rename_i h; cases e; exact r.freeze hF h
  · cases e
theorem fzs_ok : ∀ {xs : List V} {ts : List T} {ds : List D} {f : List Addr}, fzs ts = some ds → Sub F H → RpTs K F H xs ts f → RpDs K (addF F H f) xs ds
  | _, [], _, _, e, _, .nil => by cases e; exact .nil
  | _, t :: ts, ds, _, e, hF, .cons a b => by
    unfold fzs at e
    split at e
    · rename_i d ds' e1 e2
      cases e
      exact .cons ((fz_ok e1 hF a).mono (addF_more hF fun y hy => by simp [hy])) ((fzs_ok e2 hF b).mono (addF_more hF fun y hy => by simp [hy]))
    · cases e
end

section
variable {K : W.Frag} {G : Glob} {W : WX} {B : Base} {F H : Hp} {σ : L2.St} {Γ : Env} {tmp tmp2 fs : List Addr} {ts : List T} {xs : List V} {Q : VK}
/-- a new list in hand -/
theorem Post.newL (P : Post K G W B F H σ tmp (rT K) (.ok (.l ts) Γ) Q) (rel : Rel K B F H σ Γ tmp2) (r : RpTs K F H xs ts fs) (hc : ∀ c, fs.count c + tmp.count c ≤ tmp2.count c) : ∀ p, H p = none → Q (.ref p) (upd H p (.lst xs)) := fun p hp =>
  P (.ref p) F (upd H p (.lst xs)) (p :: fs) ((rel.less (tmp' := fs ++ tmp) fun a => by rw [List.count_append]; exact hc a).alloc hp) (.l upd_same (r.grow Sub.rfl (upd_sub hp))) (upd_sub hp) Sub.rfl
theorem Post.newT (P : Post K G W B F H σ tmp (rT K) (.ok (.tp ts) Γ) Q) (rel : Rel K B F H σ Γ tmp2) (r : RpTs K F H xs ts fs) (hc : ∀ c, fs.count c + tmp.count c ≤ tmp2.count c) : ∀ p, H p = none → Q (.ref p) (upd H p (.tup xs)) := fun p hp =>
  P (.ref p) F (upd H p (.tup xs)) (p :: fs) ((rel.less (tmp' := fs ++ tmp) fun a => by rw [List.count_append]; exact hc a).alloc hp) (.tp upd_same (r.grow Sub.rfl (upd_sub hp))) (upd_sub hp) Sub.rfl
theorem Post.flatv {d : D} {v : V} (P : Post K G W B F H σ tmp (rT K) (.ok (.v d) Γ) Q) (rel : Rel K B F H σ Γ tmp2) (hc : ∀ c, tmp.count c ≤ tmp2.count c) (r : RpD K F v d) : Q v H :=
  P v F H [] (rel.less fun a => by rw [List.nil_append]; exact hc a) (.v r) Sub.rfl Sub.rfl
end

/-! ### operators -/
theorem OpR.or {X : Cx} {f : Value → Value → Sem Value} {r r' : R2} (a : OpR X f r) (b : OpR X f r') : OpR X f (fun x y H Q => r x y H Q ∨ r' x y H Q) := by
  intro pins s σ H x y v u Q I rx ry h
  rcases h with h | h
  · exact a pins s σ H x y v u Q I rx ry h
  · exact b pins s σ H x y v u Q I rx ry h
def rB : BOp → R2
  | .add => fun x y H Q => (rI0 fun i j => .int (i + j)) x y H Q ∨ (∃ i j, x = V.str i ∧ y = V.str j ∧ i.length + j.length ≤ sizeLine ∧ Q (V.str (i ++ j)) H) ∨ rCat x y H Q
  | .sub => rI0 fun i j => .int (i - j)
  | .mul => fun x y H Q => rI CMulW (fun i j => .int (i * j)) x y H Q ∨ rRep x y H Q
  | .mod => rI (fun _ j => j ≠ 0) fun i j => .int (i.fmod j)
  | .fdiv => rI CDivW fun i j => .int (i / j)
  | .pow => rI CPow fun i j => .int (i ^ j.toNat)
theorem op_B {X : Cx} (o : BOp) : OpR X (binaryOp o.op) (rB o) := by
  cases o with
  | add => exact OpR.or op_add (OpR.or op_add_str op_cat)
  | sub => exact op_sub
  | mul => exact OpR.or op_mulW op_rep
  | mod => exact op_modN
  | fdiv => exact op_fdivW
  | pow => exact op_pow
theorem str_inv {K : W.Frag} {F H : Hp} {x : V} {s : List Nat} {f : List Addr} (r : RpT K F H x (.v (.str s)) f) : ∃ z : Str, x = .str z ∧ z.cps.toList = s ∧ okS s = true ∧ f = [] := by
  cases r with | v r => cases r with | str z h => exact ⟨z, rfl, rfl, h, rfl⟩
theorem int_inv {K : W.Frag} {F H : Hp} {x : V} {i : Int} {f : List Addr} (r : RpT K F H x (.v (.int i)) f) : x = .int i ∧ f = [] := by
  cases r with | v r => cases r with | int => exact ⟨rfl, rfl⟩
theorem bl_inv {K : W.Frag} {F H : Hp} {x : V} {i : Bool} {f : List Addr} (r : RpT K F H x (.v (.bl i)) f) : x = .bl i ∧ f = [] := by
  cases r with | v r => cases r with | bl => exact ⟨rfl, rfl⟩
theorem okS_append {s t : List Nat} (h : okS s = true) (h' : okS t = true) (hl : s.length + t.length ≤ LIM) : okS (s ++ t) = true := by
  unfold okS at *
  simp only [Bool.and_eq_true, decide_eq_true_eq, List.all_append, List.length_append] at *
  exact ⟨by rw [sizeLine_eq]; exact hl, h.2, h'.2⟩
theorem okS_le {s : List Nat} (h : okS s = true) : s.length ≤ LIM := by
  unfold okS at h
  simp only [Bool.and_eq_true, decide_eq_true_eq] at h
  have := h.1
  rw [sizeLine_eq] at this
  exact this
theorem str_mk {K : W.Frag} {F : Hp} {z : Str} {s : List Nat} (e : z.cps.toList = s) (h : okS s = true) : RpD K F (.str z) (.str s) := by
  subst e; exact .str z h
theorem strLen (z : Str) : z.length = z.cps.toList.length := by show z.cps.size = _; simp
theorem strApp (a b : Str) : (a ++ b).cps.toList = a.cps.toList ++ b.cps.toList := by
  show (a.cps ++ b.cps).toList = _
  simp
theorem binT_ok {K : W.Frag} {G : Glob} {W : WX} {B : Base} {F H : Hp} {σ : L2.St} {Γ : Env} {tmp fa fb : List Addr} {o : BOp} {x y : V} {a b : T} {Q : VK} (rel : Rel K B F H σ Γ (fb ++ (fa ++ tmp))) (ra : RpT K F H x a fa) (rb : RpT K F H y b fb)
    (P : Post K G W B F H σ tmp (rT K) (R.op (binT o a b) Γ) Q) : rB o x y H Q := by
  have hc : ∀ c, tmp.count c ≤ (fb ++ (fa ++ tmp)).count c := fun c => by simp only [List.count_append]; omega
  cases o with
  | add =>
    simp only [binT, addT] at P
    split at P
    · obtain ⟨rfl, rfl⟩ := int_inv ra
      obtain ⟨rfl, rfl⟩ := int_inv rb
      exact .inl ⟨_, _, rfl, rfl, P.flatv rel hc (.int _)⟩
    · split at P
      · rename_i hl
        obtain ⟨z, rfl, rfl, h1, rfl⟩ := str_inv ra
        obtain ⟨z', rfl, rfl, h2, rfl⟩ := str_inv rb
        refine .inr (.inl ⟨_, _, rfl, rfl, ?_, P.flatv rel hc ?_⟩)
        · rw [strLen, strLen, sizeLine_eq]; exact hl
        · exact str_mk (strApp z z') (okS_append h1 h2 hl)
      · exact P.elim
    · split at P
      · rename_i a' b' e1 e2
        split at P
        · rename_i hl
          obtain ⟨p, xs, g1, rfl, h1, r1, c1⟩ := asL_ok e1 rel.sub ra
          obtain ⟨q, ys, g2, rfl, h2, r2, c2⟩ := asL_ok e2 rel.sub rb
          refine .inr (.inr ⟨_, _, _, _, rfl, rfl, h1, h2, ?_, P.newL rel (r1.append r2) fun c => ?_⟩)
          · rw [r1.length, r2.length, sizeLine_eq]; exact hl
          · have := c1 c; have := c2 c; simp only [List.count_append]; omega
        · exact P.elim
      · exact P.elim
  | sub =>
    simp only [binT] at P
    split at P
    · obtain ⟨rfl, rfl⟩ := int_inv ra
      obtain ⟨rfl, rfl⟩ := int_inv rb
      exact ⟨_, _, rfl, rfl, P.flatv rel hc (.int _)⟩
    · exact P.elim
  | mul =>
    simp only [binT, mulT] at P
    split at P
    · split at P
      · rename_i hl
        obtain ⟨rfl, rfl⟩ := int_inv ra
        obtain ⟨rfl, rfl⟩ := int_inv rb
        exact .inl ⟨_, _, rfl, rfl, hl, P.flatv rel hc (.int _)⟩
      · exact P.elim
    · split at P
      · rename_i e1
        split at P
        · rename_i hl
          obtain ⟨rfl, rfl⟩ := int_inv rb
          obtain ⟨p, xs, rfl, h1, r1⟩ := asF_ok e1 rel.sub ra
          have rel2 := rel.freezeTmp (f1 := fa) (g := tmp) fun c => by simp only [List.count_append]; omega
          refine .inr ⟨_, _, _, rfl, rfl, h1, hl.1, hl.2.1, by rw [r1.length, sizeLine_eq]; exact hl.2.2, ?_⟩
          refine (P.later Sub.rfl (addF_sub rel.sub)).newL rel2 (fs := []) ?_ fun c => by simp
          have : ∀ (n : Nat) (ds : List D) (xs : List V), RpDs K (addF F H fa) xs ds → RpDs K (addF F H fa) (List.replicate n xs).flatten (List.replicate n ds).flatten := by
            intro n ds xs r
            induction n with
            | zero => exact .nil
            | succ n ih => rw [List.replicate_succ, List.replicate_succ, List.flatten_cons, List.flatten_cons]; exact r.append ih
          exact (this _ _ _ r1).toV
        · exact P.elim
      · exact P.elim
    · exact P.elim
  | mod =>
    simp only [binT] at P
    split at P
    · split at P
      · rename_i hl
        obtain ⟨rfl, rfl⟩ := int_inv ra
        obtain ⟨rfl, rfl⟩ := int_inv rb
        exact ⟨_, _, rfl, rfl, hl, P.flatv rel hc (.int _)⟩
      · exact P.elim
    · exact P.elim
  | fdiv =>
    simp only [binT] at P
    split at P
    · split at P
      · rename_i hl
        obtain ⟨rfl, rfl⟩ := int_inv ra
        obtain ⟨rfl, rfl⟩ := int_inv rb
        exact ⟨_, _, rfl, rfl, hl, P.flatv rel hc (.int _)⟩
      · exact P.elim
    · exact P.elim
  | pow =>
    simp only [binT] at P
    split at P
    · split at P
      · rename_i hl
        obtain ⟨rfl, rfl⟩ := int_inv ra
        obtain ⟨rfl, rfl⟩ := int_inv rb
        exact ⟨_, _, rfl, rfl, hl, P.flatv rel hc (.int _)⟩
      · exact P.elim
    · exact P.elim
section
variable {G : Glob}
/-- two in a row, then a rule by values -/
theorem two {K : W.Frag} {W : WX} {a b : E} {f : T → T → Env → R T} {r : R2}
    (h : ∀ B F H σ Γ tmp fa fb x y ta tb Q, Rel K B F H σ Γ (fb ++ (fa ++ tmp)) → RpT K F H x ta fa → RpT K F H y tb fb → Post K G W B F H σ tmp (rT K) (f ta tb Γ) Q → r x y H Q) :
    ∀ σ H Q, TM K G W (rT K) (fun Γ => (evE G.cl G.con a Γ).bind fun x Γ1 => (evE G.cl G.con b Γ1).bind fun y Γ2 => f x y Γ2) σ H Q → tOp r (TE' K G W a) (TE' K G W b) σ H Q := by
  rintro σ H Q ⟨B, F, Γ, tmp, rel, P⟩
  refine ⟨B, F, Γ, tmp, rel, (P.bind (rep := rT K) (fp := [])).imp ?_⟩
  rintro x H1 ⟨ta, Γ1, F1, fa, rel1, ra, sH1, sF1, P1⟩
  refine ⟨B, F1, Γ1, fa ++ tmp, rel1, (P1.bind (rep := rT K) (fp := fa)).imp ?_⟩
  rintro y H2 ⟨tb, Γ2, F2, fb, rel2, rb, sH2, sF2, P2⟩
  exact h B F2 H2 σ Γ2 tmp fa fb x y ta tb Q rel2 (ra.grow sF2 sH2) rb P2
theorem one {K : W.Frag} {W : WX} {α β : Type} {rep : Hp → Hp → β → α → List Addr → Prop} {a : E} {f : T → Env → R α} {r : V → Hp → (β → Hp → Prop) → Prop}
    (h : ∀ B F H σ Γ tmp fa x ta Q, Rel K B F H σ Γ (fa ++ tmp) → RpT K F H x ta fa → Post K G W B F H σ tmp rep (f ta Γ) Q → r x H Q) :
    ∀ σ H Q, TM K G W rep (fun Γ => (evE G.cl G.con a Γ).bind fun x Γ1 => f x Γ1) σ H Q → TE' K G W a σ H fun x H1 => r x H1 Q := by
  rintro σ H Q ⟨B, F, Γ, tmp, rel, P⟩
  refine ⟨B, F, Γ, tmp, rel, (P.bind (rep := rT K) (fp := [])).imp ?_⟩
  rintro x H1 ⟨ta, Γ1, F1, fa, rel1, ra, sH1, sF1, P1⟩
  exact h B F1 H1 σ Γ1 tmp fa x ta Q rel1 ra P1
theorem ok_bin {o : BOp} {a b : E} (ha : Ok G a) (hb : Ok G b) : Ok G (.bin o a b) := by
  have sh : ∀ {N sc b'} {e : Expr}, chkE N sc b' (.bin o a b) e = true → ∃ x y pos, e = .BinOp x o.op y pos ∧ chkE N sc b' a x = true ∧ chkE N sc b' b y = true := by
    intro N sc b' e c
    unfold chkE at c
    split at c
    · simp only [Bool.and_eq_true, decide_eq_true_eq] at c
      obtain ⟨⟨c1, c2⟩, c3⟩ := c
      subst c1
      exact ⟨_, _, _, rfl, c2, c3⟩
    · cases c
  have pe : ∀ X W b' e, Gd X G W b' → chkE X.N X.env.scope b' (.bin o a b) e = true → PE X e (TE' X.K G W (.bin o a b)) := by
    intro X W b' e g c
    obtain ⟨x, y, pos, rfl, c1, c2⟩ := sh c
    exact PE.imp (pe_op (op_B o) (ha.pe X W b' x g c1) (hb.pe X W b' y g c2)) fun σ H Q h => two (f := fun x y Γ => R.op (binT o x y) Γ) (fun B F H σ Γ tmp fa fb x y ta tb Q rel ra rb P => binT_ok rel ra rb P) σ H Q h
  refine ⟨pe, fun X W b' e g c => ?_, pw_no fun N sc b op vs pos => rfl⟩
  obtain ⟨x, y, pos, rfl, c1, c2⟩ := sh c
  exact tB_of (pe X W b' _ g c) fun _ => rfl
theorem ok_neg {a : E} (ha : Ok G a) : Ok G (.neg a) := by
  have sh : ∀ {N sc b'} {e : Expr}, chkE N sc b' (.neg a) e = true → ∃ x pos, e = .UnaryOp .USub x pos ∧ chkE N sc b' a x = true := by
    intro N sc b' e c
    unfold chkE at c
    split at c
    · exact ⟨_, _, rfl, c⟩
    · cases c
  have pe : ∀ X W b' e, Gd X G W b' → chkE X.N X.env.scope b' (.neg a) e = true → PE X e (TE' X.K G W (.neg a)) := by
    intro X W b' e g c
    obtain ⟨x, pos, rfl, c1⟩ := sh c
    refine PE.imp (pe_un un_neg (ha.pe X W b' x g c1)) fun σ H Q h => ?_
    refine one (rep := rT X.K) (r := fun x H Q => rU (fun i => V.int (-i)) x H Q) (fun B F H σ Γ tmp fa x ta Q rel ra P => ?_) σ H Q h
    split at P
    · obtain ⟨rfl, rfl⟩ := int_inv ra
      exact ⟨_, rfl, P.flatv rel (fun c => by simp only [List.count_append]; omega) (.int _)⟩
    · exact P.elim
  refine ⟨pe, fun X W b' e g c => ?_, pw_no fun N sc b op vs pos => rfl⟩
  obtain ⟨x, pos, rfl, c1⟩ := sh c
  exact tB_of (pe X W b' _ g c) fun _ => rfl
theorem ok_not {a : E} (ha : Ok G a) : Ok G (.not a) := by
  have sh : ∀ {N sc b'} {e : Expr}, chkE N sc b' (.not a) e = true → ∃ x pos, e = .UnaryOp .Not x pos ∧ chkE N sc b' a x = true := by
    intro N sc b' e c
    unfold chkE at c
    split at c
    · exact ⟨_, _, rfl, c⟩
    · cases c
  refine ⟨fun X W b' e g c => ?_, fun X W b' e g c => ?_, pw_no fun N sc b op vs pos => rfl⟩
  · obtain ⟨x, pos, rfl, c1⟩ := sh c
    refine PE.imp (pe_not (ha.pe X W b' x g c1)) fun σ H Q h => ?_
    refine one (rep := rT X.K) (r := fun x H Q => ∃ c, x = V.bl c ∧ Q (V.bl (!c)) H) (fun B F H σ Γ tmp fa x ta Q rel ra P => ?_) σ H Q h
    split at P
    · obtain ⟨rfl, rfl⟩ := bl_inv ra
      exact ⟨_, rfl, P.flatv rel (fun c => by simp only [List.count_append]; omega) (.bl _)⟩
    · exact P.elim
  · obtain ⟨x, pos, rfl, c1⟩ := sh c
    refine PT.imp (pt_not (ha.pt X W b' x g c1)) fun σ H Q h => ?_
    have z := one (rep := rT X.K) (r := fun x H (Q : VK) => ∃ c, x = V.bl c ∧ Q (.bl (!c)) H) (fun B F H σ Γ tmp fa x ta Q rel ra P => by
      split at P
      · obtain ⟨rfl, rfl⟩ := bl_inv ra
        exact ⟨_, rfl, P.flatv rel (fun c => by simp only [List.count_append]; omega) (.bl _)⟩
      · exact P.elim) σ H (fun v H' => ∃ c, v = .bl c ∧ Q c H') h
    obtain ⟨B, F, Γ, tmp, rel, P⟩ := z
    refine ⟨B, F, Γ, tmp, rel, P.imp ?_⟩
    rintro v H' ⟨c, rfl, d, e, q⟩
    cases e
    exact ⟨c, rfl, q⟩
end
end Tv

/-! ### sum(rows, []), a > b of lists of ints -/
namespace Tv
open PySem PySem.Spec PyProof.Rows L2
section
variable {prog : Program} {w : World} {A : Around} {R : Result → Shared → Prop} {I : Addr} {fp wr : List Addr} {n : Nat} {P : Nat → Value → Prop} {St : Nat → Heap → Prop}
/-- the first i rows, one after another -/
def accL (rows : Nat → List Value) : Nat → List Value
  | 0 => []
  | i + 1 => accL rows i ++ rows i
theorem accL_le (rows : Nat → List Value) : ∀ {i n : Nat}, i ≤ n → (accL rows i).length ≤ (accL rows n).length
  | i, 0, h => by rw [Nat.le_zero.mp h]; exact Nat.le_refl _
  | i, n + 1, h => by
    by_cases e : i = n + 1
    · rw [e]; exact Nat.le_refl _
    · exact Nat.le_trans (accL_le rows (Nat.le_of_lt_succ (Nat.lt_of_le_of_ne h e))) (by show _ ≤ (accL rows n ++ rows n).length; rw [List.length_append]; omega)
theorem sum_rows_loop (W : Walks prog w A.in1 I fp wr n P St) (rows : Nat → List Value) (h0 : Heap) (S : Addr) (hSf : S ∉ fp) (hS0 : ∀ o, h0.get? S ≠ some o) (hw0 : ∀ b ∈ wr, ∀ o, h0.get? b ≠ some o) (hwS : ∀ b ∈ wr, b < S)
    (hrow : ∀ i v, P i v → ∃ c m, v = .ref c ∧ IsL h0 c (rows i).toArray m) (hz : (accL rows n).length ≤ sizeLine) :
    ∀ (k i : Nat) (s : Shared) (tr c m : Nat), n - i = k → i ≤ n → St i s.heap → (∀ b o, h0.get? b = some o → s.heap.get? b = some o) → s.heap.get? S = some { cls := .type "list", dict := none, data := .seq #[.ref tr] c, slots := #[] } →
    IsL s.heap tr (accL rows i).toArray m → tr ∉ wr → tr ≠ S →
    (∀ h' tk tr' m', (∀ b o, h0.get? b = some o → h'.get? b = some o) → IsL h' tr' (accL rows n).toArray m' → (i = n → tr' = tr) → (i < n → S < tr') → R (.ok (.ret (.ref tr'))) { s with heap := h', toks := tk }) →
    codeAny (model prog w) A (.builtin "sum.loop" ⟨[.ref I, .ref S, rawInt 2, rawInt 0], []⟩) R s := by
  have hSw : S ∉ wr := fun h => hSf (W.sub _ h)
  intro k
  induction k with
  | zero =>
    intro i s tr c m hk hi hst h00 hS htr htw htS hR
    have hin : i = n := by omega
    subst hin
    refine codeAny_builtin F.entry_sum_loop ?_
    rw [Around.under_plainId F.plain_sum_loop _]
    show wpAny _ A.in1 (seqItems? (.ref S) >>= _) _ _ s
    refine wpAny_bind (wpAny_seqItems hS rfl ?_)
    show wpAny _ A.in1 (tryCatch (pyNext (.ref I)) _ >>= _) _ _ s
    refine wpAny_bind (wpAny_tryCatch (W.done s _ _ hst fun h' tk hk' => ?_))
    exact wpAny_pure (hR h' tk tr m (fun b o e => hk' b o (fun hb => hw0 b hb o e) (h00 b o e)) (hk' _ _ htw htr) (fun _ => rfl) (fun h => absurd h (Nat.lt_irrefl _)))
  | succ k ih =>
    intro i s tr c m hk hi hst h00 hS htr htw htS hR
    have hlt : i < n := by omega
    refine codeAny_builtin F.entry_sum_loop ?_
    rw [Around.under_plainId F.plain_sum_loop _]
    show wpAny _ A.in1 (seqItems? (.ref S) >>= _) _ _ s
    refine wpAny_bind (wpAny_seqItems hS rfl ?_)
    show wpAny _ A.in1 (tryCatch (pyNext (.ref I)) _ >>= _) _ _ s
    refine wpAny_bind (wpAny_tryCatch (W.item i s _ _ hlt hst fun v h' tk hP hst' hk' => ?_))
    obtain ⟨cr, m', rfl, hrow'⟩ := hrow i v hP
    have hS' := hk' S _ hSw hS
    have htr' : IsL h' tr (accL rows i).toArray m := hk' _ _ htw htr
    have hcr' : IsL h' cr (rows i).toArray m' := hk' _ _ (fun hb => hw0 _ hb _ hrow') (h00 _ _ hrow')
    have hz' : (accL rows i).toArray.size + (rows i).toArray.size ≤ sizeLine := by
      have := accL_le rows (i := i + 1) (n := n) hlt
      have e : (accL rows (i + 1)).length = (accL rows i).length + (rows i).length := List.length_append
      simp only [List.size_toArray]
      omega
    show wpAny _ A.in1 ((holding [Value.ref cr] (binaryOp .Add (.ref tr) (.ref cr))).attempt >>= _) _ _ _
    refine wpAny_bind (wpAny_attempt (wpAny_holding (PySem.P.add_list htr' hcr' ?_ hz')))
    have ea : (accL rows i).toArray ++ (rows i).toArray = (accL rows (i + 1)).toArray := by simp [accL]
    rw [ea]
    show wpAny _ A.in1 (updateSeq S (fun _ => #[.ref h'.objs.size]) >>= _) _ _ _
    have hSl : S < h'.objs.size := Heap.lt_size hS'
    have hS1 := Heap.get?_push_of_some { cls := .type "list", data := .seq (accL rows (i + 1)).toArray } hS'
    refine wpAny_bind ?_
    refine wpAny_updateSeq hS1 rfl ?_
    have hS2 := Heap.get?_update_self (Obj.mapSeq fun _ => #[Value.ref h'.objs.size]) hS1 rfl
    refine wpAny_bind (wpAny_letGo ?_)
    refine wpAny_bind ?_
    refine wpAny_updateSeq hS2 rfl (wpAny_pure ⟨plainId_quiet F.plain_sum_loop _, ih (i + 1) _ h'.objs.size _ 0 (by omega) hlt (W.frame _ _ _ hst' fun b hb o e => ?_) (fun b o e => ?_) (Heap.get?_update_self _ hS2 rfl) ?_ (fun hb => Nat.lt_asymm hSl (hwS _ hb)) (Nat.ne_of_gt hSl) fun h'' tk'' tr'' m'' h1 h2 h3 h4 => ?_⟩)
    · exact (Heap.get?_update_other _ _ (fun h : S = b => hSf (by rw [h]; exact hb))).trans ((Heap.get?_update_other _ _ (fun h : S = b => hSf (by rw [h]; exact hb))).trans (Heap.get?_push_of_some _ e))
    · have hb : S ≠ b := fun h => hS0 o (by rw [h]; exact e)
      exact (Heap.get?_update_other _ _ hb).trans ((Heap.get?_update_other _ _ hb).trans (Heap.get?_push_of_some _ (hk' _ _ (fun hb => hw0 _ hb _ e) (h00 _ _ e))))
    · have hb : S ≠ h'.objs.size := Nat.ne_of_lt hSl
      exact (Heap.get?_update_other _ _ hb).trans ((Heap.get?_update_other _ _ hb).trans (Heap.get?_push_size _ rfl))
    · refine hR h'' tk'' tr'' m'' h1 h2 (fun h => absurd h (by omega)) fun _ => ?_
      by_cases e : i + 1 < n
      · exact h4 e
      · rw [h3 (by omega)]; exact hSl
end
section
variable {prog : Program} {w : World} {A : Around} {E : Value → Shared → Prop} {s : Shared}
theorem args_sum2 (a b : Value) : argsOk "sum" ⟨[a, b], []⟩ := by unfold argsOk; kernel_rfl
theorem sum_rows {l a0 : Addr} {its : List Value} {rows : Nat → List Value} {m0 : Nat} {Q : Value → Shared → Prop} (hh : A.handled = none) (hl : s.heap.IsList l its.toArray) (ha : IsL s.heap a0 #[] m0)
    (hrow : ∀ i v, its[i]? = some v → ∃ c m, v = .ref c ∧ IsL s.heap c (rows i).toArray m) (hz : (accL rows its.length).length ≤ sizeLine)
    (h : ∀ h' tk tr m', (∀ b o, s.heap.get? b = some o → h'.get? b = some o) → IsL h' tr (accL rows its.length).toArray m' → (its = [] → tr = a0) → (its ≠ [] → s.heap.objs.size ≤ tr) → Q (.ref tr) { s with heap := h', toks := tk }) :
    wpAny (model prog w) A (call (.builtin "sum") [.ref l, .ref a0]) Q E s := by
  have hlt : l < s.heap.objs.size := by obtain ⟨_, e, _⟩ := hl; exact Heap.lt_size e
  refine call_function_tree F.kind_sum F.plain_sum F.entry_sum (args_sum2 _ _) ?_
  unfold Builtin.«sum»
  simp only [List.length_cons, List.length_nil]
  rw [if_neg (by decide)]
  refine wpAny_bind (wpAny_of_eq (show Builtin.Builtins.bindParams "sum" ["start"] 0 ⟨[.ref a0], []⟩ = pure [some (.ref a0)] from rfl) ?_)
  refine wpAny_bind (wpAny_pyIter_list hl ?_)
  refine wpAny_bind (wpAny_pure ?_)
  have ha1 := ha.push { cls := .type "list_iterator", data := .fields #[.ref l, .int 0 0] }
  have hty : Shared.TypeIs { s with heap := s.heap.push { cls := .type "list_iterator", data := .fields #[.ref l, .int 0 0] } } (.ref a0) "list" := ⟨_, ha1, rfl⟩
  simp only [List.forIn_cons, List.forIn_nil]
  refine wpAny_bind (wpAny_bind (wpAny_bind (wpAny_isInstance (T := "list") (b := false) hty F.sub_list_str ?_)))
  simp only [Bool.false_eq_true, if_false]
  refine wpAny_pure (wpAny_bind (wpAny_bind (wpAny_isInstance (T := "list") (b := false) hty F.sub_list_bytes ?_)))
  simp only [Bool.false_eq_true, if_false]
  refine wpAny_pure (wpAny_bind (wpAny_bind (wpAny_isInstance (T := "list") (b := false) hty F.sub_list_bytearray ?_)))
  simp only [Bool.false_eq_true, if_false]
  refine wpAny_pure (wpAny_pure ?_)
  refine wpAny_bind (wpAny_newObj_type ?_)
  have hsz : (s.heap.push { cls := .type "list_iterator", data := .fields #[.ref l, .int 0 0] }).objs.size = s.heap.objs.size + 1 := Heap.size_push _ _
  have hne : l ≠ s.heap.objs.size := Nat.ne_of_lt hlt
  refine wpAny_pure ⟨plainId_quiet F.plain_sum_loop _, sum_rows_loop (Walks.list (A := A.in1) hh s.heap.objs.size l hne its.toArray) rows s.heap _ (fun hm => ?_) (fun o e => ?_) (fun b hb o e => ?_) (fun b hb => ?_) (fun i v e => hrow i v (by simpa using e)) (by simpa using hz) _ 0 _ a0 _ m0 rfl (Nat.zero_le _) ⟨?_, ?_⟩ (fun b o e => ?_) (Heap.get?_push_size _ rfl) ?_ (fun hb => ?_) ?_ fun h' tk tr m' h1 h2 h3 h4 => ?_⟩
  · rcases List.mem_cons.mp hm with e | hm
    · rw [hsz] at e; exact absurd e (Nat.succ_ne_self _)
    · rw [List.mem_singleton.mp hm] at hsz
      exact absurd hlt (by rw [hsz]; exact Nat.not_lt.mpr (Nat.le_succ _))
  · have := Heap.lt_size e
    rw [hsz] at this
    exact absurd this (Nat.not_lt.mpr (Nat.le_succ _))
  · rw [List.mem_singleton.mp hb] at e
    exact absurd (Heap.lt_size e) (Nat.lt_irrefl _)
  · rw [List.mem_singleton.mp hb, hsz]; exact Nat.lt_succ_self _
  · exact ⟨_, Heap.get?_push_of_some _ (Heap.get?_push_size _ rfl), rfl, rfl⟩
  · exact (hl.push _).push _
  · exact Heap.get?_push_of_some _ (Heap.get?_push_of_some _ e)
  · exact ha1.push _
  · rw [List.mem_singleton] at hb
    exact absurd (Heap.lt_size ha) (by rw [hb]; exact Nat.lt_irrefl _)
  · rw [hsz]
    exact Nat.ne_of_lt (Nat.lt_succ_of_lt (Heap.lt_size ha))
  · refine h h' tk tr m' h1 (by simpa using h2) (fun e => h3 (by rw [e]; rfl)) (fun e => ?_)
    have := h4 (by rw [List.size_toArray]; exact List.length_pos_iff.mpr e)
    rw [hsz] at this
    exact Nat.le_of_lt (Nat.lt_of_succ_lt this)
end
/-- sum(rows, []) -/
def rSumL (K : W.Frag) : List V → Hp → VK → Prop := fun vs H Q => ∃ (a b : Addr) (cs : List V) (yss : List (List V)), vs = [V.ref a, V.ref b] ∧ SqL K H a cs ∧ H b = some (.lst []) ∧
  (∀ (i : Nat) (c : V), cs[i]? = some c → ∃ d ys, c = V.ref d ∧ yss[i]? = some ys ∧ H d = some (.lst ys)) ∧ yss.length = cs.length ∧ yss.flatten.length ≤ sizeLine ∧
  (cs = [] → Q (.ref b) H) ∧ ∀ p, H p = none → Q (.ref p) (upd H p (.lst yss.flatten))
theorem vals_get : ∀ {xs : List V} {vs : List Value} {i : Nat} {v : Value}, Vals xs vs → vs[i]? = some v → ∃ x, xs[i]? = some x ∧ RelV x v
  | _, _, i, v, .nil, h => by simp at h
  | _, _, 0, v, .cons a b, h => by simp at h; subst h; exact ⟨_, rfl, a⟩
  | _, _, i + 1, v, .cons a b, h => by simpa using vals_get b (by simpa using h)
def rowH (h : Heap) : Option Value → List Value
  | some (.ref d) => match h.get? d with
    | some ⟨_, _, .seq a _, _⟩ => a.toList
    | _ => []
  | _ => []
theorem cr_sumL {X : Cx} (hc : X.calm = true) : CallR X (.builtin "sum") (rSumL X.K) := by
  intro pins s σ H vs us Q I r h
  obtain ⟨a, b, cs, yss, rfl, hs, hb, hrow, hlen, hz, q1, q2⟩ := h
  obtain ⟨its, rv, hl, _⟩ := I.list hs
  obtain ⟨_, its0, m0, r0, _, e0⟩ := I.lstM hb
  cases r0
  obtain ⟨u1, u2, rfl, k1, k2⟩ := vals2 r
  cases k1
  cases k2
  let rows : Nat → List Value := fun i => rowH s.heap its[i]?
  have hlen2 : its.length = cs.length := rv.length.symm
  have hr : ∀ i v, its[i]? = some v → ∃ c m ys, v = .ref c ∧ IsL s.heap c (rows i).toArray m ∧ yss[i]? = some ys ∧ Vals ys (rows i) := fun i v e => by
    obtain ⟨x, ex, rx⟩ := vals_get rv e
    obtain ⟨d, ys, rfl, ey, hd⟩ := hrow i x ex
    cases rx
    obtain ⟨_, its2, m2, r2, _, e2⟩ := I.lstM hd
    have : rows i = its2 := by
      show rowH s.heap its[i]? = its2
      rw [e]
      show (match s.heap.get? d with | some ⟨_, _, .seq a _, _⟩ => a.toList | _ => []) = its2
      rw [e2]
    rw [this]
    exact ⟨d, m2, ys, rfl, e2, ey, r2⟩
  have ha : ∀ n, n ≤ its.length → Vals (yss.take n).flatten (accL rows n) := by
    intro n
    induction n with
    | zero => intro _; rw [List.take_zero]; exact .nil
    | succ n ih =>
      intro hn
      obtain ⟨c, m, ys, _, _, ey, ry⟩ := hr n its[n] (List.getElem?_eq_getElem (by omega))
      rw [List.take_succ, ey]
      have : (yss.take n ++ (some ys).toList).flatten = (yss.take n).flatten ++ ys := by simp
      rw [this]
      exact (ih (by omega)).append ry
  have hall := ha its.length (Nat.le_refl _)
  rw [List.take_of_length_le (by omega)] at hall
  refine sum_rows (rows := rows) (I.ok.hd hc) hl.isList e0 (fun i v e => by obtain ⟨c, m, _, h1, h2, _⟩ := hr i v e; exact ⟨c, m, h1, h2⟩) (by rw [← hall.length]; exact hz) fun h' tk tr m' h1 h2 h3 h4 => ?_
  by_cases e : its = []
  · rw [h3 e]
    have : cs = [] := by rw [e] at hlen2; exact List.length_eq_zero_iff.mp hlen2.symm
    exact ⟨.ref b, H, I.kept h1, rfl, q1 this⟩
  · exact ⟨.ref tr, upd H tr (.lst yss.flatten), I.laid h1 (h4 e) ⟨hz, _, m', hall, h2⟩, rfl, q2 _ (I.hok.fresh (h4 e))⟩
/-! lists of whole numbers, which is more -/
def rGtL (K : W.Frag) : R2 := fun x y H Q => ∃ (a b : Addr) (ns ms : List Int), x = .ref a ∧ y = .ref b ∧ SqL K H a (ns.map V.int) ∧ SqL K H b (ms.map V.int) ∧ Q (.bl (gtN ns ms)) H
theorem firstLt_map (e r : Nat → Bool) (z : Bool) (f : Nat → Nat) : ∀ l : List Nat, SeqAt.firstLt e r z (l.map f) = SeqAt.firstLt (fun j => e (f j)) (fun j => r (f j)) z l
  | [] => rfl
  | j :: t => by
    rw [List.map_cons]
    show (if e (f j) = true then _ else _) = if e (f j) = true then _ else _
    rw [firstLt_map e r z f t]
theorem gtN_is : ∀ ns ms : List Int, SeqAt.firstLt (fun j => decide (ns.getD j 0 = ms.getD j 0)) (fun j => decide (ms.getD j 0 < ns.getD j 0)) (decide (ns.length > ms.length)) (List.range (min ns.length ms.length)) = gtN ns ms
  | [], ms => by simp [gtN, SeqAt.firstLt]
  | x :: xs, [] => by simp [gtN, SeqAt.firstLt]
  | x :: xs, y :: ys => by
    have ih := gtN_is xs ys
    have e : min (x :: xs).length (y :: ys).length = min xs.length ys.length + 1 := by simp only [List.length_cons]; omega
    have e2 : decide ((x :: xs).length > (y :: ys).length) = decide (xs.length > ys.length) := by simp
    rw [e, e2, List.range_succ_eq_map]
    show (if decide (x = y) = true then _ else decide (y < x)) = gtN (x :: xs) (y :: ys)
    rw [firstLt_map]
    show (if decide (x = y) = true then SeqAt.firstLt (fun j => decide (xs.getD j 0 = ys.getD j 0)) (fun j => decide (ys.getD j 0 < xs.getD j 0)) (decide (xs.length > ys.length)) (List.range (min xs.length ys.length)) else decide (y < x)) = gtN (x :: xs) (y :: ys)
    rw [ih]
    simp [gtN]
theorem op_gtL {X : Cx} (hu : X.A.units < cLine) : OpR X (compareOp .Gt) (rGtL X.K) := by
  intro pins s σ H x y v u Q I rx ry h
  obtain ⟨a, b, ns, ms, rfl, rfl, ha, hb, q⟩ := h
  cases rx
  cases ry
  obtain ⟨its, r1, p1, _⟩ := I.list ha
  obtain ⟨its2, r2, p2, _⟩ := I.list hb
  have i1 : IntsAre its ns := Vals.ints r1
  have i2 : IntsAre its2 ms := Vals.ints r2
  have e1 : its.toArray.size = ns.length := by rw [List.size_toArray]; exact i1.length
  have e2 : its2.toArray.size = ms.length := by rw [List.size_toArray]; exact i2.length
  have at1 : ∀ j (h1 : j < its.toArray.size), ∃ t, its.toArray[j] = .int (ns.getD j 0) t := fun j h1 => PyProof.Rows.IntsAre.int_at i1 _ _ (by simp at h1; simp [h1])
  have at2 : ∀ j (h1 : j < its2.toArray.size), ∃ t, its2.toArray[j] = .int (ms.getD j 0) t := fun j h1 => PyProof.Rows.IntsAre.int_at i2 _ _ (by simp at h1; simp [h1])
  have R := SeqAt.RcOp.lists_gt (A := X.A) (s := s) (e := fun j => decide (ns.getD j 0 = ms.getD j 0)) (r := fun j => decide (ms.getD j 0 < ns.getD j 0)) p1.isList p2.isList hu (fun j h1 h2 => by
    obtain ⟨t, et⟩ := at1 j h1
    obtain ⟨t', et'⟩ := at2 j h2
    rw [et, et']
    have z : (ns.getD j 0 == ms.getD j 0) = decide (ns.getD j 0 = ms.getD j 0) := by
      by_cases q : ns.getD j 0 = ms.getD j 0
      · rw [decide_eq_true q]; exact beq_iff_eq.mpr q
      · rw [decide_eq_false q]; exact beq_eq_false_iff_ne.mpr q
    rw [← z]
    exact SeqAt.EqAt.int_int _ _ _ _) (fun j h1 h2 _ => by
    obtain ⟨t, et⟩ := at1 j h1
    obtain ⟨t', et'⟩ := at2 j h2
    rw [et, et']
    exact fun _ _ _ _ h => PyProof.Rows.gt_int h)
  rw [e1, e2, gtN_is] at R
  have z : wpAny (model X.prog X.w) X.A (compareOp .Gt (.ref a) (.ref b)) (EP X pins σ Q) X.xe s := R X.prog X.w X.xe (EP X pins σ Q) ⟨.bl _, H, I, rfl, q⟩
  exact z
/-! sorted lists of whole numbers -/
theorem insI_perm (x : Int) : ∀ ys, (insI x ys).Perm (x :: ys)
  | [] => .refl _
  | y :: ys => by
    unfold insI
    split
    · exact .refl _
    · exact ((insI_perm x ys).cons y).trans (.swap x y ys)
theorem sortI_perm : ∀ xs, (sortI xs).Perm xs
  | [] => .refl _
  | x :: xs => (insI_perm x (sortI xs)).trans ((sortI_perm xs).cons x)
theorem insI_sorted (x : Int) : ∀ {ys : List Int}, ys.Pairwise (· ≤ ·) → (insI x ys).Pairwise (· ≤ ·)
  | [], _ => by simp [insI]
  | y :: ys, h => by
    unfold insI
    split
    · rename_i c
      refine List.pairwise_cons.mpr ⟨fun z hz => ?_, h⟩
      rcases List.mem_cons.mp hz with rfl | hz
      · exact c
      · exact Int.le_trans c ((List.pairwise_cons.mp h).1 z hz)
    · rename_i c
      refine List.pairwise_cons.mpr ⟨fun z hz => ?_, insI_sorted x (List.pairwise_cons.mp h).2⟩
      rcases List.mem_cons.mp ((insI_perm x ys).mem_iff.mp hz) with rfl | hz
      · omega
      · exact (List.pairwise_cons.mp h).1 z hz
theorem sortI_sorted : ∀ xs, (sortI xs).Pairwise (· ≤ ·)
  | [] => .nil
  | x :: xs => insI_sorted x (sortI_sorted xs)
theorem sorted_unique : ∀ {xs ys : List Int}, xs.Perm ys → xs.Pairwise (· ≤ ·) → ys.Pairwise (· ≤ ·) → xs = ys
  | [], ys, p, _, _ => (List.nil_perm.mp p).symm
  | x :: xs, [], p, _, _ => absurd p.length_eq (by simp)
  | x :: xs, y :: ys, p, hx, hy => by
    have a1 : x ≤ y := by
      rcases List.mem_cons.mp (p.symm.mem_iff.mp (List.mem_cons_self (a := y) (l := ys))) with e | m
      · omega
      · exact (List.pairwise_cons.mp hx).1 y m
    have a2 : y ≤ x := by
      rcases List.mem_cons.mp (p.mem_iff.mp (List.mem_cons_self (a := x) (l := xs))) with e | m
      · omega
      · exact (List.pairwise_cons.mp hy).1 x m
    have e : x = y := by omega
    subst e
    rw [sorted_unique (List.Perm.cons_inv p) (List.pairwise_cons.mp hx).2 (List.pairwise_cons.mp hy).2]
theorem sortI_is {xs ys : List Int} (p : ys.Perm xs) (h : ys.Pairwise (· ≤ ·)) : ys = sortI xs := sorted_unique (p.trans (sortI_perm xs).symm) h (sortI_sorted xs)
/-! sorted lists of pairs of whole numbers -/
theorem leP_iff {p q : Int × Int} : leP p q = true ↔ p.1 < q.1 ∨ (p.1 = q.1 ∧ p.2 ≤ q.2) := by unfold leP; rw [decide_eq_true_eq]
theorem insP_perm (x : Int × Int) : ∀ ys, (insP x ys).Perm (x :: ys)
  | [] => .refl _
  | y :: ys => by
    unfold insP
    split
    · exact .refl _
    · exact ((insP_perm x ys).cons y).trans (.swap x y ys)
theorem sortP_perm : ∀ xs, (sortP xs).Perm xs
  | [] => .refl _
  | x :: xs => (insP_perm x (sortP xs)).trans ((sortP_perm xs).cons x)
abbrev SortedP (xs : List (Int × Int)) : Prop := xs.Pairwise fun p q => leP p q = true
theorem insP_sorted (x : Int × Int) : ∀ {ys : List (Int × Int)}, SortedP ys → SortedP (insP x ys)
  | [], _ => by simp [insP]
  | y :: ys, h => by
    unfold insP
    split
    · rename_i c
      refine List.pairwise_cons.mpr ⟨fun z hz => ?_, h⟩
      rcases List.mem_cons.mp hz with rfl | hz
      · exact c
      · have a := leP_iff.mp c
        have b := leP_iff.mp ((List.pairwise_cons.mp h).1 z hz)
        exact leP_iff.mpr (by omega)
    · rename_i c
      refine List.pairwise_cons.mpr ⟨fun z hz => ?_, insP_sorted x (List.pairwise_cons.mp h).2⟩
      rcases List.mem_cons.mp ((insP_perm x ys).mem_iff.mp hz) with rfl | hz
      · rw [leP_iff] at c
        exact leP_iff.mpr (by omega)
      · exact (List.pairwise_cons.mp h).1 z hz
theorem sortP_sorted : ∀ xs, SortedP (sortP xs)
  | [] => .nil
  | x :: xs => insP_sorted x (sortP_sorted xs)
theorem sortedP_unique : ∀ {xs ys : List (Int × Int)}, xs.Perm ys → SortedP xs → SortedP ys → xs = ys
  | [], ys, p, _, _ => (List.nil_perm.mp p).symm
  | x :: xs, [], p, _, _ => absurd p.length_eq (by simp)
  | x :: xs, y :: ys, p, hx, hy => by
    have e : x = y := by
      rcases List.mem_cons.mp (p.symm.mem_iff.mp (List.mem_cons_self (a := y) (l := ys))) with e | m
      · exact e.symm
      · rcases List.mem_cons.mp (p.mem_iff.mp (List.mem_cons_self (a := x) (l := xs))) with e | m2
        · exact e
        · have a := leP_iff.mp ((List.pairwise_cons.mp hx).1 y m)
          have b := leP_iff.mp ((List.pairwise_cons.mp hy).1 x m2)
          exact Prod.ext (by omega) (by omega)
    subst e
    rw [sortedP_unique (List.Perm.cons_inv p) (List.pairwise_cons.mp hx).2 (List.pairwise_cons.mp hy).2]
theorem sortP_is {xs ys : List (Int × Int)} (p : ys.Perm xs) (h : SortedP ys) : ys = sortP xs := sortedP_unique (p.trans (sortP_perm xs).symm) h (sortP_sorted xs)
/-- the two whole numbers of a pair -/
def kH (H : Hp) : V → Int × Int
  | .ref t => match H t with
    | some (.tup [.int a, .int b]) => (a, b)
    | _ => (0, 0)
  | _ => (0, 0)
theorem pair_inv {K : W.Frag} {F H : Hp} {x : V} {p : Int × Int} {f : List Addr} (r : RpT K F H x (pairTp p) f) : kH H x = p ∧ ∃ t, x = V.ref t ∧ H t = some (.tup [.int p.1, .int p.2]) := by
  unfold pairTp at r
  cases r with
  | tp h r =>
    cases r with
    | cons a b =>
      cases b with
      | cons c d =>
        cases d with
        | nil =>
          cases a with | v a => cases a with | int i =>
          cases c with | v c => cases c with | int j =>
          refine ⟨?_, _, rfl, h⟩
          simp only [kH, h]
theorem pairsT_is : ∀ {ts : List T} {ps : List (Int × Int)}, pairsT ts = some ps → ts = ps.map pairTp
  | [], ps, e => by cases e; rfl
  | t :: ts, ps, e => by
    unfold pairsT at e
    split at e
    · rename_i e0; cases e0
    · rename_i a b ts' e0
      cases e0
      cases h : pairsT ts with
      | none => rw [h] at e; cases e
      | some r =>
        rw [h] at e
        cases e
        rw [pairsT_is h]; rfl
    · cases e
theorem pairs_all {K : W.Frag} {F H : Hp} : ∀ {xs : List V} {ps : List (Int × Int)} {f : List Addr}, RpTs K F H xs (ps.map pairTp) f → xs.map (kH H) = ps ∧ ∀ x ∈ xs, ∃ t, x = V.ref t ∧ H t = some (.tup [.int (kH H x).1, .int (kH H x).2])
  | _, [], _, .nil => ⟨rfl, fun x h => by cases h⟩
  | _, p :: ps, _, .cons a b => by
    obtain ⟨h1, t, h2, h3⟩ := pair_inv a
    obtain ⟨k1, k2⟩ := pairs_all b
    refine ⟨by rw [List.map_cons, h1, k1], fun x hx => ?_⟩
    rcases List.mem_cons.mp hx with rfl | hx
    · exact ⟨t, h2, by rw [h1]; exact h3⟩
    · exact k2 x hx
theorem pairs_perm {K : W.Frag} {F H : Hp} {xs ys : List V} (p : xs.Perm ys) : ∀ {ps : List (Int × Int)} {f : List Addr}, RpTs K F H xs (ps.map pairTp) f → ∃ (qs : List (Int × Int)) (g : List Addr), RpTs K F H ys (qs.map pairTp) g ∧ qs.Perm ps ∧ ∀ c, g.count c ≤ f.count c := by
  induction p with
  | nil =>
    intro ps f r
    exact ⟨ps, f, r, .refl _, fun c => Nat.le_refl _⟩
  | cons x _ ih =>
    intro ps f r
    cases ps with
    | nil => cases r
    | cons p ps =>
      cases r with
      | cons a b =>
        obtain ⟨qs, g, h1, h2, h3⟩ := ih b
        exact ⟨p :: qs, _, .cons a h1, h2.cons p, fun c => by have := h3 c; simp only [List.count_append]; omega⟩
  | swap x y l =>
    intro ps f r
    cases ps with
    | nil => cases r
    | cons p ps =>
      cases r with
      | cons a b =>
        cases ps with
        | nil => cases b
        | cons q ps =>
          cases b with
          | cons c d => exact ⟨q :: p :: ps, _, .cons c (.cons a d), .swap p q ps, fun c => by simp only [List.count_append]; omega⟩
  | trans _ _ ih1 ih2 =>
    intro ps f r
    obtain ⟨qs, g, h1, h2, h3⟩ := ih1 r
    obtain ⟨qs', g', k1, k2, k3⟩ := ih2 h1
    exact ⟨qs', g', k1, k2.trans h2, fun c => Nat.le_trans (k3 c) (h3 c)⟩
theorem srtd_pairs {H : Hp} {ys : List V} (h : SrtO.Srtd (ltP (kH H)) ys) : SortedP (ys.map (kH H)) := by
  refine List.pairwise_map.mpr (h.imp fun {x y} e => ?_)
  have := SrtO.lexB_no.mp e
  exact leP_iff.mpr (by omega)
end Tv

namespace Tv
open PySem PySem.Spec PyProof.Rows L2

/-! ### comparisons -/
theorem py_str (z : Str) : (D.str z.cps.toList).py = .str z := by
  unfold D.py; simp
mutual
theorem RpD.dp {K : W.Frag} {H : Hp} : ∀ {x : V} {d : D} {n : Nat}, RpD K H x d → d.okD n = true → Dp K H x d.py
  | _, _, _, .non, _ => .non
  | _, _, _, .bl b, _ => .bl b
  | _, _, _, .int i, _ => .int i
  | _, _, _, .str z _, _ => by rw [py_str]; exact .str z
  | _, _, 0, .lst h r, e => by simp [D.okD] at e
  | _, _, 0, .tup h r, e => by simp [D.okD] at e
  | _, _, n + 1, .lst h r, e => .lst (.of h) (RpDs.dp r (by simpa [D.okD] using e))
  | _, _, n + 1, .tup h r, e => .tup h (RpDs.dp r (by simpa [D.okD] using e))
  | _, _, _, .scr h, e => by simp [D.okD] at e
  | _, _, _, .dic0 h, e => by simp [D.okD] at e
theorem RpDs.dp {K : W.Frag} {H : Hp} : ∀ {x : List V} {d : List D} {n : Nat}, RpDs K H x d → D.okDs d n = true → DpAll K H x (D.pys d)
  | _, _, _, .nil, _ => .nil
  | _, _, _, .cons a b, e => by
    simp [D.okDs] at e
    exact .cons (RpD.dp a e.1) (RpDs.dp b e.2)
end
theorem strOk_of {z : Str} (h : okS z.cps.toList = true) : PyData.strOk z = true := by
  unfold okS at h
  simp only [Bool.and_eq_true, List.all_eq_true, decide_eq_true_eq] at h
  unfold PyData.strOk
  rw [Array.all_eq_true']
  intro c hc
  exact decide_eq_true (h.2 c (by simpa using hc))
mutual
theorem RpD.lay {K : W.Frag} {H : Hp} : ∀ {x : V} {d : D} {n : Nat}, RpD K H x d → d.okD n = true → d.py.canLay0 = true ∧ d.py.depth ≤ n
  | _, _, _, .non, _ => ⟨rfl, Nat.zero_le _⟩
  | _, _, _, .bl b, _ => ⟨rfl, Nat.zero_le _⟩
  | _, _, _, .int i, _ => ⟨rfl, Nat.zero_le _⟩
  | _, _, _, .str z h, _ => by rw [py_str]; exact ⟨strOk_of h, Nat.zero_le _⟩
  | _, _, 0, .lst h r, e => by simp [D.okD] at e
  | _, _, 0, .tup h r, e => by simp [D.okD] at e
  | _, _, n + 1, .lst h r, e => by
    have := RpDs.lay r (show D.okDs _ n = true by simpa [D.okD] using e)
    exact ⟨this.1, Nat.succ_le_succ this.2⟩
  | _, _, n + 1, .tup h r, e => by
    have := RpDs.lay r (show D.okDs _ n = true by simpa [D.okD] using e)
    exact ⟨this.1, Nat.succ_le_succ this.2⟩
  | _, _, _, .scr h, e => by simp [D.okD] at e
  | _, _, _, .dic0 h, e => by simp [D.okD] at e
theorem RpDs.lay {K : W.Frag} {H : Hp} : ∀ {x : List V} {d : List D} {n : Nat}, RpDs K H x d → D.okDs d n = true → PyData.canLayAll0 (D.pys d) = true ∧ PyData.depthAll (D.pys d) ≤ n
  | _, _, _, .nil, _ => ⟨rfl, Nat.zero_le _⟩
  | _, _, _, .cons a b, e => by
    simp [D.okDs] at e
    have h1 := RpD.lay a e.1
    have h2 := RpDs.lay b e.2
    refine ⟨?_, ?_⟩
    · simp only [D.pys, PyData.canLayAll0, h1.1, h2.1, Bool.and_self]
    · simp only [D.pys, PyData.depthAll]; omega
end
theorem RpD.shaped {K : W.Frag} {H : Hp} {x : V} {d : D} (r : RpD K H x d) (e : d.okD 60 = true) : SeqAt.shaped d.py = true := by
  have := r.lay e
  unfold SeqAt.shaped
  rw [this.1, Bool.true_and]
  exact decide_eq_true (by omega)
theorem flatV_of {K : W.Frag} {H : Hp} {x : V} {d : D} (r : RpD K H x d) (h : d.flat = true) : flatV x = true := by
  cases r <;> first | rfl | cases h
theorem eqV_of {K : W.Frag} {H : Hp} {x y : V} {d e : D} (r : RpD K H x d) (q : RpD K H y e) (h : d.flat = true) (h' : e.flat = true) : eqV x y = eqD d e := by
  unfold eqD
  cases r with
  | non => cases q <;> first | rfl | cases h'
  | bl b => cases q <;> first | rfl | cases h'
  | int i => cases q <;> first | rfl | cases h'
  | str z _ =>
    rw [py_str]
    cases q with
    | str z' _ => rw [py_str]; rfl
    | non => rfl
    | bl b => rfl
    | int i => rfl
    | _ => cases h'
  | _ => cases h
theorem inV_of {K : W.Frag} {F H : Hp} (hF : Sub F H) {x : V} {d : D} (r : RpD K H x d) (h : d.flat = true) : ∀ {ys : List V} {ts : List T} {f : List Addr}, RpTs K F H ys ts f → (ts.all fun t => t.er.flat) = true →
    ys.all flatV = true ∧ inV x ys = ts.any fun t => eqD t.er d
  | _, _, _, .nil, _ => ⟨rfl, rfl⟩
  | _, _, _, .cons a b, e => by
    rw [List.all_cons, Bool.and_eq_true] at e
    have q := a.read hF
    obtain ⟨h1, h2⟩ := inV_of hF r h b e.2
    refine ⟨by rw [List.all_cons, flatV_of q e.1, h1]; rfl, ?_⟩
    unfold inV at h2 ⊢
    rw [List.any_cons, List.any_cons, h2, eqV_of q r e.1 h]
def rC (K : W.Frag) : COp → R2
  | .eq => rEqD K
  | .ne => rNeD K
  | .lt => rI0 fun i j => .bl (decide (i < j))
  | .le => rI0 fun i j => .bl (decide (i ≤ j))
  | .gt => fun x y H Q => rI0 (fun i j => .bl (decide (j < i))) x y H Q ∨ rGtL K x y H Q
  | .ge => rI0 fun i j => .bl (decide (j ≤ i))
  | .isIn => fun x y H Q => (∃ (c : Nat) (z : Str), x = .str ⟨#[c]⟩ ∧ y = .str z ∧ Q (.bl (decide (c ∈ z.cps.toList))) H) ∨ rIn K false x y H Q ∨ rInD K x y H Q
  | .notIn => fun x y H Q => (∃ (c : Nat) (z : Str), x = .str ⟨#[c]⟩ ∧ y = .str z ∧ Q (.bl (!decide (c ∈ z.cps.toList))) H) ∨ rIn K true x y H Q ∨ rNotInD K x y H Q
theorem op_C {X : Cx} (hu : X.A.units + 65 < cLine) (o : COp) : OpR X (compareOp o.op) (rC X.K o) := by
  cases o with
  | eq => exact op_eqD (by omega)
  | ne => exact op_neD (by omega)
  | lt => exact op_lt
  | le => exact op_le
  | gt => exact OpR.or op_gt (op_gtL (by omega))
  | ge => exact op_ge
  | isIn => exact OpR.or op_in_sign (OpR.or op_in_seq (op_inD hu))
  | notIn => exact OpR.or op_notIn_sign (OpR.or op_notIn_seq (op_notInD hu))
theorem sign_mk {z : Str} {c : Nat} (h : z.cps.toList = [c]) : z = ⟨#[c]⟩ := by
  obtain ⟨a⟩ := z
  have : a = #[c] := by
    apply Array.toList_inj.mp
    simpa using h
  rw [this]
section
variable {K : W.Frag} {F H : Hp} {x : V} {xs : List V} {t : T} {ts : List T} {f : List Addr}
theorem intsT_ok : ∀ {xs : List V} {ts : List T} {f : List Addr} {ns : List Int}, intsT ts = some ns → RpTs K F H xs ts f → xs = ns.map V.int
  | _, [], _, ns, e, .nil => by cases e; rfl
  | _, t :: ts, _, ns, e, .cons a b => by
    unfold intsT at e
    split at e
    · rename_i e0; cases e0
    · rename_i i ts' e0
      cases e0
      cases h : intsT ts with
      | none => rw [h] at e; cases e
      | some r =>
        rw [h] at e
        cases e
        obtain ⟨rfl, _⟩ := int_inv a
        rw [intsT_ok h b]; rfl
    · cases e
end
theorem inT_ok {K : W.Frag} {F H : Hp} (hF : Sub F H) {x y : V} {a b : T} {fa fb : List Addr} {k : Bool} (ra : RpT K F H x a fa) (rb : RpT K F H y b fb) (e : inT a b = some k) :
    (∃ (c : Nat) (z : Str), x = .str ⟨#[c]⟩ ∧ y = .str z ∧ decide (c ∈ z.cps.toList) = k) ∨ (∃ p xs, y = .ref p ∧ (SqL K H p xs ∨ SqT K H p xs) ∧ flatV x = true ∧ xs.all flatV = true ∧ inV x xs = k) ∨
      (∃ d es, Dp K H x d ∧ Dp K H y (.list es) ∧ SeqAt.shaped d = true ∧ SeqAt.shaped (.list es) = true ∧ (es.any fun z => PyData.eqv z d) = k) := by
  unfold inT at e
  split at e
  · cases e
    obtain ⟨z, rfl, h1, _⟩ := str_inv ra
    obtain ⟨z', rfl, h2, _⟩ := str_inv rb
    have := sign_mk h1
    subst this
    exact .inl ⟨_, _, rfl, rfl, by rw [h2]⟩
  · split at e
    · rename_i ts eq
      split at e
      · rename_i hf
        cases e
        rw [Bool.and_eq_true] at hf
        obtain ⟨p, xs, g, rfl, hq, r1, _⟩ := asQ_ok eq hF rb
        have rd := ra.read hF
        obtain ⟨h1, h2⟩ := inV_of hF rd hf.1 r1 hf.2
        exact .inr (.inl ⟨_, _, rfl, hq, flatV_of rd hf.1, h1, h2⟩)
      · have rd := ra.read hF
        have ry := rb.read hF
        unfold inDT at e
        split at e
        · rename_i es he
          split at e
          · rename_i h
            cases e
            rw [Bool.and_eq_true] at h
            rw [he] at ry
            have h1 := rd.dp h.1
            have h2 := ry.dp h.2
            have h3 := rd.shaped h.1
            have h4 := ry.shaped h.2
            have e5 : (D.lst es).py = .list (D.pys es) := by simp [D.py]
            rw [e5] at h2 h4
            refine .inr (.inr ⟨_, _, h1, h2, h3, h4, ?_⟩)
            have : ∀ es : List D, (D.pys es).any (fun z => PyData.eqv z a.er.py) = es.any fun z => eqD z a.er := fun es => by
              induction es with
              | nil => rfl
              | cons z zs ih => rw [D.pys, List.any_cons, List.any_cons, ih]; rfl
            exact this es
          · cases e
        · cases e
    · cases e
/-- what a comparison tells, by values -/
theorem cmpT_ok {K : W.Frag} {F H : Hp} (hF : Sub F H) {x y : V} {a b : T} {fa fb : List Addr} {k : Bool} {o : COp} {Q : VK} (ra : RpT K F H x a fa) (rb : RpT K F H y b fb) (e : cmpT o a b = some k) (q : Q (.bl k) H) : rC K o x y H Q := by
  have eqs : ∀ {k}, eqT a b = some k → ∃ d e', Dp K H x d ∧ Dp K H y e' ∧ SeqAt.shaped d = true ∧ SeqAt.shaped e' = true ∧ PyData.eqv d e' = k := by
    intro k e
    unfold eqT at e
    split at e
    · rename_i h
      cases e
      rw [Bool.and_eq_true] at h
      have r1 := ra.read hF
      have r2 := rb.read hF
      exact ⟨_, _, r1.dp h.1, r2.dp h.2, r1.shaped h.1, r2.shaped h.2, rfl⟩
    · cases e
  cases o with
  | eq =>
    obtain ⟨d, e', h1, h2, h3, h4, h5⟩ := eqs e
    exact ⟨d, e', h1, h2, h3, h4, by rw [h5]; exact q⟩
  | ne =>
    have e : (eqT a b).map (fun b => !b) = some k := e
    cases h : eqT a b with
    | none => rw [h] at e; cases e
    | some k' =>
      rw [h] at e
      cases e
      obtain ⟨d, e', h1, h2, h3, h4, h5⟩ := eqs h
      exact ⟨d, e', h1, h2, h3, h4, by rw [h5]; exact q⟩
  | lt =>
    simp only [cmpT] at e
    split at e
    · cases e
      obtain ⟨rfl, _⟩ := int_inv ra
      obtain ⟨rfl, _⟩ := int_inv rb
      exact ⟨_, _, rfl, rfl, q⟩
    · cases e
  | le =>
    simp only [cmpT] at e
    split at e
    · cases e
      obtain ⟨rfl, _⟩ := int_inv ra
      obtain ⟨rfl, _⟩ := int_inv rb
      exact ⟨_, _, rfl, rfl, q⟩
    · cases e
  | gt =>
    simp only [cmpT] at e
    split at e
    · cases e
      obtain ⟨rfl, _⟩ := int_inv ra
      obtain ⟨rfl, _⟩ := int_inv rb
      exact .inl ⟨_, _, rfl, rfl, q⟩
    · split at e
      · rename_i ns ms e1 e2
        cases e
        cases f1 : lOnly a with
        | none => rw [f1] at e1; cases e1
        | some us =>
        cases f2 : lOnly b with
        | none => rw [f2] at e2; cases e2
        | some ws =>
        rw [f1] at e1
        rw [f2] at e2
        obtain ⟨p, xs, g, rfl, hq, r1, _⟩ := lOnly_ok f1 hF ra
        obtain ⟨p', xs', g', rfl, hq', r1', _⟩ := lOnly_ok f2 hF rb
        have h1 := intsT_ok e1 r1
        have h2 := intsT_ok e2 r1'
        subst h1 h2
        exact .inr ⟨_, _, _, _, rfl, rfl, hq, hq', q⟩
      · cases e
  | ge =>
    simp only [cmpT] at e
    split at e
    · cases e
      obtain ⟨rfl, _⟩ := int_inv ra
      obtain ⟨rfl, _⟩ := int_inv rb
      exact ⟨_, _, rfl, rfl, q⟩
    · cases e
  | isIn =>
    rcases inT_ok hF ra rb e with ⟨c, z, h1, h2, h3⟩ | ⟨p, xs, h1, h2, h3, h4, h5⟩ | ⟨d, es, h1, h2, h3, h4, h5⟩
    · exact .inl ⟨c, z, h1, h2, by rw [h3]; exact q⟩
    · exact .inr (.inl ⟨p, xs, h1, h2, h3, h4, by rw [if_neg Bool.false_ne_true, h5]; exact q⟩)
    · exact .inr (.inr ⟨d, es, h1, h2, h3, h4, by rw [h5]; exact q⟩)
  | notIn =>
    have e : (inT a b).map (fun b => !b) = some k := e
    cases h : inT a b with
    | none => rw [h] at e; cases e
    | some k' =>
      rw [h] at e
      cases e
      rcases inT_ok hF ra rb h with ⟨c, z, h1, h2, h3⟩ | ⟨p, xs, h1, h2, h3, h4, h5⟩ | ⟨d, es, h1, h2, h3, h4, h5⟩
      · exact .inl ⟨c, z, h1, h2, by rw [h3]; exact q⟩
      · exact .inr (.inl ⟨p, xs, h1, h2, h3, h4, by rw [if_pos rfl, h5]; exact q⟩)
      · exact .inr (.inr ⟨d, es, h1, h2, h3, h4, by rw [h5]; exact q⟩)
theorem chk_set {N sc b m a k p} : chkE N sc b m (.Set a k p) = false := by cases m <;> rfl
theorem chk_star {N sc b m a p} : chkE N sc b m (.Starred a p) = false := by cases m <;> rfl
theorem chk_notSet {N sc b m e} (h : chkE N sc b m e = true) : notSet e = true := by
  cases e with
  | Set a k p => rw [chk_set] at h; cases h
  | _ => rfl
theorem chk_notStar {N sc b m e} (h : chkE N sc b m e = true) : notStar e = true := by
  cases e with
  | Starred a p => rw [chk_star] at h; cases h
  | _ => rfl
theorem marks_of {op : CmpOp} {e : Expr} (h : notSet e = true) : behindInMarks op e = false := by
  cases e with
  | Set a k p => cases h
  | _ => rfl
theorem fset_of {e : Expr} {env : PySem.Env} (h : notSet e = true) : ∀ x, foldedSetIterable e env x = pure x := by
  cases e with
  | Set a k p => cases h
  | _ => intro x; rfl
section
variable {G : Glob}
theorem ok_cmp {o : COp} {a b : E} (ha : Ok G a) (hb : Ok G b) : Ok G (.cmp o a b) := by
  have sh : ∀ {N sc b'} {e : Expr}, chkE N sc b' (.cmp o a b) e = true → ∃ x y pos, e = .Compare x [o.op] [y] pos ∧ chkE N sc b' a x = true ∧ chkE N sc b' b y = true := by
    intro N sc b' e c
    unfold chkE at c
    split at c
    · simp only [Bool.and_eq_true, decide_eq_true_eq] at c
      obtain ⟨⟨c1, c2⟩, c3⟩ := c
      subst c1
      exact ⟨_, _, _, rfl, c2, c3⟩
    · cases c
  have rd : ∀ {K : W.Frag} {W : WX} σ H Q, TE' K G W (.cmp o a b) σ H Q → tOp (rC K o) (TE' K G W a) (TE' K G W b) σ H Q := fun {K W} σ H Q h =>
    two (f := fun x y Γ => R.op ((cmpT o x y).map fun c => T.v (.bl c)) Γ) (fun B F H σ Γ tmp fa fb x y ta tb Q rel ra rb P => by
      cases e : cmpT o ta tb with
      | none => rw [e] at P; exact P.elim
      | some k =>
        rw [e] at P
        exact cmpT_ok rel.sub ra rb e (Post.flatv (Γ := Γ) P rel (fun c => by simp only [List.count_append]; omega) (.bl _))) σ H Q h
  refine ⟨fun X W b' e g c => ?_, fun X W b' e g c => ?_, pw_no fun N sc b op vs pos => rfl⟩
  · obtain ⟨x, y, pos, rfl, c1, c2⟩ := sh c
    exact PE.imp (pe_cmpR (op_C (by have := g.hu; omega) o) (ha.pe X W b' x g c1) (hb.pe X W b' y g c2) (marks_of (chk_notSet c2))) rd
  · obtain ⟨x, y, pos, rfl, c1, c2⟩ := sh c
    exact PT.imp (pt_cmpR (op_C (by have := g.hu; omega) o) (ha.pe X W b' x g c1) (hb.pe X W b' y g c2) (marks_of (chk_notSet c2))) fun σ H Q h => rd σ H _ h
theorem ok_cmp2 {o p : COp} {a b c : E} (ha : Ok G a) (hb : Ok G b) (hc : Ok G c) : Ok G (.cmp2 o p a b c) := by
  have sh : ∀ {N sc b'} {e : Expr}, chkE N sc b' (.cmp2 o p a b c) e = true → ∃ x y z pos, e = .Compare x [o.op, p.op] [y, z] pos ∧ chkE N sc b' a x = true ∧ chkE N sc b' b y = true ∧ chkE N sc b' c z = true := by
    intro N sc b' e c
    unfold chkE at c
    split at c
    · simp only [Bool.and_eq_true, decide_eq_true_eq] at c
      obtain ⟨⟨⟨⟨c1, c2⟩, c3⟩, c4⟩, c5⟩ := c
      subst c1 c2
      exact ⟨_, _, _, _, rfl, c3, c4, c5⟩
    · cases c
  have rd : ∀ {K : W.Frag} {W : WX} σ H Q, TE' K G W (.cmp2 o p a b c) σ H Q → tChain (rC K o) (rC K p) (TE' K G W a) (TE' K G W b) (TE' K G W c) σ H Q := by
    rintro K W σ H Q ⟨B, F, Γ, tmp, rel, P⟩
    refine ⟨B, F, Γ, tmp, rel, (P.bind (rep := rT K) (fp := [])).imp ?_⟩
    rintro x H1 ⟨ta, Γ1, F1, fa, rel1, ra, sH1, sF1, P1⟩
    refine ⟨B, F1, Γ1, fa ++ tmp, rel1, (P1.bind (rep := rT K) (fp := fa)).imp ?_⟩
    rintro y H2 ⟨tb, Γ2, F2, fb, rel2, rb, sH2, sF2, P2⟩
    cases e : cmpT o ta tb with
    | none => rw [e] at P2; exact P2.elim
    | some k =>
      rw [e] at P2
      refine cmpT_ok rel2.sub (ra.grow sF2 sH2) rb e ⟨k, rfl, ?_⟩
      cases k with
      | false =>
        rw [if_neg Bool.false_ne_true]
        exact Post.flatv (Γ := Γ2) P2 rel2 (fun c => by simp only [List.count_append]; omega) (.bl _)
      | true =>
        rw [if_pos rfl]
        refine ⟨B, F2, Γ2, _, rel2, ?_⟩
        rw [← List.append_assoc] at rel2 ⊢
        refine (P2.bind (rep := rT K) (fp := fb ++ fa)).imp ?_
        rintro z H3 ⟨tc, Γ3, F3, fc, rel3, rc, sH3, sF3, P3⟩
        cases e2 : cmpT p tb tc with
        | none => rw [e2] at P3; exact P3.elim
        | some k2 =>
          rw [e2] at P3
          exact cmpT_ok rel3.sub (rb.grow sF3 sH3) rc e2 (Post.flatv (Γ := Γ3) P3 rel3 (fun c => by simp only [List.count_append]; omega) (.bl _))
  refine ⟨fun X W b' e g c => ?_, fun X W b' e g c => ?_, pw_no fun N sc b op vs pos => rfl⟩
  · obtain ⟨x, y, z, pos, rfl, c1, c2, c3⟩ := sh c
    exact PE.imp (pe_chain (op_C (by have := g.hu; omega) o) (op_C (by have := g.hu; omega) p) (ha.pe X W b' x g c1) (hb.pe X W b' y g c2) (hc.pe X W b' z g c3) (marks_of (chk_notSet c3))) rd
  · obtain ⟨x, y, z, pos, rfl, c1, c2, c3⟩ := sh c
    exact PT.imp (pt_chain (op_C (by have := g.hu; omega) o) (op_C (by have := g.hu; omega) p) (ha.pe X W b' x g c1) (hb.pe X W b' y g c2) (hc.pe X W b' z g c3) (marks_of (chk_notSet c3))) fun σ H Q h => rd σ H _ h
theorem non_iff {K : W.Frag} {F H : Hp} (hF : Sub F H) {x : V} {t : T} {f : List Addr} (r : RpT K F H x t f) : decide (x = .non) = t.er.isNon := by
  have q := r.read hF
  generalize t.er = d at q
  cases q <;> rfl
theorem ok_isN {a : E} (ha : Ok G a) : Ok G (.isN a) := by
  have sh : ∀ {N sc b'} {e : Expr}, chkE N sc b' (.isN a) e = true → ∃ x j p pos, e = .Compare x [.Is] [.Constant .none j p] pos ∧ chkE N sc b' a x = true := by
    intro N sc b' e c
    unfold chkE at c
    split at c
    · exact ⟨_, _, _, _, rfl, c⟩
    · cases c
  have rd : ∀ {K : W.Frag} {W : WX} σ H Q, TE' K G W (.isN a) σ H Q → tIsN (TE' K G W a) σ H Q := fun {K W} σ H Q h =>
    one (rep := rT K) (r := fun x H (Q : VK) => Q (.bl (decide (x = .non))) H) (fun B F H σ Γ tmp fa x ta Q rel ra P => by
      rw [non_iff rel.sub ra]
      exact P.flatv rel (fun c => by simp only [List.count_append]; omega) (.bl _)) σ H Q h
  refine ⟨fun X W b' e g c => ?_, fun X W b' e g c => ?_, pw_no fun N sc b op vs pos => rfl⟩
  · obtain ⟨x, j, p, pos, rfl, c1⟩ := sh c
    exact PE.imp (pe_cmp (pc_isN (ha.pe X W b' x g c1))) rd
  · obtain ⟨x, j, p, pos, rfl, c1⟩ := sh c
    exact PT.imp (pt_cmp (pc_isN (ha.pe X W b' x g c1))) fun σ H Q h => rd σ H _ h
theorem ok_notN {a : E} (ha : Ok G a) : Ok G (.notN a) := by
  have sh : ∀ {N sc b'} {e : Expr}, chkE N sc b' (.notN a) e = true → ∃ x j p pos, e = .Compare x [.IsNot] [.Constant .none j p] pos ∧ chkE N sc b' a x = true := by
    intro N sc b' e c
    unfold chkE at c
    split at c
    · exact ⟨_, _, _, _, rfl, c⟩
    · cases c
  have rd : ∀ {K : W.Frag} {W : WX} σ H Q, TE' K G W (.notN a) σ H Q → tNotN (TE' K G W a) σ H Q := fun {K W} σ H Q h =>
    one (rep := rT K) (r := fun x H (Q : VK) => Q (.bl (!decide (x = .non))) H) (fun B F H σ Γ tmp fa x ta Q rel ra P => by
      rw [non_iff rel.sub ra]
      exact P.flatv rel (fun c => by simp only [List.count_append]; omega) (.bl _)) σ H Q h
  refine ⟨fun X W b' e g c => ?_, fun X W b' e g c => ?_, pw_no fun N sc b op vs pos => rfl⟩
  · obtain ⟨x, j, p, pos, rfl, c1⟩ := sh c
    exact PE.imp (pe_cmp (pc_notN (ha.pe X W b' x g c1))) rd
  · obtain ⟨x, j, p, pos, rfl, c1⟩ := sh c
    exact PT.imp (pt_cmp (pc_notN (ha.pe X W b' x g c1))) fun σ H Q h => rd σ H _ h

/-! ### and, or -/
theorem Post.more {α β : Type} {K : W.Frag} {W : WX} {B : Base} {F H : Hp} {σ : L2.St} {tmp tmp2 : List Addr} {rep : Hp → Hp → β → α → List Addr → Prop} {r : R α} {Q : β → Hp → Prop} (P : Post K G W B F H σ tmp rep r Q) (hc : ∀ c, tmp.count c ≤ tmp2.count c) : Post K G W B F H σ tmp2 rep r Q := by
  cases r with
  | bad => exact P
  | ok a Γ => exact fun v F' H' fp h1 h2 h3 h4 => P v F' H' fp (h1.less fun a => by rw [List.count_append, List.count_append]; have := hc a; omega) h2 h3 h4
  | ex x Γ => exact fun c d F' H' h1 h2 h3 h4 => P c d F' H' (h1.less hc) h2 h3 h4
theorem ok_and {a b : E} (ha : Ok G a) (hb : Ok G b) : Ok G (.and a b) := by
  have sh : ∀ {N sc b'} {e : Expr}, chkE N sc b' (.and a b) e = true → ∃ x y r pos, e = .BoolOp .And (x :: y :: r) pos ∧ chkE N sc b' a x = true ∧ ((r = [] ∧ chkE N sc b' b y = true) ∨ chkE N sc b' b (.BoolOp .And (y :: r) pos) = true) := by
    intro N sc b' e c
    unfold chkE at c
    split at c
    · rename_i x y r pos
      rw [Bool.and_eq_true] at c
      refine ⟨x, y, r, pos, rfl, c.1, ?_⟩
      have c2 := c.2
      split at c2
      · rename_i hr
        exact .inl ⟨by simpa using hr, c2⟩
      · exact .inr c2
    · cases c
  have rd : ∀ {K : W.Frag} {W : WX} σ H Q, TE' K G W (.and a b) σ H Q → tAndV (TE' K G W a) (TE' K G W b) σ H Q := by
    rintro K W σ H Q ⟨B, F, Γ, tmp, rel, P⟩
    refine ⟨B, F, Γ, tmp, rel, (P.bind (rep := rT K) (fp := [])).imp ?_⟩
    rintro x H1 ⟨ta, Γ1, F1, fa, rel1, ra, sH1, sF1, P1⟩
    split at P1
    · obtain ⟨rfl, rfl⟩ := bl_inv ra
      exact ⟨true, rfl, by rw [if_pos rfl]; exact ⟨B, F1, Γ1, _, rel1, P1⟩⟩
    · obtain ⟨rfl, rfl⟩ := bl_inv ra
      exact ⟨false, rfl, by rw [if_neg Bool.false_ne_true]; exact P1.flatv rel1 (fun c => by simp only [List.count_append]; omega) (.bl _)⟩
    · exact P1.elim
  have pe : ∀ X W b' e, Gd X G W b' → chkE X.N X.env.scope b' (.and a b) e = true → PE X e (TE' X.K G W (.and a b)) := by
    intro X W b' e g c
    obtain ⟨x, y, r, pos, rfl, c1, c2⟩ := sh c
    rcases c2 with ⟨rfl, c2⟩ | c2
    · exact PE.imp (pe_and (ha.pe X W b' x g c1) (pe_one (hb.pe X W b' y g c2))) rd
    · exact PE.imp (pe_and (ha.pe X W b' x g c1) (hb.pe X W b' _ g c2)) rd
  have pw : ∀ X W b' op vs pos, Gd X G W b' → chkE X.N X.env.scope b' (.and a b) (.BoolOp op vs pos) = true → PW X (.BoolOp op vs pos) (tB (TE' X.K G W (.and a b))) := by
    intro X W b' op vs pos g c
    obtain ⟨x, y, r, pos, e, c1, c2⟩ := sh c
    cases e
    have im : ∀ σ H Q, tB (TE' X.K G W (.and a b)) σ H Q → tAnd (tB (TE' X.K G W a)) (tB (TE' X.K G W b)) σ H Q := by
      intro σ H Q h
      obtain ⟨B, F, Γ, tmp, rel, P⟩ := rd σ H _ h
      refine ⟨B, F, Γ, tmp, rel, P.imp ?_⟩
      rintro v H' ⟨c, rfl, q⟩
      refine ⟨c, rfl, ?_⟩
      cases c with
      | true => rw [if_pos rfl] at q ⊢; exact q
      | false =>
        rw [if_neg Bool.false_ne_true] at q ⊢
        obtain ⟨d, e, q⟩ := q
        cases e; exact q
    rcases c2 with ⟨rfl, c2⟩ | c2
    · exact PW.imp (pw_and (ha.pt X W b' x g c1) (pw_and1 (hb.pt X W b' y g c2))) im
    · exact PW.imp (pw_and (ha.pt X W b' x g c1) (hb.pw X W b' _ _ _ g c2)) im
  refine ⟨pe, fun X W b' e g c => ?_, pw⟩
  obtain ⟨x, y, r, pos, rfl, c1, c2⟩ := sh c
  exact (pw X W b' _ _ _ g c).pt
theorem ok_or {a b : E} (ha : Ok G a) (hb : Ok G b) : Ok G (.or a b) := by
  have sh : ∀ {N sc b'} {e : Expr}, chkE N sc b' (.or a b) e = true → ∃ x y r pos, e = .BoolOp .Or (x :: y :: r) pos ∧ chkE N sc b' a x = true ∧ ((r = [] ∧ chkE N sc b' b y = true) ∨ chkE N sc b' b (.BoolOp .Or (y :: r) pos) = true) := by
    intro N sc b' e c
    unfold chkE at c
    split at c
    · rename_i x y r pos
      rw [Bool.and_eq_true] at c
      refine ⟨x, y, r, pos, rfl, c.1, ?_⟩
      have c2 := c.2
      split at c2
      · rename_i hr
        exact .inl ⟨by simpa using hr, c2⟩
      · exact .inr c2
    · cases c
  have rd : ∀ {K : W.Frag} {W : WX} σ H Q, TE' K G W (.or a b) σ H Q → tOrV (TE' K G W a) (TE' K G W b) σ H Q := by
    rintro K W σ H Q ⟨B, F, Γ, tmp, rel, P⟩
    refine ⟨B, F, Γ, tmp, rel, (P.bind (rep := rT K) (fp := [])).imp ?_⟩
    rintro x H1 ⟨ta, Γ1, F1, fa, rel1, ra, sH1, sF1, P1⟩
    split at P1
    · obtain ⟨rfl, rfl⟩ := bl_inv ra
      exact ⟨false, rfl, by rw [if_neg Bool.false_ne_true]; exact ⟨B, F1, Γ1, _, rel1, P1⟩⟩
    · obtain ⟨rfl, rfl⟩ := bl_inv ra
      exact ⟨true, rfl, by rw [if_pos rfl]; exact P1.flatv rel1 (fun c => by simp only [List.count_append]; omega) (.bl _)⟩
    · exact P1.elim
  have pe : ∀ X W b' e, Gd X G W b' → chkE X.N X.env.scope b' (.or a b) e = true → PE X e (TE' X.K G W (.or a b)) := by
    intro X W b' e g c
    obtain ⟨x, y, r, pos, rfl, c1, c2⟩ := sh c
    rcases c2 with ⟨rfl, c2⟩ | c2
    · exact PE.imp (pe_or (ha.pe X W b' x g c1) (pe_one (hb.pe X W b' y g c2))) rd
    · exact PE.imp (pe_or (ha.pe X W b' x g c1) (hb.pe X W b' _ g c2)) rd
  have pw : ∀ X W b' op vs pos, Gd X G W b' → chkE X.N X.env.scope b' (.or a b) (.BoolOp op vs pos) = true → PW X (.BoolOp op vs pos) (tB (TE' X.K G W (.or a b))) := by
    intro X W b' op vs pos g c
    obtain ⟨x, y, r, pos, e, c1, c2⟩ := sh c
    cases e
    have im : ∀ σ H Q, tB (TE' X.K G W (.or a b)) σ H Q → tOr (tB (TE' X.K G W a)) (tB (TE' X.K G W b)) σ H Q := by
      intro σ H Q h
      obtain ⟨B, F, Γ, tmp, rel, P⟩ := rd σ H _ h
      refine ⟨B, F, Γ, tmp, rel, P.imp ?_⟩
      rintro v H' ⟨c, rfl, q⟩
      refine ⟨c, rfl, ?_⟩
      cases c with
      | false => rw [if_neg Bool.false_ne_true] at q ⊢; exact q
      | true =>
        rw [if_pos rfl] at q ⊢
        obtain ⟨d, e, q⟩ := q
        cases e; exact q
    rcases c2 with ⟨rfl, c2⟩ | c2
    · exact PW.imp (pw_or (ha.pt X W b' x g c1) (pw_or1 (hb.pt X W b' y g c2))) im
    · exact PW.imp (pw_or (ha.pt X W b' x g c1) (hb.pw X W b' _ _ _ g c2)) im
  refine ⟨pe, fun X W b' e g c => ?_, pw⟩
  obtain ⟨x, y, r, pos, rfl, c1, c2⟩ := sh c
  exact (pw X W b' _ _ _ g c).pt
end
end Tv

namespace Tv
open PySem PySem.Spec PyProof.Rows L2

/-! ### arguments -/
theorem star_of {e : Expr} {es : List Expr} {env : PySem.Env} (h : notStar e = true) : starEach (e :: es) env = (false, eval e env) :: starEach es env := by
  cases e with
  | Starred a p => cases h
  | _ => rfl
theorem plain_of {N sc b} {env : PySem.Env} {pos : Pos} : ∀ {m : Es} {es : List Expr}, chkEs N sc b m es = true → (backTo pos (starEach es env)).any (·.1) = false
  | .nil, [], _ => rfl
  | .nil, _ :: _, h => by simp [chkEs] at h
  | .cons _ _, [], h => by simp [chkEs] at h
  | .cons m ms, e :: es, h => by
    simp only [chkEs, Bool.and_eq_true] at h
    rw [star_of h.1.2]
    show ((false, _) :: backTo pos (starEach es env)).any (·.1) = false
    rw [List.any_cons, plain_of h.2]; rfl
section
variable {G : Glob}
theorem ok_nil : OkEs G .nil := by
  intro X W b es g c
  cases es with
  | nil =>
    refine PA.imp pa_nil fun σ H Q h => ?_
    obtain ⟨B, F, Γ, tmp, rel, P⟩ := h
    exact P [] F H [] (by simpa using rel) .nil Sub.rfl Sub.rfl
  | cons e es => simp [chkEs] at c
theorem ok_cons {m : E} {ms : Es} (h1 : Ok G m) (h2 : OkEs G ms) : OkEs G (.cons m ms) := by
  intro X W b es g c
  cases es with
  | nil => simp [chkEs] at c
  | cons e es =>
    simp only [chkEs, Bool.and_eq_true] at c
    refine PA.imp (pa_cons (h1.pe X W b e g c.1.1) (h2 X W b es g c.2) (star_of c.1.2)) fun σ H Q h => ?_
    obtain ⟨B, F, Γ, tmp, rel, P⟩ := h
    refine ⟨B, F, Γ, tmp, rel, (Post.bind (rep := rT X.K) (fp := []) P).imp ?_⟩
    rintro x H1 ⟨t, Γ1, F1, fa, rel1, ra, sH1, sF1, P1⟩
    refine ⟨B, F1, Γ1, fa ++ tmp, rel1, (Post.bind (rep := rTs X.K) (fp := fa) P1).imp ?_⟩
    rintro xs H2 ⟨ts, Γ2, F2, fb, rel2, rb, sH2, sF2, P2⟩
    refine P2 (x :: xs) F2 H2 (fa ++ fb) (rel2.less fun a => by simp only [List.count_append]; omega) (.cons (ra.grow sF2 sH2) rb) Sub.rfl Sub.rfl
/-- arguments, then what is made of them -/
theorem args {K : W.Frag} {W : WX} {m : Es} {f : List T → Env → R T} {r : List V → Hp → VK → Prop}
    (h : ∀ B F H σ Γ tmp fp xs ts Q, Rel K B F H σ Γ (fp ++ tmp) → RpTs K F H xs ts fp → Post K G W B F H σ tmp (rT K) (f ts Γ) Q → r xs H Q) :
    ∀ σ H Q, TM K G W (rT K) (fun Γ => (evEs G.cl G.con m Γ).bind fun ts Γ1 => f ts Γ1) σ H Q → TA' K G W m σ H fun vs H1 => r vs H1 Q := by
  rintro σ H Q ⟨B, F, Γ, tmp, rel, P⟩
  refine ⟨B, F, Γ, tmp, rel, (Post.bind (rep := rTs K) (fp := []) P).imp ?_⟩
  rintro x H1 ⟨ta, Γ1, F1, fa, rel1, ra, sH1, sF1, P1⟩
  exact h B F1 H1 σ Γ1 tmp fa x ta Q rel1 ra P1

/-! ### displays -/
theorem ok_lst {m : Es} (hm : OkEs G m) : Ok G (.lst m) := by
  have sh : ∀ {N sc b'} {e : Expr}, chkE N sc b' (.lst m) e = true → ∃ xs pos, e = .List xs pos ∧ chkEs N sc b' m xs = true := by
    intro N sc b' e c
    unfold chkE at c
    split at c
    · exact ⟨_, _, rfl, c⟩
    · cases c
  have pe : ∀ X W b' e, Gd X G W b' → chkE X.N X.env.scope b' (.lst m) e = true → PE X e (TE' X.K G W (.lst m)) := by
    intro X W b' e g c
    obtain ⟨xs, pos, rfl, c1⟩ := sh c
    refine PE.imp (pe_lst (hm X W b' xs g c1)) fun σ H Q h => ?_
    refine args (r := fun xs H Q => xs.length ≤ sizeLine ∧ ∀ p, H p = none → Q (.ref p) (upd H p (.lst xs))) (fun B F H σ Γ tmp fp xs ts Q rel ra P => ?_) σ H Q h
    split at P
    · rename_i hc
      rw [Bool.and_eq_true, decide_eq_true_eq] at hc
      exact ⟨by rw [ra.length, sizeLine_eq]; exact hc.2, P.newL rel ra fun c => by simp only [List.count_append]; omega⟩
    · exact P.elim
  refine ⟨pe, fun X W b' e g c => ?_, pw_no fun N sc b op vs pos => rfl⟩
  obtain ⟨xs, pos, rfl, c1⟩ := sh c
  exact tB_of (pe X W b' _ g c) fun _ => rfl
theorem ok_tup {m : Es} (hm : OkEs G m) : Ok G (.tup m) := by
  have sh : ∀ {N sc b'} {e : Expr}, chkE N sc b' (.tup m) e = true → ∃ xs k pos, e = .Tuple xs k pos ∧ chkEs N sc b' m xs = true := by
    intro N sc b' e c
    unfold chkE at c
    split at c
    · exact ⟨_, _, _, rfl, c⟩
    · cases c
  have pe : ∀ X W b' e, Gd X G W b' → chkE X.N X.env.scope b' (.tup m) e = true → PE X e (TE' X.K G W (.tup m)) := by
    intro X W b' e g c
    obtain ⟨xs, k, pos, rfl, c1⟩ := sh c
    refine PE.imp (pe_tup (hm X W b' xs g c1)) fun σ H Q h => ?_
    refine args (r := fun xs H Q => xs.length ≤ sizeLine ∧ ∀ p, H p = none → Q (.ref p) (upd H p (.tup xs))) (fun B F H σ Γ tmp fp xs ts Q rel ra P => ?_) σ H Q h
    split at P
    · rename_i hc
      rw [Bool.and_eq_true, decide_eq_true_eq] at hc
      exact ⟨by rw [ra.length, sizeLine_eq]; exact hc.2, P.newT rel ra fun c => by simp only [List.count_append]; omega⟩
    · exact P.elim
  refine ⟨pe, fun X W b' e g c => ?_, pw_no fun N sc b op vs pos => rfl⟩
  obtain ⟨xs, k, pos, rfl, c1⟩ := sh c
  exact tB_of (pe X W b' _ g c) fun _ => rfl

/-! ### calls of own defs -/
theorem ok_call {f : String} {m : Es} (hm : OkEs G m) : Ok G (.call f m) := by
  have sh : ∀ {N sc b'} {e : Expr}, chkE N sc b' (.call f m) e = true → ∃ p y ys pos, e = .Call (.Name (Str.ofString f) p) (y :: ys) [] pos ∧ f ∈ b'.fns ∧ glB sc (Str.ofString f) = true ∧ (Str.ofString f == ("__debug__" : Str)) = false ∧ chkEs N sc b' m (y :: ys) = true := by
    intro N sc b' e c
    unfold chkE at c
    split at c
    · simp only [Bool.and_eq_true, decide_eq_true_eq, Bool.not_eq_true', List.contains_iff_mem] at c
      obtain ⟨⟨⟨⟨c1, c2⟩, c3⟩, c4⟩, c5⟩ := c
      subst c1
      exact ⟨_, _, _, _, rfl, c2, c3, c4, c5⟩
    · cases c
  have pe : ∀ X W b' e, Gd X G W b' → chkE X.N X.env.scope b' (.call f m) e = true → PE X e (TE' X.K G W (.call f m)) := by
    intro X W b' e g c
    obtain ⟨p, y, ys, pos, rfl, c1, c2, c3, c4⟩ := sh c
    obtain ⟨a, fd, ps, k, f1, f2, f3, f4, f5⟩ := g.fn f c1
    have c4' := c4
    have c4'' : ∃ m1 ms, m = .cons m1 ms ∧ chkEs X.N X.env.scope b' ms ys = true ∧ notStar y = true := by
      cases m with
      | nil => simp [chkEs] at c4
      | cons m1 ms => simp only [chkEs, Bool.and_eq_true] at c4; exact ⟨m1, ms, rfl, c4.2, c4.1.2⟩
    obtain ⟨m1, ms, e1, e2, e3⟩ := c4''
    have hg : Gl X (Str.ofString f) := (of_decide_eq_true c2 : X.env.scope.names.lookup (Str.ofString f) = some .globalImplicit)
    refine PE.imp (pe_callS (E := WE W) f4 f5 hg f1 f2 f3 (fun σ => passAt g.tk σ) (hm X W b' (y :: ys) g c4') c3 (star_of e3) (plain_of e2)) fun σ H Q h => ?_
    obtain ⟨B, F, Γ, tmp, rel, P⟩ := h
    refine ⟨B, F, Γ, tmp, rel, (Post.bind (rep := rTs X.K) (fp := []) P).imp ?_⟩
    rintro xs H1 ⟨ts, Γ1, F1, fa, rel1, ra, sH1, sF1, P1⟩
    show spE X.K G f xs H1 Q (WE W σ)
    cases e : fzs ts with
    | none => simp only [e] at P1; exact P1.elim
    | some ds =>
      simp only [e] at P1
      have rd := fzs_ok e rel1.sub ra
      have rel2 := rel1.freezeTmp (f1 := fa) (g := tmp) fun c => by simp only [List.count_append]; omega
      refine ⟨_, ds, rel2.sub, rd, ?_⟩
      cases ec : G.cl f ds with
      | bad => simp only [ec] at P1; exact P1.elim
      | ret t =>
        simp only [ec] at P1 ⊢
        intro v F' H' fp sH sF sb hn rt nb hc hf
        exact P1 v F' H' fp (rel2.called sH sF sb hn hc hf) rt sH ((addF_sub rel1.sub).trans sF)
      | ex x =>
        simp only [ec] at P1 ⊢
        intro c d F' H' sH sF sb hn hx
        exact P1 c d F' H' (by simpa using rel2.called (f1 := []) sH sF sb hn (fun a => by simp) (fun a m => by simp at m)) sH ((addF_sub rel1.sub).trans sF) hx
  refine ⟨pe, fun X W b' e g c => ?_, pw_no fun N sc b op vs pos => rfl⟩
  obtain ⟨p, y, ys, pos, rfl, c1, c2, c3, c4⟩ := sh c
  exact tB_of (pe X W b' _ g c) fun _ => rfl
theorem ok_callB {f : String} {m : Es} (hm : OkEs G m) : Ok G (.callB f m) := by
  have sh : ∀ {N sc b'} {e : Expr}, chkE N sc b' (.callB f m) e = true → ∃ p y ys pos, e = .Call (.Name (Str.ofString f) p) (y :: ys) [] pos ∧ f ∈ b'.fns ∧ glB sc (Str.ofString f) = true ∧ (Str.ofString f == ("__debug__" : Str)) = false ∧ chkEs N sc b' m (y :: ys) = true := by
    intro N sc b' e c
    unfold chkE at c
    split at c
    · simp only [Bool.and_eq_true, decide_eq_true_eq, Bool.not_eq_true', List.contains_iff_mem] at c
      obtain ⟨⟨⟨⟨c1, c2⟩, c3⟩, c4⟩, c5⟩ := c
      subst c1
      exact ⟨_, _, _, _, rfl, c2, c3, c4, c5⟩
    · cases c
  have pe : ∀ X W b' e, Gd X G W b' → chkE X.N X.env.scope b' (.callB f m) e = true → PE X e (TE' X.K G W (.callB f m)) := by
    intro X W b' e g c
    obtain ⟨p, y, ys, pos, rfl, c1, c2, c3, c4⟩ := sh c
    obtain ⟨a, fd, ps, k, f1, f2, f3, f4, f5⟩ := g.fn f c1
    have c4' := c4
    have c4'' : ∃ m1 ms, m = .cons m1 ms ∧ chkEs X.N X.env.scope b' ms ys = true ∧ notStar y = true := by
      cases m with
      | nil => simp [chkEs] at c4
      | cons m1 ms => simp only [chkEs, Bool.and_eq_true] at c4; exact ⟨m1, ms, rfl, c4.2, c4.1.2⟩
    obtain ⟨m1, ms, e1, e2, e3⟩ := c4''
    have hg : Gl X (Str.ofString f) := (of_decide_eq_true c2 : X.env.scope.names.lookup (Str.ofString f) = some .globalImplicit)
    refine PE.imp (pe_callS (E := WE W) f4 f5 hg f1 f2 f3 (fun σ => passAt g.tk σ) (hm X W b' (y :: ys) g c4') c3 (star_of e3) (plain_of e2)) fun σ H Q h => ?_
    obtain ⟨B, F, Γ, tmp, rel, P⟩ := h
    refine ⟨B, F, Γ, tmp, rel, (Post.bind (rep := rTs X.K) (fp := []) P).imp ?_⟩
    rintro xs H1 ⟨ts, Γ1, F1, fa, rel1, ra, sH1, sF1, P1⟩
    show spE X.K G f xs H1 Q (WE W σ)
    have rd := ra.read rel1.sub
    refine ⟨H1, T.ers ts, Sub.rfl, rd, ?_⟩
    cases ec : G.cl f (T.ers ts) with
    | bad => simp only [ec] at P1; exact P1.elim
    | ex x => simp only [ec] at P1; exact P1.elim
    | ret t =>
      simp only [ec] at P1 ⊢
      intro v F' H' fp sH sF sb hn rt nb hc hf
      cases t with
      | v d =>
        simp only at P1
        split at P1
        · rename_i hd
          cases rt with
          | v rd' =>
            have q := rel1.called (f1 := []) (F' := F1) (H' := H') sH Sub.rfl (fun a o e => sH a o (rel1.sub a o e)) (fun a _ => rfl) (fun a => by simp) (fun a m => by simp at m)
            exact P1 v F1 H' [] (q.less fun c => by simp only [List.nil_append, List.count_append]; omega) (.v (RpD.flat hd rd')) sH Sub.rfl
        · exact P1.elim
      | _ => exact P1.elim
  refine ⟨pe, fun X W b' e g c => ?_, pw_no fun N sc b op vs pos => rfl⟩
  obtain ⟨p, y, ys, pos, rfl, c1, c2, c3, c4⟩ := sh c
  exact tB_of (pe X W b' _ g c) fun _ => rfl
end
end Tv

namespace Tv
open PySem PySem.Spec PyProof.Rows L2

/-! ### built-ins by name -/
theorem CallR.or {X : Cx} {f : Value} {r r' : List V → Hp → VK → Prop} (a : CallR X f r) (b : CallR X f r') : CallR X f (fun xs H Q => r xs H Q ∨ r' xs H Q) := by
  intro pins s σ H xs us Q I rx h
  rcases h with h | h
  · exact a pins s σ H xs us Q I rx h
  · exact b pins s σ H xs us Q I rx h
def BF.val (f : BF) : Value := if f.ty then .type f.nm else .builtin f.nm
def rF (K : W.Frag) : BF → List V → Hp → VK → Prop
  | .len => fun xs H Q => ∃ x n, xs = [x] ∧ LenV K x H n ∧ Q (.int n) H
  | .max => fun xs H Q => (∃ i j, xs = [V.int i, V.int j] ∧ Q (.int (if j > i then j else i)) H) ∨ rMax K xs H Q
  | .min => fun xs H Q => (∃ i j, xs = [V.int i, V.int j] ∧ Q (.int (if j < i then j else i)) H) ∨ rMin K xs H Q
  | .sum => fun xs H Q => rSum K xs H Q ∨ rSumL K xs H Q
  | .sorted => fun xs H Q => rSortedI K xs H Q ∨ rSortedPO K xs H Q
  | .all => rAll K
  | .list => fun xs H Q => ∃ p ys, xs = [V.ref p] ∧ (SqL K H p ys ∨ SqT K H p ys) ∧ ∀ l, H l = none → Q (.ref l) (upd H l (.lst ys))
  | .tuple => fun xs H Q => ∃ p ys, xs = [V.ref p] ∧ ((SqL K H p ys ∧ ∀ l, H l = none → Q (.ref l) (upd H l (.tup ys))) ∨ (SqT K H p ys ∧ Q (.ref p) H))
  | .str => fun xs H Q => ∃ i, xs = [V.int i] ∧ i.natAbs.log2 < 1920 ∧ Q (.str (toString i)) H
  | .int => fun xs H Q => (∃ i, xs = [V.int i] ∧ Q (.int i) H) ∨ ∃ k, xs = [V.bl k] ∧ Q (.int (if k then 1 else 0)) H
  | .abs => fun xs H Q => ∃ i, xs = [V.int i] ∧ Q (.int (if i < 0 then -i else i)) H
theorem cr_F {X : Cx} (hc : X.calm = true) (f : BF) : CallR X f.val (rF X.K f) := by
  cases f with
  | len => exact call_len
  | max => exact CallR.or (call_max2 hc) (cr_max hc)
  | min => exact CallR.or (call_min2 hc) (cr_min hc)
  | sum => exact CallR.or (cr_sum hc) (cr_sumL hc)
  | sorted => exact CallR.or cr_sortedI cr_sortedPO
  | all => exact cr_all hc
  | list => exact call_list_of
  | tuple => exact call_tuple_of
  | str => exact call_str_int
  | int => exact call_int1
  | abs => exact call_abs
theorem boot_F (f : BF) : bootBuiltins (Str.ofString f.nm) = some f.val ∧ Str.ofString f.nm ≠ "__name__" ∧ (Str.ofString f.nm == ("__debug__" : Str)) = false ∧ f.nm ∈ bltNames := by
  cases f <;> exact ⟨by decide +kernel, by decide +kernel, by decide +kernel, by decide⟩
section
variable {K : W.Frag} {F H : Hp} {x : V} {xs : List V} {t : T} {ts : List T} {f : List Addr}
theorem boolsT_ok : ∀ {xs : List V} {ts : List T} {f : List Addr} {ns : List Bool}, boolsT ts = some ns → RpTs K F H xs ts f → xs = ns.map V.bl
  | _, [], _, ns, e, .nil => by cases e; rfl
  | _, t :: ts, _, ns, e, .cons a b => by
    unfold boolsT at e
    split at e
    · rename_i e0; cases e0
    · rename_i i ts' e0
      cases e0
      cases h : boolsT ts with
      | none => rw [h] at e; cases e
      | some r =>
        rw [h] at e
        cases e
        obtain ⟨rfl, _⟩ := bl_inv a
        rw [boolsT_ok h b]; rfl
    · cases e
theorem strsT_ok : ∀ {xs : List V} {ts : List T} {f : List Addr} {ns : List (List Nat)}, strsT ts = some ns → RpTs K F H xs ts f → ∃ zs : List Str, xs = zs.map V.str ∧ zs.map (fun z => z.cps.toList) = ns ∧ ∀ s ∈ ns, okS s = true
  | _, [], _, ns, e, .nil => by cases e; exact ⟨[], rfl, rfl, fun _ h => by cases h⟩
  | _, t :: ts, _, ns, e, .cons a b => by
    unfold strsT at e
    split at e
    · rename_i e0; cases e0
    · rename_i i ts' e0
      cases e0
      cases h : strsT ts with
      | none => rw [h] at e; cases e
      | some r =>
        rw [h] at e
        cases e
        obtain ⟨z, rfl, h1, h2, _⟩ := str_inv a
        obtain ⟨zs, h3, h4, h5⟩ := strsT_ok h b
        refine ⟨z :: zs, by rw [h3]; rfl, by rw [List.map_cons, h4, h1], fun s hs => ?_⟩
        rcases List.mem_cons.mp hs with rfl | hs
        · exact h2
        · exact h5 s hs
    · cases e
end
theorem maxL_spec : ∀ (xs : List Int) (a : Int), (maxL a xs = a ∨ maxL a xs ∈ xs) ∧ a ≤ maxL a xs ∧ ∀ y ∈ xs, y ≤ maxL a xs
  | [], a => ⟨.inl rfl, Int.le_refl _, fun _ h => by cases h⟩
  | x :: xs, a => by
    have e : maxL a (x :: xs) = maxL (if x > a then x else a) xs := rfl
    rw [e]
    obtain ⟨h1, h2, h3⟩ := maxL_spec xs (if x > a then x else a)
    refine ⟨?_, ?_, fun y hy => ?_⟩
    · rcases h1 with h1 | h1
      · rw [h1]; split
        · exact .inr (by simp)
        · exact .inl rfl
      · exact .inr (List.mem_cons_of_mem _ h1)
    · split at h2 <;> split <;> omega
    · rcases List.mem_cons.mp hy with rfl | hy
      · split at h2 <;> split <;> omega
      · exact h3 y hy
theorem maxL_is {a : Int} {xs : List Int} {m : Int} (h : m ∈ a :: xs) (k : ∀ y ∈ a :: xs, y ≤ m) : m = maxL a xs := by
  obtain ⟨h1, h2, h3⟩ := maxL_spec xs a
  have l1 : m ≤ maxL a xs := by
    rcases List.mem_cons.mp h with e | h
    · omega
    · exact h3 m h
  have l2 : maxL a xs ≤ m := by
    rcases h1 with e | e
    · rw [e]; exact k a (by simp)
    · exact k _ (List.mem_cons_of_mem _ e)
  omega
theorem minL_spec : ∀ (xs : List Int) (a : Int), (minL a xs = a ∨ minL a xs ∈ xs) ∧ minL a xs ≤ a ∧ ∀ y ∈ xs, minL a xs ≤ y
  | [], a => ⟨.inl rfl, Int.le_refl _, fun _ h => by cases h⟩
  | x :: xs, a => by
    have e : minL a (x :: xs) = minL (if x < a then x else a) xs := rfl
    rw [e]
    obtain ⟨h1, h2, h3⟩ := minL_spec xs (if x < a then x else a)
    refine ⟨?_, ?_, fun y hy => ?_⟩
    · rcases h1 with h1 | h1
      · rw [h1]; split
        · exact .inr (by simp)
        · exact .inl rfl
      · exact .inr (List.mem_cons_of_mem _ h1)
    · split at h2 <;> split <;> omega
    · rcases List.mem_cons.mp hy with rfl | hy
      · split at h2 <;> split <;> omega
      · exact h3 y hy
theorem minL_is {a : Int} {xs : List Int} {m : Int} (h : m ∈ a :: xs) (k : ∀ y ∈ a :: xs, m ≤ y) : m = minL a xs := by
  obtain ⟨h1, h2, h3⟩ := minL_spec xs a
  have l1 : minL a xs ≤ m := by
    rcases List.mem_cons.mp h with e | h
    · omega
    · exact h3 m h
  have l2 : m ≤ minL a xs := by
    rcases h1 with e | e
    · rw [e]; exact k a (by simp)
    · exact k _ (List.mem_cons_of_mem _ e)
  omega
theorem rpTs_one {K : W.Frag} {F H : Hp} {xs : List V} {t : T} {f : List Addr} (r : RpTs K F H xs [t] f) : ∃ x, xs = [x] ∧ RpT K F H x t f := by
  cases r with | cons a b => cases b with | nil => exact ⟨_, rfl, by simpa using a⟩
theorem rpTs_two {K : W.Frag} {F H : Hp} {xs : List V} {t u : T} {f : List Addr} (r : RpTs K F H xs [t, u] f) : ∃ x y g h, xs = [x, y] ∧ RpT K F H x t g ∧ RpT K F H y u h ∧ f = g ++ h := by
  cases r with | cons a b => cases b with | cons c d => cases d with | nil => exact ⟨_, _, _, _, rfl, a, c, by simp⟩
theorem okS_show (i : Int) (h : i.natAbs.log2 < 1920) : okS (showI i) = true := by
  unfold okS showI
  simp only [Bool.and_eq_true, decide_eq_true_eq, List.all_eq_true]
  refine ⟨?_, fun c hc => ?_⟩
  · have := int_text_fits h
    rw [strLen] at this
    exact this
  · have e : (Str.ofString (toString i)).cps.toList = (toString i).toList.map Char.toNat := TL.tl_ofString _
    rw [e] at hc
    obtain ⟨ch, _, rfl⟩ := List.mem_map.mp hc
    have := ch.valid
    simp only [UInt32.isValidChar, Nat.isValidChar] at this
    show ch.val.toNat < 1114112
    omega
theorem ints_rp {K : W.Frag} {F H : Hp} : ∀ ns : List Int, RpTs K F H (ns.map V.int) (ns.map fun i => T.v (.int i)) []
  | [] => .nil
  | n :: ns => .cons (f := []) (g := []) (.v (.int n)) (ints_rp ns)
theorem rowsT_ok {K : W.Frag} {F H : Hp} : ∀ {cs : List V} {us : List T} {f : List Addr} {rs : List (List T)}, rowsT us = some rs → Sub F H → RpTs K F H cs us f →
    ∃ (yss : List (List V)) (g : List Addr), (∀ (i : Nat) (c : V), cs[i]? = some c → ∃ d ys, c = V.ref d ∧ yss[i]? = some ys ∧ H d = some (.lst ys)) ∧ yss.length = cs.length ∧ RpTs K F H yss.flatten rs.flatten g ∧ ∀ c, g.count c ≤ f.count c
  | _, [], _, rs, e, _, .nil => by
    cases e
    exact ⟨[], [], fun i c h => by simp at h, rfl, .nil, fun c => Nat.le_refl _⟩
  | _, t :: ts, _, rs, e, hF, .cons a b => by
    unfold rowsT at e
    split at e
    · rename_i r rs' e1 e2
      cases e
      obtain ⟨p, xs, g, rfl, hp, r1, c1⟩ := asL_ok e1 hF a
      obtain ⟨yss, g', k1, k2, k3, k4⟩ := rowsT_ok e2 hF b
      refine ⟨xs :: yss, g ++ g', fun i c h => ?_, by simp [k2], by rw [List.flatten_cons, List.flatten_cons]; exact r1.append k3, fun c => ?_⟩
      · cases i with
        | zero => simp at h; subst h; exact ⟨p, xs, rfl, rfl, hp⟩
        | succ i =>
          obtain ⟨d, ys, h1, h2, h3⟩ := k1 i c (by simpa using h)
          exact ⟨d, ys, h1, by simpa using h2, h3⟩
      · have := c1 c
        have := k4 c
        simp only [List.count_append]
        omega
    · cases e
theorem bltT_ok {K : W.Frag} {G : Glob} {W : WX} {B : Base} {F H : Hp} {σ : L2.St} {Γ : Env} {tmp fp : List Addr} {f : BF} {xs : List V} {ts : List T} {Q : VK} (rel : Rel K B F H σ Γ (fp ++ tmp)) (ra : RpTs K F H xs ts fp)
    (P : Post K G W B F H σ tmp (rT K) (R.op (bltT f ts) Γ) Q) : rF K f xs H Q := by
  have hc : ∀ c, tmp.count c ≤ (fp ++ tmp).count c := fun c => by simp only [List.count_append]; omega
  unfold bltT at P
  split at P
  · -- len
    rename_i t
    obtain ⟨x, rfl, r⟩ := rpTs_one ra
    cases e : sizeT t with
    | none => rw [e] at P; exact P.elim
    | some n =>
      rw [e] at P
      refine ⟨x, n, rfl, ?_, Post.flatv (Γ := Γ) P rel hc (.int _)⟩
      unfold sizeT at e
      split at e
      · cases e
        obtain ⟨z, rfl, h1, h2, _⟩ := str_inv r
        exact ⟨by rw [strLen, h1, sizeLine_eq]; exact okS_le h2, by rw [strLen, h1]⟩
      · cases e2 : asQ t with
        | none => rw [e2] at e; cases e
        | some us =>
          rw [e2] at e
          cases e
          obtain ⟨p, ys, g, rfl, hq, r1, _⟩ := asQ_ok e2 rel.sub r
          rcases hq with hq | hq
          · exact .inl ⟨_, hq, r1.length.symm⟩
          · exact .inr ⟨_, hq, r1.length.symm⟩
  · obtain ⟨x, y, g, h, rfl, r1, r2, rfl⟩ := rpTs_two ra
    obtain ⟨rfl, _⟩ := int_inv r1
    obtain ⟨rfl, _⟩ := int_inv r2
    exact .inl ⟨_, _, rfl, Post.flatv (Γ := Γ) P rel hc (.int _)⟩
  · obtain ⟨x, y, g, h, rfl, r1, r2, rfl⟩ := rpTs_two ra
    obtain ⟨rfl, _⟩ := int_inv r1
    obtain ⟨rfl, _⟩ := int_inv r2
    exact .inl ⟨_, _, rfl, Post.flatv (Γ := Γ) P rel hc (.int _)⟩
  · -- max of a list
    rename_i t
    obtain ⟨x, rfl, r⟩ := rpTs_one ra
    split at P
    · rename_i a r' e
      cases e1 : lOnly t with
      | none => rw [e1] at e; cases e
      | some us =>
        rw [e1] at e
        obtain ⟨p, ys, g, rfl, hq, r1, _⟩ := lOnly_ok e1 rel.sub r
        have := intsT_ok e r1
        subst this
        refine .inr ⟨p, a :: r', rfl, hq, by simp, fun m hm hk => ?_⟩
        rw [maxL_is hm hk]
        exact Post.flatv (Γ := Γ) P rel hc (.int _)
    · exact P.elim
  · rename_i t
    obtain ⟨x, rfl, r⟩ := rpTs_one ra
    split at P
    · rename_i a r' e
      cases e1 : lOnly t with
      | none => rw [e1] at e; cases e
      | some us =>
        rw [e1] at e
        obtain ⟨p, ys, g, rfl, hq, r1, _⟩ := lOnly_ok e1 rel.sub r
        have := intsT_ok e r1
        subst this
        refine .inr ⟨p, a :: r', rfl, hq, by simp, fun m hm hk => ?_⟩
        rw [minL_is hm hk]
        exact Post.flatv (Γ := Γ) P rel hc (.int _)
    · exact P.elim
  · -- sum
    rename_i t
    obtain ⟨x, rfl, r⟩ := rpTs_one ra
    cases e1 : lOnly t with
    | none => simp only [e1, Option.bind_none, Option.map_none] at P; exact P.elim
    | some us =>
      cases e2 : intsT us with
      | none => simp only [e1, Option.bind_some, e2, Option.map_none] at P; exact P.elim
      | some ns =>
        simp only [e1, Option.bind_some, e2, Option.map_some] at P
        obtain ⟨p, ys, g, rfl, hq, r1, _⟩ := lOnly_ok e1 rel.sub r
        have := intsT_ok e2 r1
        subst this
        exact .inl ⟨p, ns, rfl, hq, Post.flatv (Γ := Γ) P rel hc (.int _)⟩
  · -- sum of rows
    rename_i t
    obtain ⟨x, y, g, h, rfl, r1, r2, rfl⟩ := rpTs_two ra
    cases e1 : lOnly t with
    | none => simp only [e1, Option.bind_none] at P; exact P.elim
    | some us =>
      cases e2 : rowsT us with
      | none => simp only [e1, Option.bind_some, e2] at P; exact P.elim
      | some rs =>
        simp only [e1, Option.bind_some, e2] at P
        split at P
        · rename_i hz
          obtain ⟨p, cs, g', rfl, hq, r1', c1⟩ := lOnly_ok e1 rel.sub r1
          obtain ⟨yss, g'', k1, k2, k3, k4⟩ := rowsT_ok e2 rel.sub r1'
          cases r2 with
          | l hb r0 =>
            cases r0
            refine .inr ⟨p, _, cs, yss, rfl, hq, hb, k1, k2, by rw [k3.length]; exact Nat.le_trans hz (by rw [sizeLine_eq]; exact Nat.le_refl _), fun e => ?_, Post.newL (Γ := Γ) P rel k3 fun c => ?_⟩
            · have hy : yss = [] := List.length_eq_zero_iff.mp (by rw [k2, e]; rfl)
              subst hy
              have hn : rs.flatten = [] := by
                have := k3.length
                exact List.length_eq_zero_iff.mp this.symm
              rw [hn] at P
              exact P (.ref _) F H [_] (rel.less fun c => by simp only [List.count_append]; omega) (.l hb .nil) Sub.rfl Sub.rfl
            · have := c1 c
              have := k4 c
              simp only [List.count_append]
              omega
        · exact P.elim
  · -- sorted
    rename_i t
    obtain ⟨x, rfl, r⟩ := rpTs_one ra
    cases e1 : lOnly t with
    | none => simp only [e1, Option.bind_none, Option.map_none] at P; exact P.elim
    | some us =>
      obtain ⟨p, ys, g, rfl, hq, r1, c1⟩ := lOnly_ok e1 rel.sub r
      cases e2 : intsT us with
      | some ns =>
        simp only [e1, Option.bind_some, e2] at P
        have := intsT_ok e2 r1
        subst this
        refine .inl ⟨p, ns, rfl, hq, fun ns' q hp hs hn => ?_⟩
        rw [sortI_is hp hs]
        exact Post.newL (Γ := Γ) P rel (fs := []) (xs := (sortI ns).map V.int) (ints_rp _) (fun c => by simpa using hc c) q hn
      | none =>
        cases e3 : pairsT us with
        | none => simp only [e1, Option.bind_some, e2, e3, Option.map_none] at P; exact P.elim
        | some ps =>
          simp only [e1, Option.bind_some, e2, e3, Option.map_some] at P
          have e4 := pairsT_is e3
          subst e4
          obtain ⟨k1, k2⟩ := pairs_all r1
          refine .inr ⟨p, ys, kH H, rfl, hq, k2, fun zs q hs hb hn => ?_⟩
          obtain ⟨qs, g', h1, h2, h3⟩ := pairs_perm hb.perm.symm r1
          obtain ⟨m1, _⟩ := pairs_all h1
          have hqs : qs = sortP ps := sortP_is h2 (by rw [← m1]; exact srtd_pairs hs)
          rw [hqs] at h1
          exact Post.newL (Γ := Γ) P rel h1 (fun c => by have := c1 c; have := h3 c; simp only [List.count_append]; omega) q hn
  · -- all
    rename_i t
    obtain ⟨x, rfl, r⟩ := rpTs_one ra
    cases e1 : lOnly t with
    | none => simp only [e1, Option.bind_none, Option.map_none] at P; exact P.elim
    | some us =>
      cases e2 : boolsT us with
      | none => simp only [e1, Option.bind_some, e2, Option.map_none] at P; exact P.elim
      | some ns =>
        simp only [e1, Option.bind_some, e2, Option.map_some] at P
        obtain ⟨p, ys, g, rfl, hq, r1, _⟩ := lOnly_ok e1 rel.sub r
        have := boolsT_ok e2 r1
        subst this
        exact ⟨p, ns, rfl, hq, Post.flatv (Γ := Γ) P rel hc (.bl _)⟩
  · -- list
    rename_i t
    obtain ⟨x, rfl, r⟩ := rpTs_one ra
    cases e1 : asQ t with
    | none => rw [e1] at P; exact P.elim
    | some us =>
      rw [e1] at P
      obtain ⟨p, ys, g, rfl, hq, r1, c1⟩ := asQ_ok e1 rel.sub r
      exact ⟨p, ys, rfl, hq, Post.newL (Γ := Γ) P rel r1 fun c => by have := c1 c; simp only [List.count_append]; omega⟩
  · -- tuple
    rename_i t0
    obtain ⟨x, rfl, r⟩ := rpTs_one ra
    split at P
    · cases r with
      | v rd =>
        cases rd with
        | tup h rs => exact ⟨_, _, rfl, .inr ⟨SqT.mono' rel.sub h, Post.flatv (Γ := Γ) P rel hc (.tup h rs)⟩⟩
    · cases r with
      | tp h rs => exact ⟨_, _, rfl, .inr ⟨.of h, P _ F H _ rel (.tp h rs) Sub.rfl Sub.rfl⟩⟩
    · cases e1 : lOnly t0 with
      | none => rw [e1] at P; exact P.elim
      | some us =>
        rw [e1] at P
        obtain ⟨p, ys, g, rfl, hq, r1, c1⟩ := lOnly_ok e1 rel.sub r
        exact ⟨p, ys, rfl, .inl ⟨hq, Post.newT (Γ := Γ) P rel r1 fun c => by have := c1 c; simp only [List.count_append]; omega⟩⟩
  · -- str
    obtain ⟨x, rfl, r⟩ := rpTs_one ra
    obtain ⟨rfl, _⟩ := int_inv r
    split at P
    · rename_i h
      exact ⟨_, rfl, h, Post.flatv (Γ := Γ) P rel hc (str_mk rfl (okS_show _ h))⟩
    · exact P.elim
  · obtain ⟨x, rfl, r⟩ := rpTs_one ra
    obtain ⟨rfl, _⟩ := int_inv r
    exact .inl ⟨_, rfl, Post.flatv (Γ := Γ) P rel hc (.int _)⟩
  · obtain ⟨x, rfl, r⟩ := rpTs_one ra
    obtain ⟨rfl, _⟩ := bl_inv r
    exact .inr ⟨_, rfl, Post.flatv (Γ := Γ) P rel hc (.int _)⟩
  · obtain ⟨x, rfl, r⟩ := rpTs_one ra
    obtain ⟨rfl, _⟩ := int_inv r
    exact ⟨_, rfl, Post.flatv (Γ := Γ) P rel hc (.int _)⟩
  · exact P.elim
section
variable {G : Glob}
theorem ok_blt {f : BF} {m : Es} (hm : OkEs G m) : Ok G (.blt f m) := by
  have sh : ∀ {N sc b'} {e : Expr}, chkE N sc b' (.blt f m) e = true → ∃ fn y ys pos, e = .Call fn (y :: ys) [] pos ∧ isGl sc f.nm fn = true ∧ chkEs N sc b' m (y :: ys) = true := by
    intro N sc b' e c
    unfold chkE at c
    split at c
    · rw [Bool.and_eq_true] at c
      exact ⟨_, _, _, _, rfl, c.1, c.2⟩
    · cases c
  have pe : ∀ X W b' e, Gd X G W b' → chkE X.N X.env.scope b' (.blt f m) e = true → PE X e (TE' X.K G W (.blt f m)) := by
    intro X W b' e g c
    obtain ⟨fn, y, ys, pos, rfl, c1, c2⟩ := sh c
    obtain ⟨p, rfl, hg⟩ := isGl_of c1
    have c4 : ∃ m1 ms, m = .cons m1 ms ∧ chkEs X.N X.env.scope b' ms ys = true ∧ notStar y = true := by
      cases m with
      | nil => simp [chkEs] at c2
      | cons m1 ms => simp only [chkEs, Bool.and_eq_true] at c2; exact ⟨m1, ms, rfl, c2.2, c2.1.2⟩
    obtain ⟨m1, ms, e1, e2, e3⟩ := c4
    obtain ⟨b1, b2, b3, b4⟩ := boot_F f
    have key : PE X (.Call (.Name (Str.ofString f.nm) p) (y :: ys) [] pos) (tCB (rF X.K f) (TA' X.K G W m)) := by
      have cr := cr_F g.calm f
      have ha := hm X W b' (y :: ys) g c2
      unfold BF.val at cr b1
      by_cases ht : f.ty = true
      · rw [if_pos ht] at cr b1
        exact pe_callTy cr hg (g.blt _ b4) b1 ha b2 b3 (star_of e3) (plain_of e2)
      · rw [if_neg ht] at cr b1
        exact pe_callB cr hg (g.blt _ b4) b1 ha b2 b3 (star_of e3) (plain_of e2)
    refine PE.imp key fun σ H Q h => ?_
    exact args (r := rF X.K f) (fun B F H σ Γ tmp fp xs ts Q rel ra P => bltT_ok rel ra P) σ H Q h
  refine ⟨pe, fun X W b' e g c => ?_, pw_no fun N sc b op vs pos => rfl⟩
  obtain ⟨fn, y, ys, pos, rfl, c1, c2⟩ := sh c
  exact tB_of (pe X W b' _ g c) fun _ => rfl
theorem rg_rp {K : W.Frag} {F H : Hp} (j : Int) : RpTs K F H (rgV 0 j) ((List.range j.toNat).map fun (i : Nat) => T.v (.int (i : Int))) [] := by
  have e : rgV 0 j = ((List.range j.toNat).map fun (i : Nat) => (i : Int)).map V.int := by
    unfold rgV
    rw [Int.sub_zero, List.map_map]
    exact List.map_congr_left fun i _ => by show V.int (0 + (i : Int)) = V.int (i : Int); rw [Int.zero_add]
  have e2 : ((List.range j.toNat).map fun (i : Nat) => T.v (.int (i : Int))) = ((List.range j.toNat).map fun (i : Nat) => (i : Int)).map fun i => T.v (.int i) := by rw [List.map_map]; rfl
  rw [e, e2]
  exact ints_rp _
theorem ok_lrn {a : E} (ha : Ok G a) : Ok G (.lrn a) := by
  have sh : ∀ {N sc b'} {e : Expr}, chkE N sc b' (.lrn a) e = true → ∃ fn gn y pos pos2, e = .Call fn [.Call gn [y] [] pos2] [] pos ∧ isGl sc "list" fn = true ∧ isGl sc "range" gn = true ∧ chkE N sc b' a y = true ∧ notStar y = true := by
    intro N sc b' e c
    unfold chkE at c
    split at c
    · simp only [Bool.and_eq_true] at c
      exact ⟨_, _, _, _, _, rfl, c.1.1.1, c.1.1.2, c.1.2, c.2⟩
    · cases c
  have pe : ∀ X W b' e, Gd X G W b' → chkE X.N X.env.scope b' (.lrn a) e = true → PE X e (TE' X.K G W (.lrn a)) := by
    intro X W b' e g c
    obtain ⟨fn, gn, y, pos, pos2, rfl, c1, c2, c3, c4⟩ := sh c
    obtain ⟨p, rfl, hg⟩ := isGl_of c1
    obtain ⟨p2, rfl, hg2⟩ := isGl_of c2
    refine PE.imp (pe_listRg g.calm hg (g.blt "list" (by decide)) (prg_1 hg2 (g.blt "range" (by decide)) (ha.pe X W b' y g c3) (star_of c4))) fun σ H Q h => ?_
    refine one (r := fun x H1 Q => ∃ n, x = V.int n ∧ RgOk 0 n ∧ ∀ q, H1 q = none → Q (.ref q) (upd H1 q (.lst (rgV 0 n)))) (fun B F H σ Γ tmp fa x ta Q rel ra P => ?_) σ H Q h
    split at P
    · obtain ⟨rfl, rfl⟩ := int_inv ra
      split at P
      · rename_i hs
        rw [Bool.and_eq_true, decide_eq_true_eq] at hs
        have h12 := hs.1
        unfold small62 at h12
        obtain ⟨h1, h2⟩ := of_decide_eq_true h12
        refine ⟨_, rfl, ⟨by decide, by decide, h1, h2, ?_⟩, Post.newL (Γ := Γ) P rel (rg_rp _) fun c => by simp⟩
        have := hs.2
        rw [Int.sub_zero]
        show Int.toNat _ ≤ 16777216
        have e : LIM = 16777216 := rfl
        rw [e] at this
        omega
      · exact P.elim
    · exact P.elim
  refine ⟨pe, fun X W b' e g c => ?_, pw_no fun N sc b op vs pos => rfl⟩
  obtain ⟨fn, gn, y, pos, pos2, rfl, c1, c2, c3, c4⟩ := sh c
  exact tB_of (pe X W b' _ g c) fun _ => rfl
end
end Tv

namespace Tv
open PySem PySem.Spec PyProof.Rows L2

/-! ### isinstance -/
def D.tyn : D → String
  | .non => "NoneType" | .bl _ => "bool" | .int _ => "int" | .str _ => "str" | .lst _ => "list" | .scr _ => "list" | .tup _ => "tuple" | .dic0 => "dict"
theorem kit_isi (K : W.Frag) (d : D) (t : Ty) : PySem.W.kitOne K (.type d.tyn) (.type t.nm) = some (d.isi t) := by
  cases d <;> cases t <;> rfl
theorem ty_seqL {K : W.Frag} {H : Hp} {a : Addr} {xs : List V} (h : SqL K H a xs) : TyX K H (.ref a) (.type "list") := by
  rcases h with (h | ⟨o, h⟩) | ⟨o, its, n, h1, h2, _⟩
  · exact .base (.lst h)
  · exact .base (.frz h)
  · exact .kList h1 h2
theorem ty_seqT {K : W.Frag} {H : Hp} {a : Addr} {xs : List V} (h : SqT K H a xs) : TyX K H (.ref a) (.type "tuple") := by
  rcases h with (h | ⟨o, h⟩) | ⟨o, its, n, h1, h2, _⟩
  · exact .base (.tup h)
  · exact .fTuple h
  · exact .kTuple h1 h2
theorem RpD.ty {K : W.Frag} {H : Hp} {x : V} {d : D} (r : RpD K H x d) : TyX K H x (.type d.tyn) := by
  cases r with
  | non => exact .base .non
  | bl b => exact .base (.bl b)
  | int i => exact .base (.int i)
  | str z _ => exact .base (.str z)
  | lst h _ => exact .base (.lst h)
  | tup h _ => exact ty_seqT h
  | scr h => exact ty_seqL h
  | dic0 h => exact .base (.dK h)
theorem boot_Ty (t : Ty) : bootBuiltins (Str.ofString t.nm) = some (.type t.nm) ∧ Str.ofString t.nm ≠ "__name__" ∧ (Str.ofString t.nm == ("__debug__" : Str)) = false ∧ t.nm ∈ bltNames := by
  cases t <;> exact ⟨by decide +kernel, by decide +kernel, by decide +kernel, by decide⟩
section
variable {G : Glob}
theorem ok_isi {a : E} {t : Ty} (ha : Ok G a) : Ok G (.isi a t) := by
  have sh : ∀ {N sc b'} {e : Expr}, chkE N sc b' (.isi a t) e = true → ∃ fn x y pos, e = .Call fn [x, y] [] pos ∧ isGl sc "isinstance" fn = true ∧ chkE N sc b' a x = true ∧ isGl sc t.nm y = true := by
    intro N sc b' e c
    unfold chkE at c
    split at c
    · simp only [Bool.and_eq_true] at c
      exact ⟨_, _, _, _, rfl, c.1.1, c.1.2, c.2⟩
    · cases c
  have pe : ∀ X W b' e, Gd X G W b' → chkE X.N X.env.scope b' (.isi a t) e = true → PE X e (TE' X.K G W (.isi a t)) := by
    intro X W b' e g c
    obtain ⟨fn, x, y, pos, rfl, c1, c2, c3⟩ := sh c
    obtain ⟨p, rfl, hg⟩ := isGl_of c1
    obtain ⟨p2, rfl, hg2⟩ := isGl_of c3
    obtain ⟨b1, b2, b3, b4⟩ := boot_Ty t
    have hx := ha.pe X W b' x g c2
    have py : PE X (.Name (Str.ofString t.nm) p2) (tC (.ty t.nm)) := pe_bltn hg2 (g.blt _ b4) b1 rfl b2 b3
    have st : starEach (x :: [Expr.Name (Str.ofString t.nm) p2]) X.env = (false, eval x X.env) :: starEach [Expr.Name (Str.ofString t.nm) p2] X.env := star_of (chk_notStar c2)
    refine PE.imp (pe_callB call_isi hg (g.blt "isinstance" (by decide)) (by decide +kernel) (pa_cons hx (pa_cons py pa_nil) st) (by decide +kernel) (by decide +kernel) st rfl) fun σ H Q h => ?_
    refine one (rep := rT X.K) (r := fun x H (Q : VK) => rIsi X.K [x, .ty t.nm] H Q) (fun B F H σ Γ tmp fa x ta Q rel ra P => ?_) σ H Q h
    exact ⟨x, _, _, _, _, rfl, .ty _, (ra.read rel.sub).ty, kit_isi _ _ _, P.flatv rel (fun c => by simp only [List.count_append]; omega) (.bl _)⟩
  refine ⟨pe, fun X W b' e g c => ?_, pw_no fun N sc b op vs pos => rfl⟩
  obtain ⟨fn, x, y, pos, rfl, c1, c2, c3⟩ := sh c
  exact tB_of (pe X W b' _ g c) fun _ => rfl

/-! ### items, slices -/
theorem RpTs.get : ∀ {K : W.Frag} {F H : Hp} {xs : List V} {ts : List T} {f : List Addr} (i : Nat) {t : T}, RpTs K F H xs ts f → ts[i]? = some t → ∃ x g, xs[i]? = some x ∧ RpT K F H x t g ∧ ∀ c, g.count c ≤ f.count c
  | _, _, _, _, _, _, _, _, .nil, e => by simp at e
  | _, _, _, _, _, _, 0, _, .cons (f := f) r _, e => by
    simp at e; subst e
    exact ⟨_, f, rfl, r, fun c => by rw [List.count_append]; omega⟩
  | _, _, _, _, _, _, i + 1, t, .cons _ rs, e => by
    obtain ⟨u, g, h1, h2, h3⟩ := RpTs.get i rs (t := t) (by simpa using e)
    exact ⟨u, g, by simpa using h1, h2, fun c => by rw [List.count_append]; have := h3 c; omega⟩
theorem RpTs.atI {K : W.Frag} {F H : Hp} {xs : List V} {ts : List T} {f : List Addr} {i : Int} {t : T} (r : RpTs K F H xs ts f) (e : atI ts i = some t) : ∃ x g, L2.atI xs i = some x ∧ RpT K F H x t g ∧ ∀ c, g.count c ≤ f.count c := by
  unfold L2.atI at e ⊢
  rw [r.length]
  cases h : ixN ts.length i with
  | none => rw [h] at e; cases e
  | some j =>
    rw [h] at e
    exact r.get j e
def rIx (K : W.Frag) : R2 := fun x y H Q => rIxL K x y H Q ∨ rIxT K x y H Q ∨ rIxS x y H Q
theorem ix_any {X : Cx} : IxR X (rIx X.K) := IxR.or ix_list (IxR.or ix_tup ix_str)
theorem okS_one {s : List Nat} {c : Nat} (h : okS s = true) (m : c ∈ s) : okS [c] = true := by
  unfold okS at *
  simp only [Bool.and_eq_true, decide_eq_true_eq, List.all_eq_true] at *
  refine ⟨by rw [sizeLine_eq]; exact (by decide : 1 ≤ 16777216), fun x hx => ?_⟩
  rw [List.mem_singleton.mp hx]
  exact h.2 c m
theorem ixT_ok {K : W.Frag} {G : Glob} {W : WX} {B : Base} {F H : Hp} {σ : L2.St} {Γ : Env} {tmp fa fb : List Addr} {x y : V} {a b : T} {Q : VK} (rel : Rel K B F H σ Γ (fb ++ (fa ++ tmp))) (ra : RpT K F H x a fa) (rb : RpT K F H y b fb)
    (P : Post K G W B F H σ tmp (rT K) (R.op (ixT a b) Γ) Q) : rIx K x y H Q := by
  have hc : ∀ c, tmp.count c ≤ (fb ++ (fa ++ tmp)).count c := fun c => by simp only [List.count_append]; omega
  unfold ixT at P
  split at P
  · rename_i s k
    obtain ⟨rfl, rfl⟩ := int_inv rb
    obtain ⟨z, rfl, h1, h2, rfl⟩ := str_inv ra
    cases e : L2.atI s k with
    | none => rw [e] at P; exact P.elim
    | some c =>
      rw [e] at P
      have hm : c ∈ s := by
        unfold L2.atI at e
        cases q : ixN s.length k with
        | none => rw [q] at e; cases e
        | some j => rw [q] at e; exact List.mem_of_getElem? e
      exact .inr (.inr ⟨z, k, c, rfl, rfl, by rw [strLen, h1, sizeLine_eq]; exact okS_le h2, by rw [h1]; exact e, Post.flatv (Γ := Γ) P rel hc (str_mk rfl (okS_one h2 hm))⟩)
  · rename_i k _
    obtain ⟨rfl, rfl⟩ := int_inv rb
    cases e : asQ a with
    | none => rw [e] at P; exact P.elim
    | some ts =>
      rw [e] at P
      cases e2 : L2.atI ts k with
      | none => simp only [Option.bind_some, e2] at P; exact P.elim
      | some t =>
        simp only [Option.bind_some, e2] at P
        obtain ⟨p, xs, g, rfl, hq, r1, c1⟩ := asQ_ok e rel.sub ra
        obtain ⟨v, g2, hv, rv, c2⟩ := r1.atI e2
        have q : Q v H := P v F H g2 (rel.less fun c => by have := c1 c; have := c2 c; simp only [List.count_append]; omega) rv Sub.rfl Sub.rfl
        rcases hq with hq | hq
        · exact .inl ⟨p, xs, k, v, rfl, rfl, hq, hv, q⟩
        · exact .inr (.inl ⟨p, xs, k, v, rfl, rfl, hq, hv, q⟩)
  · exact P.elim
theorem chk_slice {N sc b m a c d p} : chkE N sc b m (.Slice a c d p) = false := by cases m <;> rfl
theorem plainIx_of {N sc b m e} (h : chkE N sc b m e = true) : PlainIx e := by
  cases e with
  | Slice a c d p => rw [chk_slice] at h; cases h
  | _ => exact fun _ _ => rfl
theorem ok_ix {a i : E} (ha : Ok G a) (hi : Ok G i) : Ok G (.ix a i) := by
  have sh : ∀ {N sc b'} {e : Expr}, chkE N sc b' (.ix a i) e = true → ∃ x y pos, e = .Subscript x y pos ∧ chkE N sc b' a x = true ∧ chkE N sc b' i y = true := by
    intro N sc b' e c
    unfold chkE at c
    split at c
    · rw [Bool.and_eq_true] at c
      exact ⟨_, _, _, rfl, c.1, c.2⟩
    · cases c
  have pe : ∀ X W b' e, Gd X G W b' → chkE X.N X.env.scope b' (.ix a i) e = true → PE X e (TE' X.K G W (.ix a i)) := by
    intro X W b' e g c
    obtain ⟨x, y, pos, rfl, c1, c2⟩ := sh c
    exact PE.imp (pe_ix ix_any (ha.pe X W b' x g c1) (hi.pe X W b' y g c2) (plainIx_of c2)) fun σ H Q h => two (f := fun x y Γ => R.op (ixT x y) Γ) (fun B F H σ Γ tmp fa fb x y ta tb Q rel ra rb P => ixT_ok rel ra rb P) σ H Q h
  refine ⟨pe, fun X W b' e g c => ?_, pw_no fun N sc b op vs pos => rfl⟩
  obtain ⟨x, y, pos, rfl, c1, c2⟩ := sh c
  exact tB_of (pe X W b' _ g c) fun _ => rfl
theorem oko_no : OkO G .no := by
  intro X W b e g c
  cases e with
  | none =>
    refine PO.imp po_none fun σ H Q h => ?_
    obtain ⟨B, F, Γ, tmp, rel, P⟩ := h
    exact P none F H [] (by simpa using rel) ⟨rfl, rfl⟩ Sub.rfl Sub.rfl
  | some e => simp [chkO] at c
theorem oko_so {m : E} (hm : Ok G m) : OkO G (.so m) := by
  intro X W b e g c
  cases e with
  | none => simp [chkO] at c
  | some e =>
    refine PO.imp (po_some (hm.pe X W b e g (by simpa [chkO] using c))) fun σ H Q h => ?_
    refine one (β := Option Int) (rep := fun _ _ v a fp => v = a ∧ fp = []) (r := fun x H Q => ∃ i, x = V.int i ∧ Q (some i) H) (fun B F H σ Γ tmp fa x ta Q rel ra P => ?_) σ H Q h
    split at P
    · obtain ⟨rfl, rfl⟩ := int_inv ra
      exact ⟨_, rfl, P _ F H [] (by simpa using rel) ⟨rfl, rfl⟩ Sub.rfl Sub.rfl⟩
    · exact P.elim
theorem RpTs.take : ∀ {K : W.Frag} {F H : Hp} (n : Nat) {xs : List V} {ts : List T} {f : List Addr}, RpTs K F H xs ts f → ∃ g, RpTs K F H (xs.take n) (ts.take n) g ∧ ∀ c, g.count c ≤ f.count c
  | _, _, _, 0, _, _, _, _ => ⟨[], by simpa using .nil, fun c => by simp⟩
  | _, _, _, n + 1, _, _, _, .nil => ⟨[], .nil, fun c => by simp⟩
  | _, _, _, n + 1, _, _, _, .cons (f := f) a b => by
    obtain ⟨g, h1, h2⟩ := RpTs.take n b
    exact ⟨f ++ g, .cons a h1, fun c => by rw [List.count_append, List.count_append]; have := h2 c; omega⟩
theorem RpTs.drop : ∀ {K : W.Frag} {F H : Hp} (n : Nat) {xs : List V} {ts : List T} {f : List Addr}, RpTs K F H xs ts f → ∃ g, RpTs K F H (xs.drop n) (ts.drop n) g ∧ ∀ c, g.count c ≤ f.count c
  | _, _, _, 0, _, _, f, r => ⟨f, r, fun c => Nat.le_refl _⟩
  | _, _, _, n + 1, _, _, _, .nil => ⟨[], .nil, fun c => by simp⟩
  | _, _, _, n + 1, _, _, _, .cons a b => by
    obtain ⟨g, h1, h2⟩ := RpTs.drop n b
    exact ⟨g, h1, fun c => by rw [List.count_append]; have := h2 c; omega⟩
theorem RpTs.cut {K : W.Frag} {F H : Hp} {xs : List V} {ts : List T} {f : List Addr} (r : RpTs K F H xs ts f) (lo hi : Option Int) : ∃ g, RpTs K F H (cutV xs lo hi) (cutL ts lo hi) g ∧ ∀ c, g.count c ≤ f.count c := by
  unfold cutV cutL
  rw [r.length]
  obtain ⟨g, h1, h2⟩ := r.drop (HT.sIx ts.length 0 lo)
  obtain ⟨g', h3, h4⟩ := h1.take (HT.sIx ts.length ts.length hi - HT.sIx ts.length 0 lo)
  exact ⟨g', h3, fun c => Nat.le_trans (h4 c) (h2 c)⟩
theorem RpTs.rev : ∀ {K : W.Frag} {F H : Hp} {xs : List V} {ts : List T} {f : List Addr}, RpTs K F H xs ts f → ∃ g, RpTs K F H xs.reverse ts.reverse g ∧ ∀ c, g.count c ≤ f.count c
  | _, _, _, _, _, _, .nil => ⟨[], .nil, fun c => by simp⟩
  | _, _, _, _, _, _, .cons (f := f) a b => by
    obtain ⟨g, h1, h2⟩ := RpTs.rev b
    refine ⟨g ++ (f ++ []), ?_, fun c => by simp only [List.count_append, List.count_nil]; have := h2 c; omega⟩
    rw [List.reverse_cons, List.reverse_cons]
    exact h1.append (.cons a .nil)
theorem okS_sub {s t : List Nat} (h : okS s = true) (m : ∀ c ∈ t, c ∈ s) (hl : t.length ≤ s.length) : okS t = true := by
  unfold okS at *
  simp only [Bool.and_eq_true, decide_eq_true_eq, List.all_eq_true] at *
  exact ⟨by omega, fun x hx => h.2 x (m x hx)⟩
def rSl (K : W.Frag) : V → Option Int → Option Int → Hp → VK → Prop := fun x lo hi H Q => rSlL K x lo hi H Q ∨ rSlS x lo hi H Q
theorem sl_any {X : Cx} : SlR X (rSl X.K) := SlR.or sl_list sl_str
theorem slT_ok {K : W.Frag} {G : Glob} {W : WX} {B : Base} {F H : Hp} {σ : L2.St} {Γ : Env} {tmp tmp2 fa : List Addr} {x : V} {a : T} {lo hi : Option Int} {Q : VK} (rel : Rel K B F H σ Γ tmp2) (hc : ∀ c, fa.count c + tmp.count c ≤ tmp2.count c) (ra : RpT K F H x a fa)
    (P : Post K G W B F H σ tmp (rT K) (R.op (slT a lo hi) Γ) Q) : rSl K x lo hi H Q := by
  unfold slT at P
  split at P
  · rename_i s
    obtain ⟨z, rfl, h1, h2, rfl⟩ := str_inv ra
    refine .inr ⟨z, rfl, by rw [strLen, h1, sizeLine_eq]; exact okS_le h2, Post.flatv (Γ := Γ) P rel (fun c => by have := hc c; omega) ?_⟩
    refine str_mk ?_ ?_
    · unfold cutS cutL
      rw [strLen, h1]
    · unfold cutL
      refine okS_sub h2 (fun c m => ?_) ?_
      · exact List.mem_of_mem_drop (List.mem_of_mem_take m)
      · rw [List.length_take, List.length_drop]; omega
  · cases e : lOnly a with
    | none => rw [e] at P; exact P.elim
    | some ts =>
      rw [e] at P
      obtain ⟨p, xs, g, rfl, hq, r1, c1⟩ := lOnly_ok e rel.sub ra
      obtain ⟨g2, r2, c2⟩ := r1.cut lo hi
      exact .inl ⟨p, xs, rfl, hq, Post.newL (Γ := Γ) P rel r2 fun c => by have := c1 c; have := c2 c; have := hc c; omega⟩
theorem ok_sl {a : E} {lo hi : OE} (ha : Ok G a) (hl : OkO G lo) (hh : OkO G hi) : Ok G (.sl a lo hi) := by
  have sh : ∀ {N sc b'} {e : Expr}, chkE N sc b' (.sl a lo hi) e = true → ∃ x l h p pos, e = .Subscript x (.Slice l h none p) pos ∧ chkE N sc b' a x = true ∧ chkO N sc b' lo l = true ∧ chkO N sc b' hi h = true := by
    intro N sc b' e c
    unfold chkE at c
    split at c
    · simp only [Bool.and_eq_true] at c
      exact ⟨_, _, _, _, _, rfl, c.1.1, c.1.2, c.2⟩
    · cases c
  have pe : ∀ X W b' e, Gd X G W b' → chkE X.N X.env.scope b' (.sl a lo hi) e = true → PE X e (TE' X.K G W (.sl a lo hi)) := by
    intro X W b' e g c
    obtain ⟨x, l, h, p, pos, rfl, c1, c2, c3⟩ := sh c
    refine PE.imp (pe_slice sl_any (ha.pe X W b' x g c1) (hl X W b' l g c2) (hh X W b' h g c3)) ?_
    rintro σ H Q ⟨B, F, Γ, tmp, rel, P⟩
    refine ⟨B, F, Γ, tmp, rel, (P.bind (rep := rT X.K) (fp := [])).imp ?_⟩
    rintro x H1 ⟨ta, Γ1, F1, fa, rel1, ra, sH1, sF1, P1⟩
    refine ⟨B, F1, Γ1, fa ++ tmp, rel1, (Post.bind (rep := fun _ _ v a fp => v = a ∧ fp = []) (fp := fa) P1).imp ?_⟩
    rintro l H2 ⟨l', Γ2, F2, fl, rel2, ⟨rfl, rfl⟩, sH2, sF2, P2⟩
    refine ⟨B, F2, Γ2, fa ++ tmp, by simpa using rel2, (Post.bind (rep := fun _ _ v a fp => v = a ∧ fp = []) (fp := fa) P2).imp ?_⟩
    rintro h H3 ⟨h', Γ3, F3, fh, rel3, ⟨rfl, rfl⟩, sH3, sF3, P3⟩
    exact slT_ok (Γ := Γ3) rel3 (fun c => by simp only [List.count_append]; omega) ((ra.grow sF2 sH2).grow sF3 sH3) P3
  refine ⟨pe, fun X W b' e g c => ?_, pw_no fun N sc b op vs pos => rfl⟩
  obtain ⟨x, l, h, p, pos, rfl, c1, c2, c3⟩ := sh c
  exact tB_of (pe X W b' _ g c) fun _ => rfl
theorem ok_rev {a : E} (ha : Ok G a) : Ok G (.rev a) := by
  have sh : ∀ {N sc b'} {e : Expr}, chkE N sc b' (.rev a) e = true → ∃ x k p1 p2 p3 pos, e = .Subscript x (.Slice none none (some (.UnaryOp .USub (.Constant (.int 1) k p1) p2)) p3) pos ∧ chkE N sc b' a x = true := by
    intro N sc b' e c
    unfold chkE at c
    split at c
    · exact ⟨_, _, _, _, _, _, rfl, c⟩
    · cases c
  have pe : ∀ X W b' e, Gd X G W b' → chkE X.N X.env.scope b' (.rev a) e = true → PE X e (TE' X.K G W (.rev a)) := by
    intro X W b' e g c
    obtain ⟨x, k, p1, p2, p3, pos, rfl, c1⟩ := sh c
    refine PE.imp (pe_revL (ha.pe X W b' x g c1)) fun σ H Q h => ?_
    refine one (rep := rT X.K) (r := fun x H (Q : VK) => ∃ a xs, x = V.ref a ∧ SqL X.K H a xs ∧ ∀ p, H p = none → Q (.ref p) (upd H p (.lst xs.reverse))) (fun B F H σ Γ tmp fa x ta Q rel ra P => ?_) σ H Q h
    unfold revT at P
    cases e : lOnly ta with
    | none => rw [e] at P; exact P.elim
    | some ts =>
      rw [e] at P
      obtain ⟨p, xs, g, rfl, hq, r1, c1⟩ := lOnly_ok e rel.sub ra
      obtain ⟨g2, r2, c2⟩ := r1.rev
      exact ⟨p, xs, rfl, hq, Post.newL (Γ := Γ) P rel r2 fun c => by have := c1 c; have := c2 c; simp only [List.count_append]; omega⟩
  refine ⟨pe, fun X W b' e g c => ?_, pw_no fun N sc b op vs pos => rfl⟩
  obtain ⟨x, k, p1, p2, p3, pos, rfl, c1⟩ := sh c
  exact tB_of (pe X W b' _ g c) fun _ => rfl
theorem ok_dic0 : Ok G .dic0 := by
  have sh : ∀ {N sc b'} {e : Expr}, chkE N sc b' .dic0 e = true → ∃ pos, e = .Dict [] [] pos := by
    intro N sc b' e c
    unfold chkE at c
    split at c
    · exact ⟨_, rfl⟩
    · cases c
  have pe : ∀ X W b' e, Gd X G W b' → chkE X.N X.env.scope b' .dic0 e = true → PE X e (TE' X.K G W .dic0) := by
    intro X W b' e g c
    obtain ⟨pos, rfl⟩ := sh c
    refine PE.imp pe_dnewK fun σ H Q h => ?_
    obtain ⟨B, F, Γ, tmp, rel, P⟩ := h
    intro p hp
    have r1 := (rel.alloc (o := .dK []) hp)
    have r2 := r1.freezeTmp (f1 := [p]) (g := tmp) fun c => by rw [List.count_cons, List.count_cons, List.count_nil]; omega
    exact P (.ref p) _ _ [] (by simpa using r2) (.v (.dic0 (by unfold addF; rw [if_pos (by simp)]; exact upd_same))) (upd_sub hp) (addF_sub r1.sub)
  refine ⟨pe, fun X W b' e g c => ?_, pw_no fun N sc b op vs pos => rfl⟩
  obtain ⟨pos, rfl⟩ := sh c
  exact tB_of (pe X W b' _ g c) fun _ => rfl
end
end Tv

namespace Tv
open PySem PySem.Spec PyProof.Rows L2

/-! ### what is walked -/
def YD (K : W.Frag) (F : Hp) (ds : List D) : Nat → Hp → V → Hp → Prop := fun i H x H' => ∃ d, ds[i]? = some d ∧
  ((H' = H ∧ RpD K F x d) ∨ (∃ T a b x1 x2, d = .tup [a, b] ∧ x = .ref T ∧ H T = none ∧ H' = upd H T (.tup [x1, x2]) ∧ RpD K F x1 a ∧ RpD K F x2 b))
def rI' (K : W.Frag) : Hp → Hp → It → List D → List Addr → Prop := fun F H J ds fp => fp = [] ∧ Walk J ds.length (fun H => Sub F H) (YD K F ds)
def OkI (G : Glob) (m : I) : Prop := ∀ X W b tg e, Gd X G W b → chkI X.N X.env.scope b m tg e = true → PI X tg e (TM X.K G W (rI' X.K) (evI G.cl G.con m)) ∧ notSet e = true
def iSeq (K : W.Frag) (tl : TE) : TI := fun σ H R => tl σ H fun x H1 => (∃ a, x = V.ref a ∧ (∃ xs, SqL K H1 a xs) ∧ R (Itl K a) H1) ∨ (∃ a, x = V.ref a ∧ (∃ xs, SqT K H1 a xs) ∧ R (Itt K a) H1) ∨ (∃ z, x = V.str z ∧ R (Its z) H1)
theorem pi_seq {X : Cx} {tg l : Expr} {tl : TE} (hl : PE X l tl) : PI X tg l (iSeq X.K tl) := by
  refine ⟨fun pins s σ H R I h => ?_⟩
  refine thn (hl.run pins s σ H _ I h) fun v s1 ⟨x, H1, I1, r1, q1⟩ => ?_
  rcases q1 with ⟨a, e, ⟨xs, hq⟩, q⟩ | ⟨a, e, ⟨xs, hq⟩, q⟩ | ⟨z, e, q⟩
  · subst e
    cases r1
    obtain ⟨its, rv, p, hz⟩ := I1.list hq
    refine wpAny_pyIter_list p.isList ?_
    refine ⟨s1.heap.objs.size, [s1.heap.objs.size], _, _, H1, rfl, I1.kept (t' := s1.toks) fun b o e => Heap.get?_push_of_some _ e, turn_list a _, ⟨_, Heap.get?_push_size _ rfl, rfl, rfl⟩, fun b hb => ?_, q⟩
    have e : b = s1.heap.objs.size := by simpa using hb
    subst e
    exact I1.fpOk (Nat.le_refl _) (I1.hok.fresh (Nat.le_refl _))
  · subst e
    cases r1
    obtain ⟨its, rv, p, hz⟩ := I1.tuple hq
    refine wpAny_pyIter_tuple (show s1.heap.IsTuple a its.toArray from p) ?_
    refine ⟨s1.heap.objs.size, [s1.heap.objs.size], _, _, H1, rfl, I1.kept (t' := s1.toks) fun b o e => Heap.get?_push_of_some _ e, turn_tuple a _, ⟨_, Heap.get?_push_size _ rfl, rfl, rfl⟩, fun b hb => ?_, q⟩
    have e : b = s1.heap.objs.size := by simpa using hb
    subst e
    exact I1.fpOk (Nat.le_refl _) (I1.hok.fresh (Nat.le_refl _))
  · subst e
    obtain ⟨t, rfl⟩ := r1
    cases ha : z.cps.all (· < 128)
    · exact wpAny_pyIter_wide ha (pi_one (tk := s1.toks) I1 _ (turn_str _ z t "str_iterator" (.inr rfl)) ⟨_, Heap.get?_push_size _ rfl, rfl, rfl⟩ q)
    · exact wpAny_pyIter_ascii ha (pi_one (tk := s1.toks) I1 _ (turn_str _ z t "str_ascii_iterator" (.inl rfl)) ⟨_, Heap.get?_push_size _ rfl, rfl, rfl⟩ q)
section
variable {K : W.Frag} {F : Hp}
theorem walkD_list {a : Addr} {xs : List V} {ds : List D} (h : SqL K F a xs) (r : RpDs K F xs ds) : Walk (Itl K a) ds.length (fun H => Sub F H) (YD K F ds) := by
  rw [← r.length]
  refine (walk_list (K := K) (a := a) (xs := xs)).mono (fun H s => SqL.mono' s h) ?_
  rintro i H x H' hi _ ⟨rfl, hx⟩
  obtain ⟨d, h1, h2⟩ := r.getV i hx
  exact ⟨d, h1, .inl ⟨rfl, h2⟩⟩
theorem walkD_tup {a : Addr} {xs : List V} {ds : List D} (h : SqT K F a xs) (r : RpDs K F xs ds) : Walk (Itt K a) ds.length (fun H => Sub F H) (YD K F ds) := by
  rw [← r.length]
  refine (walk_tup (K := K) (a := a) (xs := xs)).mono (fun H s => SqT.mono' s h) ?_
  rintro i H x H' hi _ ⟨rfl, hx⟩
  obtain ⟨d, h1, h2⟩ := r.getV i hx
  exact ⟨d, h1, .inl ⟨rfl, h2⟩⟩
theorem RpDs.ints : ∀ (ns : List Int), RpDs K F (ns.map V.int) (ns.map D.int)
  | [] => .nil
  | n :: ns => .cons (.int n) (RpDs.ints ns)
theorem walkD_str {z : Str} (h : okS z.cps.toList = true) : Walk (Its z) (z.cps.toList.map fun c => D.str [c]).length (fun H => Sub F H) (YD K F (z.cps.toList.map fun c => D.str [c])) := by
  have e : (z.cps.toList.map fun c => D.str [c]).length = z.cps.size := by simp
  rw [e]
  refine (walk_str (z := z)).mono (fun H s => trivial) ?_
  rintro i H x H' hi _ ⟨rfl, c, hc, rfl⟩
  have hc' : z.cps.toList[i]? = some c := by rw [Array.getElem?_toList]; exact hc
  refine ⟨.str [c], by rw [List.getElem?_map, hc']; rfl, .inl ⟨rfl, ?_⟩⟩
  exact str_mk (z := ⟨#[c]⟩) rfl (okS_one h (List.mem_of_getElem? hc'))
theorem listD_ok {x : V} {d : D} {ds : List D} (e : listD d = some ds) (r : RpD K F x d) : ∃ a xs, x = .ref a ∧ SqL K F a xs ∧ RpDs K F xs ds := by
  unfold listD at e
  split at e
  · cases e
    cases r with | lst h r => exact ⟨_, _, rfl, .of h, r⟩
  · cases e
    cases r with | scr h => exact ⟨_, _, rfl, h, RpDs.ints _⟩
  · cases e
theorem walkD_rangeC (lo : Int) (n : Nat) (c : Int) : Walk (Itc lo c n) (rangeD lo n c).length (fun H => Sub F H) (YD K F (rangeD lo n c)) := by
  have e : (rangeD lo n c).length = n := by unfold rangeD; simp
  rw [e]
  refine (walk_rangeC (lo := lo) (c := c) (n := n)).mono (fun H s => trivial) ?_
  rintro i H x H' hi _ ⟨rfl, rfl⟩
  exact ⟨.int (lo + i * c), by unfold rangeD; simp [hi], .inl ⟨rfl, .int _⟩⟩
theorem walkD_range (lo : Int) (n : Nat) : Walk (Itr lo n) (rangeD lo n 1).length (fun H => Sub F H) (YD K F (rangeD lo n 1)) := by
  have e : (rangeD lo n 1).length = n := by unfold rangeD; simp
  rw [e]
  refine (walk_range (lo := lo) (n := n)).mono (fun H s => trivial) ?_
  rintro i H x H' hi _ ⟨rfl, rfl⟩
  exact ⟨.int (lo + i), by unfold rangeD; simp [hi], .inl ⟨rfl, .int _⟩⟩
theorem walkD_enum {a : Addr} {xs : List V} {ds : List D} (h : SqL K F a xs) (r : RpDs K F xs ds) : Walk (Ite K a) (ds.zipIdx.map fun p => D.tup [.int p.2, p.1]).length (fun H => Sub F H) (YD K F (ds.zipIdx.map fun p => D.tup [.int p.2, p.1])) := by
  have e : (ds.zipIdx.map fun p => D.tup [.int p.2, p.1]).length = xs.length := by simp [r.length]
  rw [e]
  refine (walk_enum (K := K) (a := a) (xs := xs)).mono (fun H s => SqL.mono' s h) ?_
  rintro i H v H' hi _ ⟨T, x, y, rfl, h2, h3, h4, h5⟩
  cases h4
  obtain ⟨d, h6, h7⟩ := r.getV i h5
  refine ⟨.tup [.int i, d], ?_, .inr ⟨T, .int i, d, .int i, y, rfl, rfl, h2, h3, .int _, h7⟩⟩
  rw [List.getElem?_map, List.getElem?_zipIdx, h6]
  simp
theorem walkD_zip {a b : Addr} {xs ys : List V} {ds es : List D} (h : SqL K F a xs) (h' : SqL K F b ys) (r : RpDs K F xs ds) (r' : RpDs K F ys es) : Walk (Itz K a b) ((ds.zip es).map fun p => D.tup [p.1, p.2]).length (fun H => Sub F H) (YD K F ((ds.zip es).map fun p => D.tup [p.1, p.2])) := by
  have e : ((ds.zip es).map fun p => D.tup [p.1, p.2]).length = min xs.length ys.length := by simp [r.length, r'.length]
  rw [e]
  refine (walk_zip (K := K) (a := a) (b := b) (xs := xs) (ys := ys) rfl).mono (fun H s => ⟨SqL.mono' s h, SqL.mono' s h'⟩) ?_
  rintro i H v H' hi _ ⟨T, x, y, rfl, h2, h3, h4, h5⟩
  obtain ⟨d, h6, h7⟩ := r.getV i h4
  obtain ⟨e', h8, h9⟩ := r'.getV i h5
  refine ⟨.tup [d, e'], ?_, .inr ⟨T, d, e', x, y, rfl, rfl, h2, h3, h7, h9⟩⟩
  rw [List.getElem?_map, List.getElem?_zip_eq_some (z := (d, e')) |>.mpr ⟨h6, h8⟩]
  rfl
theorem walkD_rev {a : Addr} {xs : List V} {ds : List D} (h : SqL K F a xs) (r : RpDs K F xs ds) : Walk (Itv K a xs.length) ds.reverse.length (fun H => Sub F H) (YD K F ds.reverse) := by
  have e : ds.reverse.length = xs.length := by simp [r.length]
  rw [e]
  refine (walk_rev (K := K) (a := a) (xs := xs)).mono (fun H s => SqL.mono' s h) ?_
  rintro i H x H' hi _ ⟨rfl, hx⟩
  obtain ⟨d, h1, h2⟩ := r.getV _ hx
  refine ⟨d, ?_, .inl ⟨rfl, h2⟩⟩
  rw [List.getElem?_reverse (by rw [← r.length]; exact hi), ← r.length]
  exact h1
end
section
variable {G : Glob}
theorem Post.walk {K : W.Frag} {W : WX} {B : Base} {F F' H H' : Hp} {σ : L2.St} {Γ : Env} {tmp : List Addr} {ds : List D} {R : It → Hp → Prop} {J : It} (P : Post K G W B F H σ tmp (rI' K) (.ok ds Γ) R) (rel : Rel K B F' H' σ Γ tmp) (w : Walk J ds.length (fun H => Sub F' H) (YD K F' ds)) (hH : Sub H H') (hF : Sub F F') : R J H' :=
  P J F' H' [] (by simpa using rel) ⟨rfl, w⟩ hH hF
theorem oki_seq {m : E} (hm : Ok G m) : OkI G (.seq m) := by
  intro X W b tg e g c
  simp only [chkI, Bool.and_eq_true] at c
  refine ⟨PI.imp (pi_seq (hm.pe X W b e g c.1)) fun σ H R h => ?_, c.2⟩
  refine one (β := It) (rep := rI' X.K) (r := fun x H1 R => (∃ a, x = V.ref a ∧ (∃ xs, SqL X.K H1 a xs) ∧ R (Itl X.K a) H1) ∨ (∃ a, x = V.ref a ∧ (∃ xs, SqT X.K H1 a xs) ∧ R (Itt X.K a) H1) ∨ (∃ z, x = V.str z ∧ R (Its z) H1)) (fun B F H σ Γ tmp fa x ta Q rel ra P => ?_) σ H R h
  cases e1 : ta.fz with
  | none => simp only [e1, Option.bind_none] at P; exact P.elim
  | some d =>
    cases e2 : itemsD d with
    | none => simp only [e1, Option.bind_some, e2] at P; exact P.elim
    | some ds =>
      simp only [e1, Option.bind_some, e2] at P
      have rd := fz_ok e1 rel.sub ra
      have rel2 := rel.freezeTmp (f1 := fa) (g := tmp) fun c => by simp only [List.count_append]; omega
      have sF := addF_sub (f := fa) rel.sub
      have P' : Post X.K G W B F H σ tmp (rI' X.K) (.ok ds Γ) Q := P
      unfold itemsD at e2
      split at e2
      · cases e2
        cases rd with | lst h r => exact .inl ⟨_, rfl, ⟨_, .of (rel2.sub _ _ h)⟩, P'.walk rel2 (walkD_list (.of h) r) Sub.rfl sF⟩
      · cases e2
        cases rd with | tup h r => exact .inr (.inl ⟨_, rfl, ⟨_, SqT.mono' rel2.sub h⟩, P'.walk rel2 (walkD_tup h r) Sub.rfl sF⟩)
      · cases e2
        cases rd with | scr h => exact .inl ⟨_, rfl, ⟨_, SqL.mono' rel2.sub h⟩, P'.walk rel2 (walkD_list h (RpDs.ints _)) Sub.rfl sF⟩
      · cases e2
        cases rd with | str z h => exact .inr (.inr ⟨z, rfl, P'.walk rel2 (walkD_str h) Sub.rfl sF⟩)
      · cases e2
/-- one argument's list, by a rule over argument lists -/
theorem arg1 {X : Cx} {W : WX} {b : CP} {m : E} {e : Expr} (hm : Ok G m) (g : Gd X G W b) (c : chkE X.N X.env.scope b m e = true) : PA X [e] (tCons (TE' X.K G W m) tNil) := pa_cons (hm.pe X W b e g c) pa_nil (star_of (chk_notStar c))
theorem small62_of {i : Int} (h : small62 i = true) : -(2 ^ 62) ≤ i ∧ i < 2 ^ 62 := of_decide_eq_true h
theorem oki_rng1 {m : E} (hm : Ok G m) : OkI G (.rng1 m) := by
  intro X W b tg e g c
  unfold chkI at c
  split at c
  · simp only [Bool.and_eq_true] at c
    obtain ⟨p, rfl, hg⟩ := isGl_of c.1.1
    refine ⟨PI.imp (pi_range1 hg (g.blt "range" (by decide)) (arg1 hm g c.1.2) (star_of c.2)) fun σ H R h => ?_, rfl⟩
    refine one (β := It) (rep := rI' X.K) (r := fun x H1 R => ∃ j : Int, [x] = [V.int j] ∧ -(2 ^ 62) ≤ j ∧ j < 2 ^ 62 ∧ R (Itr 0 j.toNat) H1) (fun B F H σ Γ tmp fa x ta Q rel ra P => ?_) σ H R h
    split at P
    · obtain ⟨rfl, rfl⟩ := int_inv ra
      split at P
      · rename_i hs
        rw [Bool.and_eq_true] at hs
        obtain ⟨h1, h2⟩ := small62_of hs.1
        exact ⟨_, rfl, h1, h2, P.walk (by simpa using rel) (walkD_range 0 _) Sub.rfl Sub.rfl⟩
      · exact P.elim
    · exact P.elim
  · cases c
theorem oki_rng2 {m n : E} (hm : Ok G m) (hn : Ok G n) : OkI G (.rng2 m n) := by
  intro X W b tg e g c
  unfold chkI at c
  split at c
  · simp only [Bool.and_eq_true] at c
    obtain ⟨⟨⟨⟨c1, c2⟩, c3⟩, c4⟩, c5⟩ := c
    obtain ⟨p, rfl, hg⟩ := isGl_of c1
    refine ⟨PI.imp (pi_range2 hg (g.blt "range" (by decide)) (pa_cons (hm.pe X W b _ g c2) (arg1 hn g c3) (star_of c4)) ((star_of c4).trans (by rw [star_of c5]; rfl)) (star_of c5)) ?_, rfl⟩
    rintro σ H R ⟨B, F, Γ, tmp, rel, P⟩
    refine ⟨B, F, Γ, tmp, rel, (P.bind (rep := rT X.K) (fp := [])).imp ?_⟩
    rintro x H1 ⟨ta, Γ1, F1, fa, rel1, ra, sH1, sF1, P1⟩
    refine ⟨B, F1, Γ1, fa ++ tmp, rel1, (P1.bind (rep := rT X.K) (fp := fa)).imp ?_⟩
    rintro y H2 ⟨tb, Γ2, F2, fb, rel2, rb, sH2, sF2, P2⟩
    split at P2
    · have ra := ra.grow sF2 sH2
      obtain ⟨rfl, rfl⟩ := int_inv ra
      obtain ⟨rfl, rfl⟩ := int_inv rb
      split at P2
      · rename_i hs
        simp only [Bool.and_eq_true] at hs
        obtain ⟨h1, h2⟩ := small62_of hs.1.1
        obtain ⟨h3, h4⟩ := small62_of hs.1.2
        exact ⟨_, _, rfl, ⟨h1, h2, h3, h4⟩, P2.walk (by simpa using rel2) (walkD_range _ _) Sub.rfl Sub.rfl⟩
      · exact P2.elim
    · exact P2.elim
  · cases c
theorem rgN_ok (a b c : Int) : Builtin.Range.rangeSize a b c = (rgN a b c : Int) := rangeSize_toNat a b c
theorem oki_rng3 {m n k : E} (hm : Ok G m) (hn : Ok G n) (hk : Ok G k) : OkI G (.rng3 m n k) := by
  intro X W b tg e g c
  unfold chkI at c
  split at c
  · simp only [Bool.and_eq_true] at c
    obtain ⟨⟨⟨⟨⟨⟨c1, c2⟩, c3⟩, c4⟩, c5⟩, c6⟩, c7⟩ := c
    obtain ⟨p, rfl, hg⟩ := isGl_of c1
    refine ⟨PI.imp (pi_range3 hg (g.blt "range" (by decide)) (pa_cons (hm.pe X W b _ g c2) (pa_cons (hn.pe X W b _ g c3) (arg1 hk g c4) (star_of c6)) (star_of c5)) (star_of c5) (by rw [star_of c6, star_of c7]; rfl)) ?_, rfl⟩
    rintro σ H R ⟨B, F, Γ, tmp, rel, P⟩
    refine ⟨B, F, Γ, tmp, rel, (P.bind (rep := rT X.K) (fp := [])).imp ?_⟩
    rintro x H1 ⟨ta, Γ1, F1, fa, rel1, ra, sH1, sF1, P1⟩
    refine ⟨B, F1, Γ1, fa ++ tmp, rel1, (P1.bind (rep := rT X.K) (fp := fa)).imp ?_⟩
    rintro y H2 ⟨tb, Γ2, F2, fb, rel2, rb, sH2, sF2, P2⟩
    rw [← List.append_assoc] at rel2
    refine ⟨B, F2, Γ2, (fb ++ fa) ++ tmp, rel2, (P2.bind (rep := rT X.K) (fp := fb ++ fa)).imp ?_⟩
    rintro z H3 ⟨tc, Γ3, F3, fc, rel3, rc, sH3, sF3, P3⟩
    split at P3
    · have ra := (ra.grow sF2 sH2).grow sF3 sH3
      have rb := rb.grow sF3 sH3
      obtain ⟨rfl, rfl⟩ := int_inv ra
      obtain ⟨rfl, rfl⟩ := int_inv rb
      obtain ⟨rfl, rfl⟩ := int_inv rc
      split at P3
      · rename_i hs
        simp only [Bool.and_eq_true, decide_eq_true_eq] at hs
        obtain ⟨⟨h1, h2, h3⟩, h4⟩ := hs
        exact ⟨_, _, _, _, rfl, ⟨by omega, by omega, h1, rgN_ok _ _ _⟩, P3.walk (by simpa using rel3) (walkD_rangeC _ _ _) Sub.rfl Sub.rfl⟩
      · exact P3.elim
    · exact P3.elim
  · cases c
theorem tuple_of {t : Expr} (h : isTuple t = true) : ∃ es k pos, t = .Tuple es k pos := by
  cases t with
  | Tuple es k pos => exact ⟨_, _, _, rfl⟩
  | _ => cases h
theorem fzl_ok {K : W.Frag} {F H : Hp} {x : V} {t : T} {f : List Addr} {ds : List D} (e : t.fz.bind listD = some ds) (hF : Sub F H) (r : RpT K F H x t f) : ∃ a xs, x = .ref a ∧ SqL K (addF F H f) a xs ∧ RpDs K (addF F H f) xs ds := by
  cases e1 : t.fz with
  | none => rw [e1] at e; cases e
  | some d => rw [e1] at e; exact listD_ok e (fz_ok e1 hF r)
theorem oki_enum {m : E} (hm : Ok G m) : OkI G (.enum m) := by
  intro X W b tg e g c
  unfold chkI at c
  split at c
  · simp only [Bool.and_eq_true] at c
    obtain ⟨⟨⟨c1, c2⟩, c3⟩, c4⟩ := c
    obtain ⟨p, rfl, hg⟩ := isGl_of c1
    obtain ⟨es, k, pos, rfl⟩ := tuple_of c4
    refine ⟨PI.imp (pi_enum hg (g.blt "enumerate" (by decide)) (arg1 hm g c2) (star_of c3)) fun σ H R h => ?_, rfl⟩
    refine one (β := It) (rep := rI' X.K) (r := fun x H1 R => ∃ a xs, [x] = [V.ref a] ∧ SqL X.K H1 a xs ∧ R (Ite X.K a) H1) (fun B F H σ Γ tmp fa x ta Q rel ra P => ?_) σ H R h
    split at P
    · rename_i ds e1
      obtain ⟨a, xs, rfl, h1, h2⟩ := fzl_ok e1 rel.sub ra
      have rel2 := rel.freezeTmp (f1 := fa) (g := tmp) fun c => by simp only [List.count_append]; omega
      exact ⟨a, xs, rfl, SqL.mono' rel2.sub h1, P.walk rel2 (walkD_enum h1 h2) Sub.rfl (addF_sub rel.sub)⟩
    · exact P.elim
  · cases c
theorem oki_rvd {m : E} (hm : Ok G m) : OkI G (.rvd m) := by
  intro X W b tg e g c
  unfold chkI at c
  split at c
  · simp only [Bool.and_eq_true] at c
    obtain ⟨⟨c1, c2⟩, c3⟩ := c
    obtain ⟨p, rfl, hg⟩ := isGl_of c1
    refine ⟨PI.imp (pi_reversed hg (g.blt "reversed" (by decide)) (arg1 hm g c2) (star_of c3)) fun σ H R h => ?_, rfl⟩
    refine one (β := It) (rep := rI' X.K) (r := fun x H1 R => ∃ a xs, [x] = [V.ref a] ∧ SqL X.K H1 a xs ∧ R (Itv X.K a xs.length) H1) (fun B F H σ Γ tmp fa x ta Q rel ra P => ?_) σ H R h
    split at P
    · rename_i ds e1
      obtain ⟨a, xs, rfl, h1, h2⟩ := fzl_ok e1 rel.sub ra
      have rel2 := rel.freezeTmp (f1 := fa) (g := tmp) fun c => by simp only [List.count_append]; omega
      exact ⟨a, xs, rfl, SqL.mono' rel2.sub h1, P.walk rel2 (walkD_rev h1 h2) Sub.rfl (addF_sub rel.sub)⟩
    · exact P.elim
  · cases c
theorem oki_zip {m n : E} (hm : Ok G m) (hn : Ok G n) : OkI G (.zip m n) := by
  intro X W b tg e g c
  unfold chkI at c
  split at c
  · simp only [Bool.and_eq_true] at c
    obtain ⟨⟨⟨⟨⟨c1, c2⟩, c3⟩, c4⟩, c5⟩, c6⟩ := c
    obtain ⟨p, rfl, hg⟩ := isGl_of c1
    obtain ⟨es, k, pos, rfl⟩ := tuple_of c6
    refine ⟨PI.imp (pi_zip hg (g.blt "zip" (by decide)) (pa_cons (hm.pe X W b _ g c2) (arg1 hn g c3) (star_of c4)) (star_of c4) (by rw [star_of c5]; rfl)) ?_, rfl⟩
    rintro σ H R ⟨B, F, Γ, tmp, rel, P⟩
    refine ⟨B, F, Γ, tmp, rel, (P.bind (rep := rT X.K) (fp := [])).imp ?_⟩
    rintro x H1 ⟨ta, Γ1, F1, fa, rel1, ra, sH1, sF1, P1⟩
    refine ⟨B, F1, Γ1, fa ++ tmp, rel1, (P1.bind (rep := rT X.K) (fp := fa)).imp ?_⟩
    rintro y H2 ⟨tb, Γ2, F2, fb, rel2, rb, sH2, sF2, P2⟩
    split at P2
    · rename_i ds es' e1 e2
      obtain ⟨a, xs, rfl, h1, h2⟩ := fzl_ok e1 rel2.sub (ra.grow sF2 sH2)
      obtain ⟨a', ys, rfl, h3, h4⟩ := fzl_ok e2 rel2.sub rb
      have rel3 := rel2.freezeTmp (f1 := fb ++ fa) (g := tmp) fun c => by simp only [List.count_append]; omega
      have s1 : Sub (addF F2 H2 fa) (addF F2 H2 (fb ++ fa)) := addF_more rel2.sub fun a ha => by simp [ha]
      have s2 : Sub (addF F2 H2 fb) (addF F2 H2 (fb ++ fa)) := addF_more rel2.sub fun a ha => by simp [ha]
      exact ⟨a, a', xs, ys, rfl, SqL.mono' (s1.trans rel3.sub) h1, SqL.mono' (s2.trans rel3.sub) h3, P2.walk rel3 (walkD_zip (SqL.mono' s1 h1) (SqL.mono' s2 h3) (h2.mono s1) (h4.mono s2)) Sub.rfl (addF_sub rel2.sub)⟩
    · exact P2.elim
  · cases c

/-! ### methods -/
def rM (K : W.Frag) : MF → V → List V → Hp → VK → Prop
  | .join => fun x xs H Q => ∃ a p, ∃ ys : List Str, x = .str a ∧ xs = [.ref p] ∧ (SqL K H p (ys.map V.str) ∨ SqT K H p (ys.map V.str)) ∧ (ys.map (·.length)).sum + ys.length * a.length ≤ 16777216 ∧ Q (.str (Txt.join a ys)) H
  | .find => fun x xs H Q => ∃ a b, x = .str a ∧ xs = [.str b] ∧ Q (.int (Txt.find a b)) H
  | .count => fun x xs H Q => ∃ p ys z, x = .ref p ∧ xs = [z] ∧ SqL K H p ys ∧ flatV z = true ∧ ys.all flatV = true ∧ Q (.int ((ys.filter fun y => eqV y z).length : Nat)) H
def MF.ty : MF → String
  | .join => "str" | .find => "str" | .count => "list"
def MF.id : MF → String
  | .join => "str.join" | .find => "str.find" | .count => "list.count"
theorem countP_eqU {x : V} : ∀ {xs : List V} {us : List Value}, Vals xs us → xs.all flatV = true → us.countP (eqU x) = (xs.filter fun y => eqV y x).length
  | _, _, .nil, _ => rfl
  | y :: xs, u :: us, .cons r t, f => by
    rw [List.all_cons, Bool.and_eq_true] at f
    rw [List.countP_cons, List.filter_cons, eqU_of r f.1, countP_eqU t f.2]
    split <;> simp
theorem mt_cntF {X : Cx} : MtR X "list.count" (rM X.K .count) := by
  intro pins s σ H x xs v us Q I rx rxs h
  obtain ⟨p, ys, z, rfl, rfl, hs, fz, fs, q⟩ := h
  cases rx
  obtain ⟨u, rfl, ru⟩ := rxs.one
  obtain ⟨its, rv, ⟨⟨cls, dd, data, sl⟩, n, ho, hc, hdn, hd⟩, hlen⟩ := I.list hs
  simp only at hc hd
  subst hc hd
  refine call_meets PySem.F.slot_list_count ⟨_, ho, rfl⟩ PySem.F.entry_list_count (PySem.F.args_list_count_2 _ _)
    (SeqAt.list_countAt p its.toArray n dd sl u (eqU z)) ⟨ho, fun y hy => mem_eqAt ru fz rv fs y (by simpa using hy), ?_⟩
  have ec : its.toArray.toList.countP (eqU z) = (ys.filter fun y => eqV y z).length := countP_eqU rv fs
  refine ⟨.int ((ys.filter fun y => eqV y z).length : Nat), H, I.tok _, ⟨s.toks, ?_⟩, q⟩
  show Value.int ((its.toArray.toList.countP (eqU z) : Nat) : Int) s.toks = _
  rw [ec]
theorem filt_of {K : W.Frag} {F H : Hp} (hF : Sub F H) {x : V} {d : D} (r : RpD K H x d) (h : d.flat = true) : ∀ {ys : List V} {ts : List T} {f : List Addr}, RpTs K F H ys ts f → (ts.all fun t => t.er.flat) = true →
    ys.all flatV = true ∧ (ys.filter fun y => eqV y x).length = (ts.filter fun t => eqD t.er d).length
  | _, _, _, .nil, _ => ⟨rfl, rfl⟩
  | _, _, _, .cons a b, e => by
    rw [List.all_cons, Bool.and_eq_true] at e
    have q := a.read hF
    obtain ⟨h1, h2⟩ := filt_of hF r h b e.2
    refine ⟨by rw [List.all_cons, flatV_of q e.1, h1]; rfl, ?_⟩
    rw [List.filter_cons, List.filter_cons, eqV_of q r e.1 h]
    split
    · rw [List.length_cons, List.length_cons, h2]
    · exact h2
theorem joinL_ok {a : List Nat} (ha : okS a = true) : ∀ {ss : List (List Nat)}, (∀ s ∈ ss, okS s = true) → (TL.joinL a ss).length ≤ (ss.map List.length).sum + ss.length * a.length ∧ ∀ c ∈ TL.joinL a ss, c < 0x110000
  | [], _ => ⟨by simp [TL.joinL], fun c h => by simp [TL.joinL] at h⟩
  | [s], h => by
    have := h s (by simp)
    unfold okS at this
    simp only [Bool.and_eq_true, decide_eq_true_eq, List.all_eq_true] at this
    exact ⟨by simp [TL.joinL], fun c hc => this.2 c (by simpa [TL.joinL] using hc)⟩
  | s :: s' :: r, h => by
    obtain ⟨h1, h2⟩ := joinL_ok ha (ss := s' :: r) fun x hx => h x (List.mem_cons_of_mem _ hx)
    have hs := h s (by simp)
    unfold okS at hs ha
    simp only [Bool.and_eq_true, decide_eq_true_eq, List.all_eq_true] at hs ha
    refine ⟨?_, fun c hc => ?_⟩
    · simp only [TL.joinL, List.length_append, List.map_cons, List.sum_cons, List.length_cons, Nat.add_mul, Nat.one_mul] at h1 ⊢
      omega
    · simp only [TL.joinL, List.mem_append] at hc
      rcases hc with hc | hc | hc
      · exact hs.2 c hc
      · exact ha.2 c hc
      · exact h2 c hc
theorem methT_ok {K : W.Frag} {W : WX} {B : Base} {F H : Hp} {σ : L2.St} {Γ : Env} {tmp fa fb : List Addr} {m : MF} {x y : V} {a b : T} {Q : VK} (rel : Rel K B F H σ Γ (fb ++ (fa ++ tmp))) (ra : RpT K F H x a fa) (rb : RpT K F H y b fb)
    (P : Post K G W B F H σ tmp (rT K) (R.op (methT m a b) Γ) Q) : rM K m x [y] H Q := by
  have hc : ∀ c, tmp.count c ≤ (fb ++ (fa ++ tmp)).count c := fun c => by simp only [List.count_append]; omega
  cases m with
  | join =>
    simp only [methT] at P
    split at P
    · rename_i s t
      obtain ⟨z, rfl, h1, h2, rfl⟩ := str_inv ra
      split at P
      · rename_i ss e
        split at P
        · rename_i hl
          cases e1 : asQ b with
          | none => rw [e1] at e; cases e
          | some ts =>
            rw [e1] at e
            obtain ⟨p, xs, g, rfl, hq, r1, _⟩ := asQ_ok e1 rel.sub rb
            obtain ⟨zs, rfl, h3, h4⟩ := strsT_ok e r1
            have e5 : zs.map (·.length) = ss.map List.length := by
              rw [← h3, List.map_map]
              exact List.map_congr_left fun z _ => strLen z
            have e6 : zs.length = ss.length := by rw [← h3, List.length_map]
            obtain ⟨j1, j2⟩ := joinL_ok h2 h4
            refine ⟨z, p, zs, rfl, rfl, hq, by rw [e5, e6, strLen, h1]; exact hl, Post.flatv (Γ := Γ) P rel hc (str_mk ?_ ?_)⟩
            · rw [TL.join_eq]
              show TL.tl (Str.join z zs) = _
              rw [TL.tl_join, ← h1, ← h3]
            · unfold okS
              simp only [Bool.and_eq_true, decide_eq_true_eq, List.all_eq_true]
              exact ⟨by rw [sizeLine_eq]; exact Nat.le_trans j1 hl, j2⟩
        · exact P.elim
      · exact P.elim
    · exact P.elim
  | find =>
    simp only [methT] at P
    split at P
    · obtain ⟨z, rfl, h1, h2, rfl⟩ := str_inv ra
      obtain ⟨z', rfl, h3, h4, rfl⟩ := str_inv rb
      refine ⟨z, z', rfl, rfl, ?_⟩
      have e1 : z = ⟨(z.cps.toList).toArray⟩ := by simp
      have e2 : z' = ⟨(z'.cps.toList).toArray⟩ := by simp
      have : Txt.find z z' = findS z.cps.toList z'.cps.toList := by unfold findS; rw [← e1, ← e2]
      rw [this, h1, h3]
      exact Post.flatv (Γ := Γ) P rel hc (.int _)
    · exact P.elim
  | count =>
    simp only [methT] at P
    split at P
    · rename_i ts e
      split at P
      · rename_i hf
        rw [Bool.and_eq_true] at hf
        obtain ⟨p, xs, g, rfl, hq, r1, _⟩ := lOnly_ok e rel.sub ra
        have rd := rb.read rel.sub
        obtain ⟨h1, h2⟩ := filt_of rel.sub rd hf.1 r1 hf.2
        exact ⟨p, xs, y, rfl, rfl, hq, flatV_of rd hf.1, h1, by rw [h2]; exact Post.flatv (Γ := Γ) P rel hc (.int _)⟩
      · exact P.elim
    · exact P.elim
theorem bm_M {X : Cx} (m : MF) {o e : Expr} {to : TE} {t : TA} {apos cpos : Pos} (ho : PE X o to) (ha : PA X [e] t) (hb : attributeBase o (Str.ofString m.nm) X.env (eval o X.env) = eval o X.env) (hl : (apos.endLine == cpos.line) = true)
    (hs : starEach (e :: []) X.env = (false, eval e X.env) :: starEach [] X.env) : PE X (.Call (.Attribute o (Str.ofString m.nm) apos) [e] [] cpos) (tBM X.K m.ty (rM X.K m) to t) := by
  have hf : ((backTo cpos (starEach (e :: []) X.env)).all (fun x => !x.1) && (backToKw cpos (keywordEach [] X.env)).all (fun x => x.1.isSome)
      && decide ((e :: []).length + ([] : List Keyword).length + (if ([] : List Keyword).isEmpty then 0 else 1) < 30)) = true := by
    rw [hs]; rfl
  cases m with
  | join => exact pe_bm PySem.F.plainAttrs_str PySem.F.slot_str_join PySem.F.type_str_join mt_join ho ha hb hf hl hs rfl
  | find => exact pe_bm PySem.F.plainAttrs_str PySem.F.slot_str_find PySem.F.type_str_find mt_find ho ha hb hf hl hs rfl
  | count => exact pe_bm PySem.F.plainAttrs_list PySem.F.slot_list_count PySem.F.type_list_count mt_cntF ho ha hb hf hl hs rfl
theorem base_of {X : Cx} {o : Expr} {n : Str} (h : ∀ env w, attributeBase o n env w = w) : attributeBase o n X.env (eval o X.env) = eval o X.env := h _ _
/-- no call without arguments: super is none -/
theorem attr_of {N sc b m e} {n : Str} (h : chkE N sc b m e = true) : ∀ env w, attributeBase e n env w = w := by
  intro env w
  cases e with
  | Call fn as kw pos =>
    cases fn with
    | Name id p =>
      cases as with
      | cons _ _ => rfl
      | nil =>
        cases kw with
        | cons _ _ => rfl
        | nil => cases m <;> simp [chkE, chkName, isGl] at h
    | _ => rfl
  | _ => rfl
theorem ok_meth {m : MF} {a b : E} (ha : Ok G a) (hb : Ok G b) : Ok G (.meth m a b) := by
  have sh : ∀ {N sc b'} {e : Expr}, chkE N sc b' (.meth m a b) e = true → ∃ x ap y cp, e = .Call (.Attribute x (Str.ofString m.nm) ap) [y] [] cp ∧ ap.endLine = cp.line ∧ chkE N sc b' a x = true ∧ chkE N sc b' b y = true := by
    intro N sc b' e c
    unfold chkE at c
    split at c
    · simp only [Bool.and_eq_true, decide_eq_true_eq] at c
      obtain ⟨⟨⟨c1, c2⟩, c3⟩, c4⟩ := c
      subst c1
      exact ⟨_, _, _, _, rfl, c2, c3, c4⟩
    · cases c
  have pe : ∀ X W b' e, Gd X G W b' → chkE X.N X.env.scope b' (.meth m a b) e = true → PE X e (TE' X.K G W (.meth m a b)) := by
    intro X W b' e g c
    obtain ⟨x, ap, y, cp, rfl, c1, c2, c3⟩ := sh c
    refine PE.imp (bm_M m (ha.pe X W b' x g c2) (arg1 hb g c3) (attr_of c2 _ _) (by rw [c1]; exact beq_self_eq_true _) (star_of (chk_notStar c3))) ?_
    rintro σ H Q ⟨B, F, Γ, tmp, rel, P⟩
    refine ⟨B, F, Γ, tmp, rel, (P.bind (rep := rT X.K) (fp := [])).imp ?_⟩
    rintro x H1 ⟨ta, Γ1, F1, fa, rel1, ra, sH1, sF1, P1⟩
    split at P1
    · rename_i ht
      refine ⟨?_, B, F1, Γ1, fa ++ tmp, rel1, (P1.bind (rep := rT X.K) (fp := fa)).imp ?_⟩
      · cases m with
        | join =>
          simp only [mTy] at ht
          split at ht
          · obtain ⟨z, rfl, _⟩ := str_inv ra; exact rfl
          · cases ht
        | find =>
          simp only [mTy] at ht
          split at ht
          · obtain ⟨z, rfl, _⟩ := str_inv ra; exact rfl
          · cases ht
        | count =>
          simp only [mTy] at ht
          cases e : lOnly ta with
          | none => rw [e] at ht; cases ht
          | some ts =>
            obtain ⟨p, xs, g, rfl, hq, r1, _⟩ := lOnly_ok e rel1.sub ra
            exact .inl ⟨rfl, _, hq⟩
      · rintro y H2 ⟨tb, Γ2, F2, fb, rel2, rb, sH2, sF2, P2⟩
        exact methT_ok (Γ := Γ2) rel2 (ra.grow sF2 sH2) rb P2
    · exact P1.elim
  refine ⟨pe, fun X W b' e g c => ?_, pw_no fun N sc b op vs pos => rfl⟩
  obtain ⟨x, ap, y, cp, rfl, c1, c2, c3⟩ := sh c
  exact tB_of (pe X W b' _ g c) fun _ => rfl
end
end Tv

namespace Tv
open PySem PySem.Spec PyProof.Rows L2

/-! ### targets -/
def gNames : List Nat → TGs
  | [] => gNil
  | i :: is => gCons (gName i) (gNames is)
def gTg (K : W.Frag) : Tg → TG
  | .nm i => gName i
  | .tp is => gTup K is.length (gNames is)
theorem stB_loc {sc : Scope} {b : CP} {x : Str} (h : stB sc b x = true) : Loc sc x := by
  unfold stB at h
  simp only [Bool.or_eq_true, Bool.and_eq_true, decide_eq_true_eq] at h
  rcases h with h | h
  · exact .inl h
  · exact .inr h.2
section
variable {G : Glob} {X : Cx} {W : WX} {b : CP}
theorem stB_fn (g : Gd X G W b) {x : Str} (h : stB X.env.scope b x = true) : X.fn x = true ∨ X.env.scope.names.lookup x = some .local := by
  unfold stB at h
  simp only [Bool.or_eq_true, Bool.and_eq_true, decide_eq_true_eq, Bool.not_eq_true'] at h
  rcases h with h | h
  · exact .inr h
  · exact .inl (g.st h.1 x)
theorem pg_st (g : Gd X G W b) {i : Nat} {e : Expr} (h : chkSt X.N X.env.scope b i e = true) : ∃ x pos, e = .Name x pos ∧ PG X e (gName i) := by
  unfold chkSt at h
  split at h
  · simp only [Bool.and_eq_true, decide_eq_true_eq] at h
    exact ⟨_, _, rfl, pg_name g.nd h.1 (stB_loc h.2) (stB_fn g h.2)⟩
  · cases h
theorem pg_sts (g : Gd X G W b) : ∀ {is : List Nat} {es : List Expr}, chkSts X.N X.env.scope b is es = true → PGs X es (gNames is) ∧ es.length = is.length ∧ (assignEach es X.env).length = is.length ∧ (assignEach es X.env).findIdx? (·.1) = none
  | [], [], _ => ⟨pgs_nil, rfl, rfl, rfl⟩
  | [], _ :: _, h => by simp [chkSts] at h
  | _ :: _, [], h => by simp [chkSts] at h
  | i :: is, e :: es, h => by
    simp only [chkSts, Bool.and_eq_true] at h
    obtain ⟨x, pos, rfl, p⟩ := pg_st g h.1
    obtain ⟨q, l, l2, f⟩ := pg_sts g h.2
    refine ⟨pgs_cons p q, by simp [l], ?_, ?_⟩
    · show ((false, _) :: assignEach es X.env).length = _
      simp [l2]
    · show ((false, _) :: assignEach es X.env).findIdx? (·.1) = none
      rw [List.findIdx?_cons]
      simp [f]
theorem pg_tg (g : Gd X G W b) {tg : Tg} {e : Expr} (h : chkTg X.N X.env.scope b tg e = true) : PG X e (gTg X.K tg) := by
  cases tg with
  | nm i => obtain ⟨x, pos, rfl, p⟩ := pg_st g (show chkSt X.N X.env.scope b i e = true from h); exact p
  | tp is =>
    simp only [chkTg] at h
    split at h
    · obtain ⟨q, l, l2, f⟩ := pg_sts g h
      exact pg_tup g.calm q l2 f
    · cases h
end
theorem wipe_len (σ : L2.St) (vs : List Nat) : (wipe σ vs).length = σ.length := wipe_length σ vs
theorem wipe_set_in {σ : L2.St} {i : Nat} {o : Option V} : ∀ {vs : List Nat}, (i ∈ vs → wipe (σ.set i o) vs = wipe σ vs) ∧ (i ∉ vs → wipe (σ.set i o) vs = (wipe σ vs).set i o)
  | [] => ⟨fun h => (by simp at h), fun _ => rfl⟩
  | v :: vs => by
    obtain ⟨h1, h2⟩ := wipe_set_in (σ := σ) (i := i) (o := o) (vs := vs)
    refine ⟨fun h => ?_, fun h => ?_⟩
    · unfold wipe
      by_cases m : i ∈ vs
      · rw [h1 m]
      · have e : i = v := (List.mem_cons.mp h).resolve_right m
        subst e
        rw [h2 m, List.set_set]
    · unfold wipe
      simp only [List.mem_cons, not_or] at h
      rw [h2 h.2, List.set_comm _ _ (fun e => h.1 e)]
theorem wipe_get {σ : L2.St} {v : Nat} : ∀ {vs : List Nat}, v ∉ vs → (wipe σ vs)[v]? = σ[v]?
  | [], _ => rfl
  | u :: us, h => by
    simp only [List.mem_cons, not_or] at h
    show ((wipe σ us).set u none)[v]? = _
    rw [List.getElem?_set_ne (Ne.symm h.1)]
    exact wipe_get h.2
theorem wipe_cons {σ : L2.St} {v : Nat} {vs : List Nat} : wipe σ (v :: vs) = (wipe σ vs).set v none := rfl
theorem wipe_idem {σ : L2.St} {vs : List Nat} : wipe (wipe σ vs) vs = wipe σ vs := by
  have key : ∀ (us vs : List Nat), (∀ u ∈ us, u ∈ vs) → wipe (wipe σ us) vs = wipe σ vs := by
    intro us
    induction us with
    | nil => intro vs _; rfl
    | cons u us ih =>
      intro vs h
      rw [wipe_cons, (wipe_set_in (σ := wipe σ us) (i := u) (o := none) (vs := vs)).1 (h u (by simp))]
      exact ih vs fun x hx => h x (by simp [hx])
  exact key vs vs fun _ h => h
section
variable {K : W.Frag} {B : Base} {F H : Hp} {σ : L2.St} {Γ Γ' : Env} {tmp : List Addr}
theorem Rel.storeV {x : V} {d : D} (r : Rel K B F H σ Γ tmp) (h : RpD K F x d) {i : Nat} (hi : i < Γ.length) : Rel K B F H (σ.set i (some x)) (Γ.set i (some (.v d))) tmp :=
  Rel.store (f1 := []) r (.v h) rfl hi
theorem setSlots_ok : ∀ {is : List Nat} {ds : List D} {xs : List V} {σ : L2.St} {Γ Γ' : Env} {Q : L2.St → Hp → Prop}, setSlots Γ is ds = some Γ' → Rel K B F H σ Γ tmp → RpDs K F xs ds →
    (∀ σ', Rel K B F H σ' Γ' tmp → (∀ vs : List Nat, (∀ i ∈ is, i ∈ vs) → wipe σ' vs = wipe σ vs) → Q σ' H) → gNames is xs σ H Q ∧ xs.length = is.length
  | [], [], _, _, _, _, _, e, r, .nil, q => by
    cases e
    exact ⟨⟨rfl, q _ r fun _ _ => rfl⟩, rfl⟩
  | [], _ :: _, _, _, _, _, _, e, _, _, _ => by cases e
  | _ :: _, [], _, _, _, _, _, e, _, _, _ => by cases e
  | i :: is, d :: ds, _, σ, Γ, Γ', Q, e, r, .cons (x := x) (xs := xs) a b, q => by
    unfold setSlots at e
    split at e
    · rename_i hi
      have r2 := r.storeV a hi
      obtain ⟨h1, h2⟩ := setSlots_ok e r2 b fun σ' r' w => q σ' r' fun vs hv => by
        rw [w vs fun j hj => hv j (by simp [hj]), (wipe_set_in (vs := vs)).1 (hv i (by simp))]
      exact ⟨⟨x, xs, rfl, h1⟩, by simp [h2]⟩
    · cases e
theorem bindTg_ok {tg : Tg} {d : D} {x : V} {Q : L2.St → Hp → Prop} (e : bindTg tg d Γ = some Γ') (r : Rel K B F H σ Γ tmp) (h : RpD K F x d)
    (q : ∀ σ', Rel K B F H σ' Γ' tmp → (∀ vs : List Nat, (∀ i ∈ tg.slots, i ∈ vs) → wipe σ' vs = wipe σ vs) → Q σ' H) : gTg K tg x σ H Q := by
  cases tg with
  | nm i =>
    simp only [bindTg] at e
    split at e
    · rename_i hi
      cases e
      exact q _ (r.storeV h hi) fun vs hv => (wipe_set_in (vs := vs)).1 (hv i (by simp [Tg.slots]))
    · cases e
  | tp is =>
    simp only [bindTg] at e
    split at e
    · cases h with
      | tup hs rs =>
        obtain ⟨h1, h2⟩ := setSlots_ok e r rs fun σ' r' w => q σ' r' w
        exact ⟨_, _, rfl, SqT.mono' r.sub hs, h2, h1⟩
    · cases e
/-- an item that a walk gives -/
theorem YD_ok {F0 : Hp} {ds : List D} {i : Nat} {x : V} {H' : Hp} (y : YD K F0 ds i H x H') (r : Rel K B F H σ Γ tmp) (hF : Sub F0 F) :
    ∃ d F', ds[i]? = some d ∧ Rel K B F' H' σ Γ tmp ∧ RpD K F' x d ∧ Sub F F' ∧ Sub H H' := by
  obtain ⟨d, hd, h⟩ := y
  rcases h with ⟨rfl, h⟩ | ⟨T, a, b, x1, x2, rfl, rfl, h2, rfl, h4, h5⟩
  · exact ⟨d, F, hd, r, h.mono hF, Sub.rfl, Sub.rfl⟩
  · have r1 := r.alloc (o := .tup [x1, x2]) h2
    have r2 := r1.freezeTmp (f1 := [T]) (g := tmp) fun c => by rw [List.count_cons, List.count_cons, List.count_nil]; omega
    refine ⟨_, _, hd, r2, .tup (.of (by unfold addF; rw [if_pos (by simp)]; exact upd_same)) ?_, addF_sub r1.sub, upd_sub h2⟩
    have s := hF.trans (addF_sub (f := [T]) r1.sub)
    exact .cons (h4.mono s) (.cons (h5.mono s) .nil)
theorem Rel.wipe : ∀ (vs : List Nat), Rel K B F H σ Γ tmp → Rel K B F H (L2.wipe σ vs) (wipeE Γ vs) tmp
  | [], r => r
  | v :: vs, r => (Rel.wipe vs r).forget v none
theorem set_back {σ : L2.St} {v : Nat} {o : Option V} (h : σ[v]? = some o) : (σ.set v none).set v o = σ := by
  rw [List.set_set]
  have hi : v < σ.length := (List.getElem?_eq_some_iff.mp h).1
  apply List.ext_getElem?
  intro j
  by_cases hj : v = j
  · subst hj; rw [List.getElem?_set_self hi, h]
  · rw [List.getElem?_set_ne hj]
theorem Rel.unwipe {Γ1 : Env} : ∀ (vs : List Nat) {Γ : Env} {σ : L2.St}, vs.Nodup → Rel K B F H (L2.wipe σ vs) Γ tmp → (∀ (v : Nat) (d : D), keepV (Γ1[v]?) = some (.v d) → ∃ x, σ[v]? = some (some x) ∧ RpD K F x d) → Rel K B F H σ (restE Γ1 Γ vs) tmp
  | [], _, _, _, r, _ => r
  | v :: vs, Γ, σ, nd, r, h => by
    unfold restE
    rw [wipe_cons] at r
    rw [List.nodup_cons] at nd
    refine Rel.unwipe vs nd.2 ?_ h
    cases e : σ[v]? with
    | none =>
      have hl : (L2.wipe σ vs).length ≤ v := by rw [wipe_len]; exact List.getElem?_eq_none_iff.mp e
      have hl2 : Γ.length ≤ v := by rw [← r.length, List.length_set]; exact hl
      rw [List.set_eq_of_length_le hl] at r
      rw [List.set_eq_of_length_le hl2]
      exact r
    | some o =>
      have ew : (L2.wipe σ vs)[v]? = some o := by rw [wipe_get nd.1]; exact e
      have r1 := r.forget v o
      rw [set_back ew] at r1
      cases ek : keepV (Γ1[v]?) with
      | none => exact r1
      | some t =>
        have et : ∃ d, t = .v d := by
          unfold keepV at ek
          split at ek
          · exact ⟨_, (Option.some.inj ek).symm⟩
          · cases ek
        obtain ⟨d, rfl⟩ := et
        obtain ⟨x, hx, rx⟩ := h v d ek
        rw [e] at hx
        cases hx
        have := r1.putBack (f1 := []) (tmp := tmp) (.v rx) rfl ew
        rw [List.set_set] at this
        exact this
end

/-! ### comprehensions -/
def CkC (N : List Str) (sc : Scope) (b : CP) : OE → List Expr → Prop
  | .no, [] => True
  | .so k, [y] => chkE N sc b k y = true
  | _, _ => False
def OkC (G : Glob) (m : OE) : Prop := ∀ X W b es, Gd X G W b → CkC X.N X.env.scope b m es → PTs X es (TM X.K G W (fun _ _ v a fp => v = a ∧ fp = []) (evC G.cl G.con m))
section
variable {G : Glob}
theorem PTs.imp {X : Cx} {e : List Expr} {t t' : TT} (h : PTs X e t) (i : ∀ σ H Q, t' σ H Q → t σ H Q) : PTs X e t' := ⟨fun pins s σ H Q I q => h.run pins s σ H Q I (i σ H Q q)⟩
theorem okc_no : OkC G .no := by
  intro X W b es g c
  cases es with
  | nil =>
    refine PTs.imp pts_nil fun σ H Q h => ?_
    obtain ⟨B, F, Γ, tmp, rel, P⟩ := h
    exact P true F H [] (by simpa using rel) ⟨rfl, rfl⟩ Sub.rfl Sub.rfl
  | cons e es => exact c.elim
theorem okc_so {m : E} (hm : Ok G m) : OkC G (.so m) := by
  intro X W b es g c
  cases es with
  | nil => exact c.elim
  | cons e es =>
    cases es with
    | cons _ _ => exact c.elim
    | nil =>
      refine PTs.imp (pts_one (hm.pt X W b e g c)) fun σ H Q h => ?_
      refine one (β := Bool) (rep := fun _ _ v a fp => v = a ∧ fp = []) (r := fun x H Q => ∃ c, x = V.bl c ∧ Q c H) (fun B F H σ Γ tmp fa x ta Q rel ra P => ?_) σ H Q h
      split at P
      · obtain ⟨rfl, rfl⟩ := bl_inv ra
        exact ⟨_, rfl, P _ F H [] (by simpa using rel) ⟨rfl, rfl⟩ Sub.rfl Sub.rfl⟩
      · exact P.elim
/-- within a comprehension nothing is let out -/
def W0 : WX := fun _ _ _ _ => False
theorem Gd.blk {X : Cx} {W : WX} {b : CP} (g : Gd X G W b) (s : Shared) (H : Hp) (scope : Scope) (C : Addr) (cl : List (Str × Addr)) (fp : List Addr) : Gd (X.blk s H scope (compEnvC scope cl C X.env) fp) G W0 ⟨true, b.fns⟩ where
  nd := g.nd
  calm := g.calm
  own := PassesOwn.never
  tk := takes0
  hu := g.hu
  st := fun h => by cases h
  con := g.con
  blt := g.blt
  fn := g.fn
/-- a step's outcome, seen from a wish for nothing -/
theorem Post.w0 {α β : Type} {K : W.Frag} {B : Base} {F H : Hp} {σ : L2.St} {tmp : List Addr} {rep : Hp → Hp → β → α → List Addr → Prop} {r : R α} {Q : β → Hp → Prop} (hb : r ≠ .bad) (he : ∀ x Γ, r ≠ .ex x Γ)
    (h : ∀ a Γ, r = .ok a Γ → ∀ v F' H' fp, Rel K B F' H' σ Γ (fp ++ tmp) → rep F' H' v a fp → Sub H H' → Sub F F' → Q v H') : Post K G W0 B F H σ tmp rep r Q := by
  cases r with
  | bad => exact hb rfl
  | ok a Γ => exact h a Γ rfl
  | ex x Γ => exact absurd rfl (he x Γ)
end
end Tv

namespace Tv
open PySem PySem.Spec PyProof.Rows L2

section
variable {K : W.Frag} {B : Base} {F H : Hp} {σ : L2.St} {Γ Γ' : Env} {tmp : List Addr}
/-- a thing in hand is written -/
theorem Rel.mut (r : Rel K B F H σ Γ tmp) {a : Addr} {o : HO} (m : a ∈ tmp) : Rel K B F (upd H a o) σ Γ tmp := by
  obtain ⟨f, h1, h2, h3⟩ := r.env
  have hm := h3 a (.inr m)
  have nf : a ∉ f := fun q => by
    have e1 := List.count_pos_iff.mpr q
    have e2 := List.count_pos_iff.mpr m
    have := h2 a; omega
  refine ⟨⟨f, h1.frame Sub.rfl fun b hb => upd_ne fun e => nf (e ▸ hb), h2, fun b hb => ?_⟩, fun b u e => ?_, fun b u e => ?_, r.keepF, r.newF⟩
  · obtain ⟨q1, q2, q3⟩ := h3 b hb
    refine ⟨q1, q2, ?_⟩
    by_cases e : b = a
    · subst e; rw [upd_same]; simp
    · rw [upd_ne e]; exact q3
  · rw [upd_ne fun q => by subst q; rw [hm.1] at e; cases e]; exact r.sub b u e
  · rw [upd_ne fun q => by subst q; rw [hm.2.1] at e; cases e]; exact r.keep b u e
theorem Rel.cnt (r : Rel K B F H σ Γ tmp) (a : Addr) : tmp.count a ≤ 1 := by
  obtain ⟨f, h1, h2, h3⟩ := r.env
  have := h2 a; omega
end
theorem noBs_append {ts us : List T} : T.noBs (ts ++ us) = (T.noBs ts && T.noBs us) := by
  rw [noBs_all, noBs_all, noBs_all, List.all_append]
theorem ownP_2 {N : List Str} {own : List Nat} (h : (ownP N own).map (·.2) = own) : (ownP N own).map (fun x => x.2) = own := h
section
variable {G : Glob}
theorem lc_read {K : W.Frag} {W : WX} {own : List Nat} {tg : Tg} {it : I} {c : OE} {e : E} (nd : own.Nodup) (hs : ∀ i ∈ tg.slots, i ∈ own) :
    ∀ σ H Q, TE' K G W (.lc own tg it c e) σ H Q → tLc (TM K G W (rI' K) (evI G.cl G.con it)) (gTg K tg) (TM K G W0 (fun _ _ v a fp => v = a ∧ fp = []) (evC G.cl G.con c)) (TE' K G W0 e) own σ H Q := by
  rintro σ H Q ⟨B, F, Γ, tmp, rel, P⟩
  refine ⟨B, F, Γ, tmp, rel, (Post.bind (rep := rI' K) (fp := []) P).imp ?_⟩
  rintro J H1 ⟨ds, Γ1, F1, fp1, rel1, ⟨rfl, wk⟩, sH1, sF1, P1⟩
  have rel1 : Rel K B F1 H1 σ Γ1 tmp := by simpa using rel1
  split at P1
  case isFalse => exact P1.elim
  rename_i hlen
  intro D hD
  -- a turn
  generalize hstep : (fun d Γ2 => match bindTg tg d Γ2 with
      | none => R.bad
      | some Γ3 => (evC G.cl G.con c Γ3).bind fun b Γ4 => match b with
        | false => R.ok none (wipeE Γ4 own)
        | true => (evE G.cl G.con e Γ4).bind fun t Γ5 => if t.noB = true then R.ok (some t) (wipeE Γ5 own) else R.bad) = step at P1
  refine lc_it wk (fun i H => ∃ F Γ ts xs fs, Rel K B F H (wipe σ own) Γ (D :: (fs ++ tmp)) ∧ H D = some (.lst xs) ∧ RpTs K F H xs ts fs ∧ ts.length ≤ i ∧ T.noBs ts = true ∧ Sub F1 F ∧ Sub H1 H ∧
    Post K G W B F1 H1 σ tmp (rT K) ((lcL step (ds.drop i) Γ ts).bind fun ts Γ6 => .ok (.l ts) (restE Γ1 Γ6 own)) Q) ?_ ?_ ?_ ?_
  · exact ⟨F1, wipeE Γ1 own, [], [], [], by simpa using (rel1.wipe own).alloc hD, upd_same, .nil, Nat.le_refl _, rfl, Sub.rfl, upd_sub hD, P1⟩
  · rintro i H' hi ⟨F2, Γ2, ts, xs, fs, r2, h2, rp, hl, nb, sF, sH, P2⟩
    exact sF.trans r2.sub
  · rintro i x H2 H3 hi ⟨F2, Γ2, ts, xs, fs, r2, h2, rp, hl, nb, sF, sH, P2⟩ y
    obtain ⟨d, F3, hd, r3, rdx, sF3, sH3⟩ := YD_ok y r2 sF
    have ed : ds.drop i = d :: ds.drop (i + 1) := by
      rw [List.drop_eq_getElem_cons hi]
      rw [List.getElem?_eq_getElem hi] at hd
      rw [Option.some.inj hd]
    rw [ed] at P2
    simp only [lcL] at P2
    have es := congrFun (congrFun hstep.symm d) Γ2
    cases eb : bindTg tg d Γ2 with
    | none =>
      have e3 : step d Γ2 = .bad := by rw [es, eb]
      rw [e3] at P2; exact P2.elim
    | some Γ3 =>
      refine bindTg_ok eb r3 rdx fun σ2 r4 w4 => ?_
      have w4 : wipe σ2 own = wipe σ own := by rw [w4 own hs, wipe_idem]
      refine ⟨w4, ⟨B, F3, Γ3, _, r4, Post.w0 (fun q => ?_) (fun x Γx q => ?_) ?_⟩⟩
      · have e3 : step d Γ2 = .bad := by rw [es, eb]; simp only [q]; rfl
        rw [e3] at P2; exact P2
      · have e3 : step d Γ2 = .ex x Γx := by rw [es, eb]; simp only [q]; rfl
        rw [e3] at P2; exact P2
      · rintro b Γ4 q v F4 H4 fp r4' ⟨rfl, rfl⟩ sH4 sF4
        have hD3 : H4 D = some (.lst xs) := sH4 _ _ (sH3 _ _ h2)
        cases v with
        | false =>
          have e3 : step d Γ2 = .ok none (wipeE Γ4 own) := by rw [es, eb]; simp only [q]; rfl
          rw [e3] at P2
          rw [if_neg Bool.false_ne_true]
          have r5 : Rel K B F4 H4 σ2 Γ4 (D :: (fs ++ tmp)) := by simpa using r4'
          have r6 := r5.wipe own
          rw [w4] at r6
          exact ⟨F4, wipeE Γ4 own, ts, xs, fs, r6, hD3, (rp.grow (sF3.trans sF4) (sH3.trans sH4)), by omega, nb, (sF.trans sF3).trans sF4, (sH.trans sH3).trans sH4, P2⟩
        | true =>
          rw [if_pos rfl]
          have r5 : Rel K B F4 H4 σ2 Γ4 (D :: (fs ++ tmp)) := by simpa using r4'
          refine ⟨B, F4, Γ4, _, r5, Post.w0 (fun q5 => ?_) (fun x Γx q5 => ?_) ?_⟩
          · have e3 : step d Γ2 = .bad := by rw [es, eb]; simp only [q, R.bind, q5]
            rw [e3] at P2; exact P2
          · have e3 : step d Γ2 = .ex x Γx := by rw [es, eb]; simp only [q, R.bind, q5]
            rw [e3] at P2; exact P2
          · intro t Γ5 q5 v5 F5 H5 fp5 r7 rt5 sH5 sF5
            cases hnb : t.noB with
            | false =>
              have e3 : step d Γ2 = .bad := by rw [es, eb]; simp only [q, R.bind, q5, hnb]; rfl
              rw [e3] at P2; exact P2.elim
            | true =>
              have e3 : step d Γ2 = .ok (some t) (wipeE Γ5 own) := by rw [es, eb]; simp only [q, R.bind, q5, hnb]; rfl
              rw [e3] at P2
              have hD5 : H5 D = some (.lst xs) := sH5 _ _ hD3
              have rp5 := rp.grow ((sF3.trans sF4).trans sF5) ((sH3.trans sH4).trans sH5)
              refine ⟨xs, hD5, by rw [rp.length, sizeLine_eq]; exact Nat.lt_of_lt_of_le (Nat.lt_of_le_of_lt hl hi) hlen, ?_⟩
              have cnt : ∀ a, (fp5 ++ (D :: (fs ++ tmp))).count a ≤ 1 := r7.cnt
              have n1 : D ∉ fs := fun m => by
                have q := cnt D
                have := List.count_pos_iff.mpr m
                rw [List.count_append, List.count_cons_self, List.count_append] at q; omega
              have n2 : D ∉ fp5 := fun m => by
                have q := cnt D
                have := List.count_pos_iff.mpr m
                rw [List.count_append, List.count_cons_self, List.count_append] at q; omega
              have r8 := (r7.wipe own).mut (a := D) (o := .lst (xs ++ [v5])) (by simp)
              rw [w4] at r8
              have fr : RpTs K F5 (upd H5 D (.lst (xs ++ [v5]))) (xs ++ [v5]) (ts ++ [t]) (fs ++ (fp5 ++ [])) :=
                (rp5.frame Sub.rfl nb fun a ha => upd_ne (by rintro rfl; exact n1 ha)).append (.cons (rt5.frame Sub.rfl hnb fun a ha => upd_ne (by rintro rfl; exact n2 ha)) .nil)
              have sHu : Sub H1 (upd H5 D (.lst (xs ++ [v5]))) := fun a o ha => by
                rw [upd_ne fun q => by subst q; rw [hD] at ha; cases ha]
                exact sH5 _ _ (sH4 _ _ (sH3 _ _ (sH _ _ ha)))
              refine ⟨F5, wipeE Γ5 own, ts ++ [t], xs ++ [v5], fs ++ (fp5 ++ []), r8.less fun a => ?_, upd_same, fr, by simp; omega, by rw [noBs_append, nb]; simp [T.noBs, hnb], ((sF.trans sF3).trans sF4).trans sF5, sHu, P2⟩
              simp only [List.count_append, List.count_cons, List.count_nil]; omega
  · rintro H2 ⟨F2, Γ2, ts, xs, fs, r2, h2, rp, hl, nb, sF, sH, P2⟩
    rw [List.drop_length] at P2
    refine P2 (.ref D) F2 H2 (D :: fs) ?_ (.l h2 rp) sH sF
    refine Rel.unwipe own nd r2 fun v d hk => ?_
    have : Γ1[v]? = some (some (.v d)) := by
      unfold keepV at hk
      split at hk
      · rename_i e; cases hk; exact e
      · cases hk
    obtain ⟨x, f, hx, rt, _⟩ := rel1.get this
    cases rt with
    | v rd => exact ⟨x, hx, rd.mono sF⟩
theorem blk_scope {X : Cx} {s : Shared} {H : Hp} {scope : Scope} {C : Addr} {cl : List (Str × Addr)} {fp : List Addr} : (X.blk s H scope (compEnvC scope cl C X.env) fp).env.scope = relS scope X.env.scope := rfl
theorem chk_lc {N sc b own tg it c m} {e : Expr} (h : chkE N sc b (.lc own tg it c m) e = true) : ∃ x t iter ifs scope pos, e = .ListComp x [⟨t, iter, ifs, 0⟩] scope pos ∧ chkI N sc b it t iter = true ∧ own.Nodup ∧ blkC N sc scope (ownP N own) = true ∧ (ownP N own).map (·.2) = own ∧
    chkTg N (relS scope sc) ⟨true, b.fns⟩ tg t = true ∧ (∀ i ∈ tg.slots, i ∈ own) ∧ CkC N (relS scope sc) ⟨true, b.fns⟩ c ifs ∧ chkE N (relS scope sc) ⟨true, b.fns⟩ m x = true := by
  unfold chkE at h
  split at h
  · rename_i x t iter ifs scope pos
    simp only [Bool.and_eq_true, decide_eq_true_eq, List.all_eq_true, List.contains_iff_mem] at h
    obtain ⟨⟨⟨⟨⟨⟨⟨h1, h2⟩, h3⟩, h4⟩, h5⟩, h6⟩, h7⟩, h8⟩ := h
    refine ⟨_, _, _, _, _, _, rfl, h1, h2, h3, h4, h5, h6, ?_, h8⟩
    cases c with
    | no => cases ifs with
      | nil => trivial
      | cons _ _ => cases h7
    | so k => cases ifs with
      | nil => cases h7
      | cons y r => cases r with
        | nil => exact h7
        | cons _ _ => cases h7
  · cases h
/-- the parts of a comprehension -/
structure LcP (G : Glob) (X : Cx) (W : WX) (own : List Nat) (tg : Tg) (it : I) (c : OE) (m : E) (x t iter : Expr) (ifs : List Expr) (scope : Scope) : Prop where
  hi : PI X t iter (TM X.K G W (rI' X.K) (evI G.cl G.con it))
  ok : BlkOk X.N X.env.scope scope (ownP X.N own)
  hg : ∀ (s : Shared) (H : Hp) (C : Addr) (cl : List (Str × Addr)) (fp : List Addr), PG (X.blk s H scope (compEnvC scope cl C X.env) fp) t (gTg X.K tg)
  ht : ∀ (s : Shared) (H : Hp) (C : Addr) (cl : List (Str × Addr)) (fp : List Addr), PTs (X.blk s H scope (compEnvC scope cl C X.env) fp) ifs (TM X.K G W0 (fun _ _ v a fp => v = a ∧ fp = []) (evC G.cl G.con c))
  he : ∀ (s : Shared) (H : Hp) (C : Addr) (cl : List (Str × Addr)) (fp : List Addr), PE (X.blk s H scope (compEnvC scope cl C X.env) fp) x (TE' X.K G W0 m)
  hs : ∀ env v, foldedSetIterable iter env v = pure v
theorem lc_parts {own : List Nat} {tg : Tg} {it : I} {c : OE} {m : E} (hi : OkI G it) (hc : OkC G c) (hm : Ok G m) {X : Cx} {W : WX} {b : CP} (g : Gd X G W b) {x t iter : Expr} {ifs : List Expr} {scope : Scope} (h1 : chkI X.N X.env.scope b it t iter = true)
    (h3 : blkC X.N X.env.scope scope (ownP X.N own) = true) (h5 : chkTg X.N (relS scope X.env.scope) ⟨true, b.fns⟩ tg t = true)
    (h7 : CkC X.N (relS scope X.env.scope) ⟨true, b.fns⟩ c ifs) (h8 : chkE X.N (relS scope X.env.scope) ⟨true, b.fns⟩ m x = true) : LcP G X W own tg it c m x t iter ifs scope where
  hi := (hi X W b t iter g h1).1
  ok := blkOk_by h3
  hg := fun s H C cl fp => pg_tg (X := X.blk s H scope (compEnvC scope cl C X.env) fp) (g.blk s H scope C cl fp) h5
  ht := fun s H C cl fp => hc (X.blk s H scope (compEnvC scope cl C X.env) fp) W0 _ ifs (g.blk s H scope C cl fp) h7
  he := fun s H C cl fp => hm.pe (X.blk s H scope (compEnvC scope cl C X.env) fp) W0 _ x (g.blk s H scope C cl fp) h8
  hs := fun env v => by
    have := (hi X W b t iter g h1).2
    cases iter with
    | Set a k p => cases this
    | _ => rfl
theorem ok_lc {own : List Nat} {tg : Tg} {it : I} {c : OE} {m : E} (hi : OkI G it) (hc : OkC G c) (hm : Ok G m) : Ok G (.lc own tg it c m) := by
  have pe : ∀ X W b' e, Gd X G W b' → chkE X.N X.env.scope b' (.lc own tg it c m) e = true → PE X e (TE' X.K G W (.lc own tg it c m)) := by
    intro X W b' e g ch
    obtain ⟨x, t, iter, ifs, scope, pos, rfl, h1, h2, h3, h4, h5, h6, h7, h8⟩ := chk_lc ch
    have L := lc_parts hi hc hm g h1 h3 h5 h7 h8
    refine PE.imp (pe_lc g.calm g.nd L.hi L.ok L.hg L.ht L.he (L.hs _)) fun σ H Q h => ?_
    have := lc_read h2 h6 σ H Q h
    rw [h4]
    exact this
  refine ⟨pe, fun X W b' e g ch => ?_, pw_no fun N sc b op vs pos => rfl⟩
  obtain ⟨x, t, iter, ifs, scope, pos, rfl, _⟩ := chk_lc ch
  exact tB_of (pe X W b' _ g ch) fun _ => rfl
end

/-! ### all of them -/
mutual
theorem snd (G : Glob) : ∀ m : E, Ok G m
  | .var i => ok_var i
  | .frz i => ok_frz i
  | .mov i => ok_mov i
  | .int i => ok_int i
  | .str s => ok_str s
  | .non => ok_non
  | .bl b => ok_bl b
  | .glb x => ok_glb x
  | .bin o a b => ok_bin (snd G a) (snd G b)
  | .neg a => ok_neg (snd G a)
  | .not a => ok_not (snd G a)
  | .cmp o a b => ok_cmp (snd G a) (snd G b)
  | .isN a => ok_isN (snd G a)
  | .notN a => ok_notN (snd G a)
  | .cmp2 o p a b c => ok_cmp2 (snd G a) (snd G b) (snd G c)
  | .and a b => ok_and (snd G a) (snd G b)
  | .or a b => ok_or (snd G a) (snd G b)
  | .call f as => ok_call (sndEs G as)
  | .callB f as => ok_callB (sndEs G as)
  | .lrn a => ok_lrn (snd G a)
  | .blt f as => ok_blt (sndEs G as)
  | .meth m a b => ok_meth (snd G a) (snd G b)
  | .isi a t => ok_isi (snd G a)
  | .ix a i => ok_ix (snd G a) (snd G i)
  | .sl a lo hi => ok_sl (snd G a) (sndO G lo) (sndO G hi)
  | .rev a => ok_rev (snd G a)
  | .lst es => ok_lst (sndEs G es)
  | .tup es => ok_tup (sndEs G es)
  | .dic0 => ok_dic0
  | .lc own tg it c e => ok_lc (sndI G it) (sndC G c) (snd G e)
theorem sndO (G : Glob) : ∀ m : OE, OkO G m
  | .no => oko_no
  | .so e => oko_so (snd G e)
theorem sndC (G : Glob) : ∀ m : OE, OkC G m
  | .no => okc_no
  | .so e => okc_so (snd G e)
theorem sndEs (G : Glob) : ∀ m : Es, OkEs G m
  | .nil => ok_nil
  | .cons e es => ok_cons (snd G e) (sndEs G es)
theorem sndI (G : Glob) : ∀ m : I, OkI G m
  | .seq e => oki_seq (snd G e)
  | .rng1 a => oki_rng1 (snd G a)
  | .rng2 a b => oki_rng2 (snd G a) (snd G b)
  | .rng3 a b c => oki_rng3 (snd G a) (snd G b) (snd G c)
  | .enum e => oki_enum (snd G e)
  | .zip a b => oki_zip (snd G a) (snd G b)
  | .rvd a => oki_rvd (snd G a)
end
end Tv

namespace Tv
open PySem PySem.Spec PyProof.Rows L2

/-! ### the small statements beside the text's -/
def compScope : Expr → Option Scope
  | .ListComp _ _ s _ | .SetComp _ _ s _ | .DictComp _ _ _ s _ => some s
  | _ => none
def notComp (e : Expr) : Bool := (compScope e).isNone
def swB (v : Expr) (y : Str) (py : Pos) (env : PySem.Env) : Bool := match compScope v with
  | some s => env.blockKind == .function && env.kindOf y == some .local && py.line == v.pos.line && !(s.names.any fun (n, k) => n == y && (k == .local || k == .cell))
  | none => false
theorem sw_name {v : Expr} {y : Str} {py : Pos} {l : Nat} {env : PySem.Env} : swapsWith v (some (.Name y py)) l env = pure (swB v y py env) := by
  cases v <;> rfl
theorem sw_none {v : Expr} {l : Nat} {env : PySem.Env} (h : notComp v = true) : swapsWith v none l env = pure false := by
  cases v <;> first | rfl | (exact absurd h (by decide)) | cases h
theorem sw_sub {v o i : Expr} {p : Pos} {l : Nat} {env : PySem.Env} : swapsWithSole [.Subscript o i p] v l env = pure false := by
  cases v <;> rfl
theorem sw_tup {v : Expr} {es k} {p : Pos} {l : Nat} {env : PySem.Env} : swapsWithSole [.Tuple es k p] v l env = pure false := by
  cases v <;> rfl
theorem swst_sub {v o i : Expr} {p : Pos} {env : PySem.Env} : swappedStores [.Subscript o i p] v env = pure none := by
  cases v <;> rfl
theorem swst_tup {v : Expr} {es k} {p : Pos} {env : PySem.Env} (h : isTuple v = false) : swappedStores [.Tuple es k p] v env = pure none := by
  cases v <;> first | rfl | cases h

mutual
def chkS (N : List Str) (sc : Scope) (b : CP) : S → Stmt → Bool
  | .set i e, st => match st with
    | .Assign [.Name y py] v _ => chkSt N sc b i (.Name y py) && chkE N sc b e v
    | _ => false
  | .setF i e, st => match st with
    | .Assign [.Name y py] v _ => chkSt N sc b i (.Name y py) && chkE N sc b e v
    | _ => false
  | .setT is e, st => match st with
    | .Assign [.Tuple es _ _] v _ => chkSts N sc b is es && chkE N sc b e v && !isTuple v
    | _ => false
  | .sto i ix e, st => match st with
    | .Assign [.Subscript o k _] v _ => chkName N sc i o && chkE N sc b ix k && chkE N sc b e v
    | _ => false
  | .stoX i ix iy e, st => match st with
    | .Assign [.Subscript (.Subscript o k _) j _] v _ => chkName N sc i o && chkE N sc b ix k && chkE N sc b iy j && chkE N sc b e v
    | _ => false
  | .augV i o e, st => match st with
    | .AugAssign (.Name y py) op v _ => chkSt N sc b i (.Name y py) && chkE N sc b e v && decide (op = o.op)
    | _ => false
  | .augS i o ix e, st => match st with
    | .AugAssign (.Subscript x k _) op v _ => chkName N sc i x && chkE N sc b ix k && chkE N sc b e v && decide (op = o.op)
    | _ => false
  | .app i e, st => match st with
    | .Expr (.Call (.Attribute x n ap) [y] [] cp) _ => decide (n = Str.ofString "append") && decide (ap.endLine = cp.line) && chkName N sc i x && chkE N sc b e y
    | _ => false
  | .appX i ix e, st => match st with
    | .Expr (.Call (.Attribute (.Subscript x k _) n ap) [y] [] cp) _ => decide (n = Str.ofString "append") && decide (ap.endLine = cp.line) && chkName N sc i x && chkE N sc b ix k && chkE N sc b e y
    | _ => false
  | .ext i e, st => match st with
    | .Expr (.Call (.Attribute x n ap) [y] [] cp) _ => decide (n = Str.ofString "extend") && decide (ap.endLine = cp.line) && chkName N sc i x && chkE N sc b e y
    | _ => false
  | .ex e, st => match st with
    | .Expr v _ => chkE N sc b e v && notComp v
    | _ => false
  | .ife c x y, st => match st with
    | .If v s1 s2 _ => chkE N sc b c v && chkSs N sc b x s1 && chkSs N sc b y s2
    | _ => false
  | .for tg it body, st => match st with
    | .For t v s1 [] _ => chkTg N sc b tg t && chkI N sc b it t v && chkSs N sc b body s1
    | _ => false
  | .whl _ c body, st => match st with
    | .While v s1 [] _ => chkE N sc b c v && chkSs N sc b body s1
    | _ => false
  | .ret e, st => match st with
    | .Return (some v) _ => chkE N sc b e v
    | _ => false
  | .retN, st => match st with
    | .Return none _ => true
    | _ => false
  | .pass, st => match st with
    | .Pass _ => true
    | .Expr (.Constant (.str _) _ _) _ => true
    | _ => false
  | .brk, st => match st with
    | .Break _ => true
    | _ => false
  | .cnt, st => match st with
    | .Continue _ => true
    | _ => false
  | .dead, _ => true
def chkSs (N : List Str) (sc : Scope) (b : CP) : Ss → List Stmt → Bool
  | .nil, [] => true
  | .cons s ss, x :: xs => chkS N sc b s x && chkSs N sc b ss xs
  | _, _ => false
end

/-! ### the wishes -/
def PostS (K : W.Frag) (G : Glob) (W : WX) (B : Base) (F : Hp) (r : SR) (D : Ends) : Prop :=
  match r with
  | .bad => False
  | .nx Γ => ∀ σ F' H', Rel K B F' H' σ Γ [] → Sub F F' → D.nx σ H'
  | .bk Γ => ∀ σ F' H', Rel K B F' H' σ Γ [] → Sub F F' → D.bk σ H'
  | .ct Γ => ∀ σ F' H', Rel K B F' H' σ Γ [] → Sub F F' → D.ct σ H'
  | .rt t Γ => ∀ v σ F' H' fp, Rel K B F' H' σ Γ fp → RpT K F' H' v t fp → t.noB = true → Sub F F' → D.rt v H'
  | .ex x Γ => ∀ c d σ F' H', Rel K B F' H' σ Γ [] → Sub F F' → G.exr x c d F' H' → W c d σ H'
def TMS (K : W.Frag) (G : Glob) (W : WX) (ev : Env → SR) : TS := fun D σ H => ∃ B F Γ, Rel K B F H σ Γ [] ∧ PostS K G W B F (ev Γ) D
section
variable {K : W.Frag} {G : Glob} {W : WX} {B : Base} {F F1 H H1 : Hp} {σ : L2.St} {Γ : Env} {r : SR} {D D' : Ends}
theorem PostS.later (P : PostS K G W B F r D) (hF : Sub F F1) : PostS K G W B F1 r D := by
  cases r with
  | bad => exact P
  | nx Γ => exact fun σ F' H' a b => P σ F' H' a (hF.trans b)
  | bk Γ => exact fun σ F' H' a b => P σ F' H' a (hF.trans b)
  | ct Γ => exact fun σ F' H' a b => P σ F' H' a (hF.trans b)
  | rt t Γ => exact fun v σ F' H' fp a b c d => P v σ F' H' fp a b c (hF.trans d)
  | ex x Γ => exact fun c d σ F' H' a b e => P c d σ F' H' a (hF.trans b) e
theorem PostS.lift {e : R T} {f : T → Env → SR} (P : PostS K G W B F (liftE e f) D) (hH : True := trivial) :
    Post K G W B F H σ [] (rT K) e (fun v H' => ∃ t Γ' F' fp, Rel K B F' H' σ Γ' fp ∧ RpT K F' H' v t fp ∧ Sub H H' ∧ Sub F F' ∧ PostS K G W B F' (f t Γ') D) := by
  cases e with
  | bad => exact P
  | ok a Γ => exact fun v F' H' fp h1 h2 h3 h4 => ⟨a, Γ, F', fp, by simpa using h1, h2, h3, h4, P.later h4⟩
  | ex x Γ => exact fun c d F' H' h1 h2 h3 h4 => P c d σ F' H' h1 h3 h4
/-- with something in hand -/
theorem PostS.liftT {tmp : List Addr} {e : R T} {f : T → Env → SR} (P : PostS K G W B F (liftE e f) D) :
    Post K G W B F H σ tmp (rT K) e (fun v H' => ∃ t Γ' F' fp, Rel K B F' H' σ Γ' (fp ++ tmp) ∧ RpT K F' H' v t fp ∧ Sub H H' ∧ Sub F F' ∧ PostS K G W B F' (f t Γ') D) := by
  cases e with
  | bad => exact P
  | ok a Γ => exact fun v F' H' fp h1 h2 h3 h4 => ⟨a, Γ, F', fp, h1, h2, h3, h4, P.later h4⟩
  | ex x Γ => exact fun c d F' H' h1 h2 h3 h4 => P c d σ F' H' (h1.less fun a => by simp) h3 h4
theorem PostS.liftI {e : R (List Tv.D)} {f : List Tv.D → Env → SR} {D0 : Ends} (P : PostS K G W B F (Tv.liftI e f) D0) :
    Post K G W B F H σ [] (rI' K) e (fun J H' => ∃ ds Γ' F' fp, Rel K B F' H' σ Γ' (fp ++ []) ∧ rI' K F' H' J ds fp ∧ Sub H H' ∧ Sub F F' ∧ PostS K G W B F' (f ds Γ') D0) := by
  cases e with
  | bad => exact P
  | ok a Γ => exact fun v F' H' fp h1 h2 h3 h4 => ⟨a, Γ, F', fp, h1, h2, h3, h4, P.later h4⟩
  | ex x Γ => exact fun c d F' H' h1 h2 h3 h4 => P c d σ F' H' h1 h3 h4
end

/-! ### a list in a slot is written -/
section
variable {K : W.Frag} {B : Base} {F H : Hp} {σ : L2.St} {Γ : Env} {tmp ft : List Addr}
theorem RpTs.set : ∀ {xs : List V} {ts : List T} {g ft : List Addr} (n : Nat) {x : V} {t : T}, RpTs K F H xs ts g → RpT K F H x t ft → ∃ g', RpTs K F H (xs.set n x) (ts.set n t) g' ∧ ∀ c, g'.count c ≤ g.count c + ft.count c
  | _, _, _, ft, _, _, _, .nil, _ => ⟨[], .nil, fun c => by simp⟩
  | _, _, _, ft, 0, _, _, .cons (f := f) (g := g) a b, h => ⟨ft ++ g, .cons h b, fun c => by simp only [List.count_append]; omega⟩
  | _, _, _, ft, n + 1, _, _, .cons (f := f) (g := g) a b, h => by
    obtain ⟨g', h1, h2⟩ := RpTs.set n b h
    exact ⟨f ++ g', .cons a h1, fun c => by have := h2 c; simp only [List.count_append]; omega⟩
/-- one item out, another one in -/
theorem RpTs.swap : ∀ {xs : List V} {ts : List T} {g : List Addr} (n : Nat) {t : T}, RpTs K F H xs ts g → ts[n]? = some t → ∃ (x : V) (f0 g0 : List Addr), xs[n]? = some x ∧ RpT K F H x t f0 ∧ (∀ c : Addr, f0.count c + g0.count c = g.count c) ∧
    ∀ {H' : Hp} {y : V} {u : T} {fu : List Addr}, RpT K F H' y u fu → (∀ a ∈ g0, H' a = H a) → T.noBs ts = true → ∃ g' : List Addr, RpTs K F H' (xs.set n y) (ts.set n u) g' ∧ ∀ c, g'.count c ≤ fu.count c + g0.count c
  | _, _, _, _, _, .nil, e => by simp at e
  | _, _, _, 0, t, .cons (x := x) (f := f) (g := g) a b, e => by
    simp at e; subst e
    refine ⟨x, f, g, rfl, a, fun c => by simp only [List.count_append], fun {H' y u fu} h k nb => ⟨fu ++ g, .cons h (b.frame Sub.rfl (by simp [T.noBs] at nb; exact nb.2) k), fun c => by simp only [List.count_append]; omega⟩⟩
  | _, _, _, n + 1, t, .cons (x := x0) (f := f) (g := g) a b, e => by
    obtain ⟨x, f0, g0, h1, h2, h3, h4⟩ := RpTs.swap n (t := t) b (by simpa using e)
    refine ⟨x, f0, f ++ g0, by simpa using h1, h2, fun c => by have := h3 c; simp only [List.count_append]; omega, fun {H' y u fu} h k nb => ?_⟩
    simp [T.noBs] at nb
    obtain ⟨g', q1, q2⟩ := h4 h (fun a ha => k a (by simp [ha])) nb.2
    exact ⟨f ++ g', .cons (a.frame Sub.rfl nb.1 fun a ha => k a (by simp [ha])) q1, fun c => by have := q2 c; simp only [List.count_append]; omega⟩
/-- the list in a slot, ready to be written; ft: what is in hand -/
theorem Rel.write {i : Nat} {ts : List T} (r : Rel K B F H σ Γ (ft ++ tmp)) (e : Γ[i]? = some (some (.l ts))) : ∃ a xs g, σ[i]? = some (some (.ref a)) ∧ H a = some (.lst xs) ∧ RpTs K F H xs ts g ∧ T.noBs ts = true ∧
    (∀ c, (a :: g).count c + ft.count c ≤ 1) ∧ ∀ (bs : List Addr) (H' : Hp) (ys : List V) (us : List T) (g' : List Addr), H' a = some (.lst ys) → (∀ c ∈ bs, c ∈ a :: g) → (∀ c, c ∉ bs → H' c = H c) → (∀ c ∈ bs, H' c ≠ none) → RpTs K F H' ys us g' → T.noBs us = true → (∀ c, g'.count c ≤ g.count c + ft.count c) →
      Rel K B F H' σ (Γ.set i (some (.l us))) tmp := by
  obtain ⟨x, f, hv, rt, nb, r2⟩ := r.take e
  cases rt with
  | @l a xs _ g h rs =>
    have cnt := r2.cnt
    have nb' : T.noBs ts = true := by simpa [T.noB] using nb
    refine ⟨a, xs, g, hv, h, rs, nb', fun c => ?_, fun bs H' ys us g' ha hb hk hn rs' nb2 hc => ?_⟩
    · have := cnt c; simp only [List.count_append] at this ⊢; omega
    · have r3 : Rel K B F H' σ (Γ.set i none) ((a :: g) ++ (ft ++ tmp)) := by
        obtain ⟨f, h1, h2, h3⟩ := r2.env
        have nf : ∀ b ∈ bs, b ∉ f := fun b hb' m => by
          have e1 := List.count_pos_iff.mpr m
          have e2 := List.count_pos_iff.mpr (hb b hb')
          have := h2 b
          simp only [List.count_append] at this; omega
        refine ⟨⟨f, h1.frame Sub.rfl fun b hb' => hk b fun m => nf b m hb', h2, fun b hb' => ?_⟩, fun b u e => ?_, fun b u e => ?_, r2.keepF, r2.newF⟩
        · obtain ⟨q1, q2, q3⟩ := h3 b hb'
          refine ⟨q1, q2, ?_⟩
          by_cases m : b ∈ bs
          · exact hn b m
          · rw [hk b m]; exact q3
        · by_cases m : b ∈ bs
          · have := (h3 b (.inr (List.mem_append_left _ (hb b m)))).1
            rw [this] at e; cases e
          · rw [hk b m]; exact r2.sub b u e
        · by_cases m : b ∈ bs
          · have := (h3 b (.inr (List.mem_append_left _ (hb b m)))).2.1
            rw [this] at e; cases e
          · rw [hk b m]; exact r2.keep b u e
      have r4 : Rel K B F H' σ (Γ.set i none) ((a :: g') ++ tmp) := r3.less fun c => by
        have := hc c
        simp only [List.count_append, List.count_cons] at this ⊢; omega
      have r5 := r4.putBack (.l ha rs') (by simpa [T.noB] using nb2) hv
      rw [List.set_set] at r5
      exact r5
end
theorem isLs_of {Γ : Env} {i : Nat} (h : isLs Γ i = true) : ∃ ts, Γ[i]? = some (some (.l ts)) := by
  unfold isLs at h
  split at h
  · rename_i ts e; exact ⟨ts, e⟩
  · cases h
theorem ixT1_of {n : Nat} {k : T} {m : Nat} (h : ixT1 n k = some m) : ∃ j, k = .v (.int j) ∧ ixN n j = some m := by
  unfold ixT1 at h
  split at h
  · exact ⟨_, rfl, h⟩
  · cases h
theorem isLs2_of {Γ : Env} {i : Nat} {k : T} (h : isLs2 Γ i k = true) : ∃ ts n us, Γ[i]? = some (some (.l ts)) ∧ ixT1 ts.length k = some n ∧ ts[n]? = some (.l us) := by
  unfold isLs2 at h
  split at h
  · rename_i ts e
    split at h
    · rename_i us e2
      obtain ⟨n, h1, h2⟩ := Option.bind_eq_some_iff.mp e2
      exact ⟨ts, n, us, e, h1, h2⟩
    · cases h
  · cases h
theorem putO_ok {K : W.Frag} {G : Glob} {W : WX} {B : Base} {F : Hp} {Γ : Env} {i : Nat} {o : Option T} {D : Ends} (P : PostS K G W B F (putO Γ i o) D) : ∃ t, o = some t ∧ ∀ σ F' H', Rel K B F' H' σ (Γ.set i (some t)) [] → Sub F F' → D.nx σ H' := by
  unfold putO at P
  split at P
  · exact ⟨_, rfl, P⟩
  · exact P.elim
def OkS (G : Glob) (m : S) : Prop := ∀ X W b st, Gd X G W b → b.blk = false → chkS X.N X.env.scope b m st = true → PS X st (TMS X.K G W (evS G.cl G.con m))
def OkSs (G : Glob) (m : Ss) : Prop := ∀ X W b st, Gd X G W b → b.blk = false → chkSs X.N X.env.scope b m st = true → PSs X st (TMS X.K G W (evSs G.cl G.con m))
section
variable {G : Glob}
theorem PS.imp {X : Cx} {e : Stmt} {t t' : TS} (h : PS X e t) (i : ∀ D σ H, t' D σ H → t D σ H) : PS X e t' := ⟨fun pins s σ H D I q => h.run pins s σ H D I (i D σ H q)⟩
theorem PSs.imp {X : Cx} {e : List Stmt} {t t' : TS} (h : PSs X e t) (i : ∀ D σ H, t' D σ H → t D σ H) : PSs X e t' := ⟨fun pins s σ H D I q => h.run pins s σ H D I (i D σ H q)⟩
theorem PS.kind {X : Cx} {e : Stmt} {t : TS} (h : X.env.scope.kind = .function → PS X e t) : PS X e t := ⟨fun pins s σ H D I q => (h I.ok.kind).run pins s σ H D I q⟩
theorem chk_comp {N sc b m} {v : Expr} (c : chkE N sc b m v = true) (h : notComp v = false) : ∃ own tg it co e, m = .lc own tg it co e := by
  cases m with
  | lc own tg it co e => exact ⟨_, _, _, _, _, rfl⟩
  | _ => exfalso; cases v <;> first | (cases h; done) | (cases c; done) | (simp [notComp, compScope] at h; done) | (simp [chkE, chkName, isGl] at c; done)
theorem swB_true {v : Expr} {y : Str} {py : Pos} {env : PySem.Env} (h : swB v y py env = true) : env.kindOf y = some .local ∧ notComp v = false := by
  unfold swB at h
  unfold notComp
  split at h
  · rename_i s e
    simp only [Bool.and_eq_true, beq_iff_eq] at h
    exact ⟨h.1.1.2, by rw [e]; rfl⟩
  · cases h
theorem set_read {K : W.Frag} {W : WX} {i : Nat} {e : E} : ∀ D σ H, TMS K G W (evS G.cl G.con (.set i e)) D σ H → tAsg (TE' K G W e) (gName i) D σ H := by
  rintro D σ H ⟨B, F, Γ, rel, P⟩
  simp only [evS] at P
  refine ⟨B, F, Γ, [], rel, P.lift.imp ?_⟩
  rintro v H' ⟨t, Γ', F', fp, r1, rt, sH, sF, P1⟩
  split at P1
  · rename_i hc
    rw [Bool.and_eq_true, decide_eq_true_eq] at hc
    exact P1 _ F' H' (Rel.store (tmp := []) (by simpa using r1) rt hc.1 hc.2) Sub.rfl
  · exact P1.elim
theorem oks_set0 {i : Nat} {e : E} {m : S} (hc : ∀ N sc b st, chkS N sc b m st = true → chkS N sc b (.set i e) st = true) (hr : ∀ (K : W.Frag) (W : WX) D σ H, TMS K G W (evS G.cl G.con m) D σ H → tAsg (TE' K G W e) (gName i) D σ H) : OkS G m := by
  intro X W b st g hb c
  replace c := hc _ _ _ _ c
  simp only [chkS] at c
  split at c
  · rename_i y py v pos
    rw [Bool.and_eq_true] at c
    have c1 : (decide (X.N[i]? = some y) && stB X.env.scope b y) = true := c.1
    rw [Bool.and_eq_true, decide_eq_true_eq] at c1
    cases hs : swB v y py X.env with
    | false => exact PS.imp (ps_set g.nd c1.1 (stB_loc c1.2) ((snd G e).pe X W b v g c.2) (by rw [sw_name, hs]) (stB_fn g c1.2)) (hr X.K W)
    | true =>
      obtain ⟨k1, k2⟩ := swB_true hs
      obtain ⟨own, tg, it, co, e', rfl⟩ := chk_comp c.2 k2
      obtain ⟨x, t, iter, ifs, scope, pos', rfl, h1, h2, h3, h4, h5, h6, h7, h8⟩ := chk_lc c.2
      have L := lc_parts (sndI G it) (sndC G co) (snd G e') g h1 h3 h5 h7 h8
      refine PS.imp (ps_setLc g.calm g.nd c1.1 k1 (by rw [sw_name, hs]) L.hi L.ok L.hg L.ht L.he (L.hs _)) fun D σ H h => ?_
      have := lc_read h2 h6 σ H _ (hr X.K W D σ H h)
      rw [h4]
      exact this
  · cases c
theorem oks_set {i : Nat} {e : E} : OkS G (.set i e) := oks_set0 (fun _ _ _ _ h => h) fun K W => set_read
theorem setF_read {K : W.Frag} {W : WX} {i : Nat} {e : E} : ∀ D σ H, TMS K G W (evS G.cl G.con (.setF i e)) D σ H → tAsg (TE' K G W e) (gName i) D σ H := by
  rintro D σ H ⟨B, F, Γ, rel, P⟩
  simp only [evS] at P
  refine ⟨B, F, Γ, [], rel, P.lift.imp ?_⟩
  rintro v H' ⟨t, Γ', F', fp, r1, rt, sH, sF, P1⟩
  split at P1
  · rename_i d ed
    split at P1
    · rename_i hi
      unfold T.fz at ed
      split at ed
      · rename_i nb
        cases ed
        have rd := rt.freeze r1.sub nb
        have r2 := r1.freezeTmp (f1 := fp) (g := []) fun a => by simp
        exact P1 _ _ H' (r2.storeV rd hi) (addF_sub r1.sub)
      · cases ed
    · exact P1.elim
  · exact P1.elim
theorem oks_setF {i : Nat} {e : E} : OkS G (.setF i e) := oks_set0 (fun _ _ _ _ h => h) fun K W => setF_read
theorem seqD_ok {K : W.Frag} {F : Hp} {x : V} {d : D} {ds : List D} (e : seqD d = some ds) (r : RpD K F x d) : ∃ a xs, x = .ref a ∧ (SqL K F a xs ∨ SqT K F a xs) ∧ RpDs K F xs ds := by
  cases r with
  | lst h r => cases e; exact ⟨_, _, rfl, .inl (.of h), r⟩
  | tup h r => cases e; exact ⟨_, _, rfl, .inr h, r⟩
  | scr h => cases e; exact ⟨_, _, rfl, .inl h, RpDs.ints _⟩
  | _ => cases e
theorem oks_setT {is : List Nat} {e : E} : OkS G (.setT is e) := by
  intro X W b st g hb c
  simp only [chkS] at c
  split at c
  · rename_i es k p v pos
    simp only [Bool.and_eq_true, Bool.not_eq_true'] at c
    obtain ⟨⟨c1, c2⟩, c3⟩ := c
    obtain ⟨q, l, l2, f⟩ := pg_sts g c1
    have pg : PG X (.Tuple es k p) (fun v σ H Q => gTup X.K is.length (gNames is) v σ H Q ∨ gLst X.K is.length (gNames is) v σ H Q) :=
      ⟨fun pins s σ H v u Q I r h => h.elim ((pg_tup g.calm q l2 f).run pins s σ H v u Q I r) ((pg_lst g.calm q l2 f).run pins s σ H v u Q I r)⟩
    refine PS.imp (ps_asg ((snd G e).pe X W b v g c2) pg sw_tup (swst_tup c3) rfl) ?_
    rintro D σ H ⟨B, F, Γ, rel, P⟩
    simp only [evS] at P
    refine ⟨B, F, Γ, [], rel, P.lift.imp ?_⟩
    rintro v H' ⟨t, Γ', F', fp, r1, rt, sH, sF, P1⟩
    split at P1
    · rename_i ds ed
      obtain ⟨d, e1, e2⟩ := Option.bind_eq_some_iff.mp ed
      unfold T.fz at e1
      split at e1
      · rename_i nb
        cases e1
        have rd := rt.freeze r1.sub nb
        have r2 := r1.freezeTmp (f1 := fp) (g := []) fun a => by simp
        split at P1
        · rename_i Γ2 es2
          obtain ⟨a, xs, rfl, hq, rs⟩ := seqD_ok e2 rd
          obtain ⟨q1, q2⟩ := setSlots_ok (Q := D.nx) es2 r2 rs fun σ' r' _ => P1 σ' _ H' r' (addF_sub r1.sub)
          rcases hq with hq | hq
          · exact .inr ⟨_, _, rfl, SqL.mono' r2.sub hq, q2, q1⟩
          · exact .inl ⟨_, _, rfl, SqT.mono' r2.sub hq, q2, q1⟩
        · exact P1.elim
      · cases e1
    · exact P1.elim
  · cases c
end
end Tv

namespace Tv
open PySem PySem.Spec PyProof.Rows L2

section
variable {G : Glob}
theorem name_pe {X : Cx} {i : Nat} {e : Expr} (h : chkName X.N X.env.scope i e = true) : PE X e (tVar i) := by
  obtain ⟨x, pos, rfl, p⟩ := name_of h; exact p
theorem fix_set {Γ : Env} {i : Nat} {t : T} (h : Γ[i]? = some (some t)) : Γ.set i (some t) = Γ := by
  have hi := (List.getElem?_eq_some_iff.mp h).1
  apply List.ext_getElem?
  intro j
  by_cases hj : i = j
  · subst hj; rw [List.getElem?_set_self hi, h]
  · rw [List.getElem?_set_ne hj]
/-- where the slot's list stands -/
theorem Rel.list {K : W.Frag} {B : Base} {F H : Hp} {σ : L2.St} {Γ : Env} {tmp : List Addr} {i : Nat} {ts : List T} (r : Rel K B F H σ Γ tmp) (e : Γ[i]? = some (some (.l ts))) :
    ∃ a xs g, σ[i]? = some (some (.ref a)) ∧ H a = some (.lst xs) ∧ RpTs K F H xs ts g := by
  obtain ⟨x, f, hv, rt, nb⟩ := r.get e
  cases rt with
  | l h rs => exact ⟨_, _, _, hv, h, rs⟩
theorem int_inv' {K : W.Frag} {F H : Hp} {x : V} {i : Int} {f : List Addr} (r : RpT K F H x (.v (.int i)) f) : x = .int i := (int_inv r).1
theorem ixN_len {n m : Nat} {j : Int} {k : Nat} (e : n = m) (h : ixN n j = some k) : ixN m j = some k := e ▸ h

theorem asg_of {N sc b m} {k : Expr} {p : Pos} (h : chkE N sc b m k = true) : ∀ (o : Expr) (env : PySem.Env) (v : Value), assign (.Subscript o k p) env v = (do
      let ov ← holding [v] (eval o env)
      let iv ← holding [v, ov] (eval k env)
      standAt p
      holding [v, ov, iv] (setItem ov iv v)
      release [v, ov, iv] []) := by
  cases k with
  | Slice a c d p => rw [chk_slice] at h; cases h
  | _ => intros; rfl
theorem augst_of {N sc b m} {k : Expr} (h : chkE N sc b m k = true) : ∀ ov iv new, augStore k ov iv new = (do holding [new, ov, iv] (setItem ov iv new); release [new, ov, iv] []; pure .next) := by
  cases k with
  | Slice a c d p => rw [chk_slice] at h; cases h
  | _ => intros; rfl

/-! ### xs[i] = e -/
theorem oks_sto {i : Nat} {ix e : E} : OkS G (.sto i ix e) := by
  intro X W b st g hb c
  simp only [chkS] at c
  split at c
  · rename_i o k p v pos
    simp only [Bool.and_eq_true] at c
    obtain ⟨⟨c1, c2⟩, c3⟩ := c
    refine PS.imp (ps_asg ((snd G e).pe X W b v g c3) (pg_sub (name_pe c1) ((snd G ix).pe X W b k g c2) set_list (asg_of c2 _ _)) sw_sub swst_sub rfl) ?_
    rintro D σ H ⟨B, F, Γ, rel, P⟩
    simp only [evS] at P
    refine ⟨B, F, Γ, [], rel, P.lift.imp ?_⟩
    rintro v1 H1 ⟨t, Γ1, F1, ft, r1, rt, sH1, sF1, P1⟩
    split at P1
    · rename_i hl
      obtain ⟨ts0, e0⟩ := isLs_of hl
      obtain ⟨a0, xs0, g0, hv0, hh0, _⟩ := r1.list e0
      refine ⟨_, hv0, B, F1, Γ1, ft, r1, P1.liftT.imp ?_⟩
      rintro v2 H2 ⟨tk, Γ2, F2, fk, r2, rk, sH2, sF2, P2⟩
      obtain ⟨t', e', Q⟩ := putO_ok P2
      unfold stoT at e'
      split at e'
      · rename_i ts es
        obtain ⟨n, h1, h2⟩ := Option.bind_eq_some_iff.mp e'
        obtain ⟨j, rfl, h3⟩ := ixT1_of h1
        split at h2
        · rename_i nb
          cases h2
          have rt2 := rt.grow sF2 sH2
          obtain ⟨a, xs, gg, hv, hh, rs, nbs, cnt, wr⟩ := Rel.write (ft := ft) (tmp := []) (r2.less fun c => by simp only [List.count_append, List.count_nil]; omega) es
          have ea : a = a0 := by rw [hv0] at hv; cases hv; rfl
          subst ea
          refine ⟨a, xs, j, n, rfl, (int_inv rk).1, hh, ixN_len rs.length.symm h3, ?_⟩
          obtain ⟨g', q1, q2⟩ := RpTs.set n rs rt2
          have na : ∀ c ∈ gg ++ ft, c ≠ a := fun c m z => by
            subst z
            have e1 := List.count_pos_iff.mpr m
            have := cnt c
            simp only [List.count_append, List.count_cons_self] at this e1
            omega
          have fr : RpTs X.K F2 (upd H2 a (.lst (xs.set n v1))) (xs.set n v1) (ts.set n t) g' := by
            have nb2 : T.noBs (ts.set n t) = true := by
              rw [noBs_all, List.all_eq_true] at nbs ⊢
              intro u hu
              rcases List.mem_or_eq_of_mem_set hu with hu | hu
              · exact nbs u hu
              · rw [hu]; exact nb
            refine q1.frame Sub.rfl nb2 fun c hc => upd_ne (na c ?_)
            have := q2 c
            have := List.count_pos_iff.mpr hc
            apply List.count_pos_iff.mp
            rw [List.count_append]; omega
          have nb2 : T.noBs (ts.set n t) = true := by
            rw [noBs_all, List.all_eq_true] at nbs ⊢
            intro u hu
            rcases List.mem_or_eq_of_mem_set hu with hu | hu
            · exact nbs u hu
            · rw [hu]; exact nb
          exact Q _ F2 _ (wr [a] _ _ _ g' upd_same (fun c hc => by rw [List.mem_singleton.mp hc]; exact List.mem_cons_self) (fun c hc => upd_ne (by simpa using hc)) (fun c hc => by rw [List.mem_singleton.mp hc, upd_same]; simp) fr nb2 q2) Sub.rfl
        · cases h2
      · cases e'
    · exact P1.elim
  · cases c

/-! ### name op= e -/
theorem augI_ok {K : W.Frag} {F H : Hp} {x : V} {t : T} {f : List Addr} {o : BOp} {i z : Int} (e : augI o i t = some z) (r : RpT K F H x t f) : ∃ j, x = .int j ∧ t = .v (.int j) ∧ ((o = .add ∧ z = i + j) ∨ (o = .sub ∧ z = i - j)) := by
  unfold augI at e
  split at e
  · cases e
    exact ⟨_, (int_inv r).1, rfl, .inl ⟨rfl, rfl⟩⟩
  · cases e
    exact ⟨_, (int_inv r).1, rfl, .inr ⟨rfl, rfl⟩⟩
  · cases e
def ipO : BOp → TIp
  | .add => ipI fun i j => i + j
  | .sub => ipI fun i j => i - j
  | _ => fun _ _ _ _ => False
theorem ip_O {X : Cx} (o : BOp) : PIp X o.op (ipO o) := by
  cases o with
  | add => exact ip_add
  | sub => exact ip_sub
  | _ => exact fun _ _ _ _ _ _ _ _ _ _ _ _ h => h.elim
theorem oks_augV {i : Nat} {o : BOp} {e : E} : OkS G (.augV i o e) := by
  intro X W b st g hb c
  simp only [chkS] at c
  split at c
  · rename_i y py op v pos
    simp only [Bool.and_eq_true, decide_eq_true_eq] at c
    obtain ⟨⟨c1, c2⟩, rfl⟩ := c
    have c1' : (decide (X.N[i]? = some y) && stB X.env.scope b y) = true := c1
    rw [Bool.and_eq_true, decide_eq_true_eq] at c1'
    refine PS.imp (ps_aug g.nd c1'.1 (stB_loc c1'.2) ((snd G e).pe X W b v g c2) (ip_O o) (stB_fn g c1'.2)) ?_
    rintro D σ H ⟨B, F, Γ, rel, P⟩
    simp only [evS] at P
    split at P
    · rename_i x ex
      obtain ⟨xv, fx, hv, rx, _⟩ := rel.get ex
      obtain ⟨rfl, _⟩ := int_inv rx
      refine ⟨_, hv, B, F, Γ, [], rel, P.lift.imp ?_⟩
      rintro v1 H1 ⟨t, Γ1, F1, ft, r1, rt, sH1, sF1, P1⟩
      obtain ⟨t', e', Q⟩ := putO_ok P1
      obtain ⟨z, e1, rfl⟩ := Option.map_eq_some_iff.mp e'
      obtain ⟨j, rfl, rfl, h⟩ := augI_ok e1 rt
      have hi : i < Γ1.length := by
        rw [← r1.length]
        exact (List.getElem?_eq_some_iff.mp hv).1
      have r2 : Rel X.K B F1 H1 σ Γ1 [] := r1.less fun c => by simp
      have fin := Q _ F1 H1 (r2.storeV (.int z) hi) Sub.rfl
      rcases h with ⟨rfl, rfl⟩ | ⟨rfl, rfl⟩
      · exact ⟨_, _, rfl, rfl, fin⟩
      · exact ⟨_, _, rfl, rfl, fin⟩
    · exact P.elim
  · cases c

/-! ### xs.append(e), xs.extend(e) -/
theorem noBs_set {ts : List T} {n : Nat} {t : T} (h : T.noBs ts = true) (h2 : t.noB = true) : T.noBs (ts.set n t) = true := by
  rw [noBs_all, List.all_eq_true] at h ⊢
  intro u hu
  rcases List.mem_or_eq_of_mem_set hu with hu | hu
  · exact h u hu
  · rw [hu]; exact h2
theorem noBs_get {ts : List T} {n : Nat} {t : T} (h : T.noBs ts = true) (h2 : ts[n]? = some t) : t.noB = true := by
  rw [noBs_all, List.all_eq_true] at h
  exact h _ (List.mem_of_getElem? h2)
theorem hb_of {N sc b m e} {n : Str} {env : PySem.Env} (h : chkE N sc b m e = true) : attributeBase e n env (eval e env) = eval e env := attr_of h _ _
theorem hb_name {N sc i e} {n : Str} {env : PySem.Env} (h : chkName N sc i e = true) : attributeBase e n env (eval e env) = eval e env := by
  unfold chkName at h
  split at h
  · rfl
  · cases h
theorem oks_app {i : Nat} {e : E} : OkS G (.app i e) := by
  intro X W b st g hb c
  simp only [chkS] at c
  split at c
  · rename_i x n ap y cp pos
    simp only [Bool.and_eq_true, decide_eq_true_eq] at c
    obtain ⟨⟨⟨rfl, c1⟩, c2⟩, c3⟩ := c
    have ns := chk_notStar c3
    refine PS.imp (ps_expr (pe_bm PySem.F.plainAttrs_list PySem.F.slot_list_append PySem.F.type_list_append mt_append (name_pe c2) (pa_cons ((snd G e).pe X W b y g c3) pa_nil (star_of ns)) (hb_name c2) (by rw [star_of ns]; rfl) (by rw [c1]; exact beq_self_eq_true _) (star_of ns) rfl) (sw_none rfl)) ?_
    rintro D σ H ⟨B, F, Γ, rel, P⟩
    simp only [evS] at P
    split at P
    · rename_i hl
      obtain ⟨ts0, e0⟩ := isLs_of hl
      obtain ⟨a0, xs0, g0, hv0, hh0, _⟩ := rel.list e0
      refine ⟨_, hv0, .inl ⟨rfl, _, SqL.of hh0⟩, B, F, Γ, [], rel, P.lift.imp ?_⟩
      rintro v1 H1 ⟨t, Γ1, F1, ft, r1, rt, sH1, sF1, P1⟩
      obtain ⟨t', e', Q⟩ := putO_ok P1
      unfold appT at e'
      split at e'
      · rename_i ts es
        split at e'
        · rename_i hc
          cases e'
          rw [Bool.and_eq_true, decide_eq_true_eq] at hc
          obtain ⟨a, xs, gg, hv, hh, rs, nbs, cnt, wr⟩ := Rel.write (ft := ft) (tmp := []) (by simpa using r1) es
          have ea : a = a0 := by rw [hv0] at hv; cases hv; rfl
          subst ea
          refine ⟨a, xs, v1, rfl, rfl, hh, by rw [rs.length, sizeLine_eq]; exact hc.2, ?_⟩
          have na : ∀ c ∈ gg ++ ft, c ≠ a := fun c m z => by
            subst z
            have e1 := List.count_pos_iff.mpr m
            have := cnt c
            simp only [List.count_append, List.count_cons_self] at this e1
            omega
          have nb2 : T.noBs (ts ++ [t]) = true := by rw [noBs_append, nbs]; simp [T.noBs, hc.1]
          have fr : RpTs X.K F1 (upd H1 a (.lst (xs ++ [v1]))) (xs ++ [v1]) (ts ++ [t]) (gg ++ (ft ++ [])) := (rs.append (.cons rt .nil)).frame Sub.rfl nb2 fun c hc => upd_ne (na c (by simpa using hc))
          exact Q _ F1 _ (wr [a] _ _ _ _ upd_same (fun c hc => by rw [List.mem_singleton.mp hc]; exact List.mem_cons_self) (fun c hc => upd_ne (by simpa using hc)) (fun c hc => by rw [List.mem_singleton.mp hc, upd_same]; simp) fr nb2 fun c => by simp only [List.count_append, List.count_nil]; omega) Sub.rfl
        · cases e'
      · cases e'
    · exact P.elim
  · cases c
theorem lstT_ok {K : W.Frag} {F H : Hp} {x : V} {t : T} {f : List Addr} {us : List T} (e : lstT t = some us) (hF : Sub F H) (r : RpT K F H x t f) : ∃ a xs g, x = .ref a ∧ H a = some (.lst xs) ∧ RpTs K F H xs us g ∧ ∀ c, g.count c ≤ f.count c := by
  unfold lstT at e
  split at e
  · cases e
    cases r with
    | v r => cases r with
      | lst h r => exact ⟨_, _, [], rfl, hF _ _ h, r.toV, fun c => by simp⟩
  · split at e
    · rename_i ha
      cases e
      cases r with
      | b r => cases r with
        | lst h r => exact ⟨_, _, [], rfl, h, (r.flat ha).toV, fun c => by simp⟩
    · cases e
  · cases e
    cases r with
    | l h r => exact ⟨_, _, _, rfl, h, r, fun c => by simp only [List.count_cons]; omega⟩
  · cases e
theorem oks_ext {i : Nat} {e : E} : OkS G (.ext i e) := by
  intro X W b st g hb c
  simp only [chkS] at c
  split at c
  · rename_i x n ap y cp pos
    simp only [Bool.and_eq_true, decide_eq_true_eq] at c
    obtain ⟨⟨⟨rfl, c1⟩, c2⟩, c3⟩ := c
    have ns := chk_notStar c3
    refine PS.imp (ps_expr (pe_bm PySem.F.plainAttrs_list PySem.F.slot_list_extend PySem.F.type_list_extend mt_extend (name_pe c2) (pa_cons ((snd G e).pe X W b y g c3) pa_nil (star_of ns)) (hb_name c2) (by rw [star_of ns]; rfl) (by rw [c1]; exact beq_self_eq_true _) (star_of ns) rfl) (sw_none rfl)) ?_
    rintro D σ H ⟨B, F, Γ, rel, P⟩
    simp only [evS] at P
    split at P
    · rename_i hl
      obtain ⟨ts0, e0⟩ := isLs_of hl
      obtain ⟨a0, xs0, g0, hv0, hh0, _⟩ := rel.list e0
      refine ⟨_, hv0, .inl ⟨rfl, _, SqL.of hh0⟩, B, F, Γ, [], rel, P.lift.imp ?_⟩
      rintro v1 H1 ⟨t, Γ1, F1, ft, r1, rt, sH1, sF1, P1⟩
      obtain ⟨t', e', Q⟩ := putO_ok P1
      unfold extT at e'
      split at e'
      · rename_i ts us es eu
        split at e'
        · rename_i hc
          cases e'
          rw [Bool.and_eq_true, decide_eq_true_eq] at hc
          obtain ⟨u, ys, gu, rfl, hu, ru, cu⟩ := lstT_ok eu r1.sub rt
          obtain ⟨a, xs, gg, hv, hh, rs, nbs, cnt, wr⟩ := Rel.write (ft := ft) (tmp := []) (by simpa using r1) es
          have ea : a = a0 := by rw [hv0] at hv; cases hv; rfl
          subst ea
          refine ⟨a, u, xs, ys, rfl, rfl, hh, hu, by rw [rs.length, ru.length, sizeLine_eq]; exact hc.2, ?_⟩
          have na : ∀ c ∈ gg ++ gu, c ≠ a := fun c m z => by
            subst z
            have e1 := List.count_pos_iff.mpr m
            have q1 := cnt c
            have q2 := cu c
            simp only [List.count_append, List.count_cons_self] at q1 q2 e1
            omega
          have nb2 : T.noBs (ts ++ us) = true := by rw [noBs_append, nbs, hc.1]; rfl
          have fr : RpTs X.K F1 (upd H1 a (.lst (xs ++ ys))) (xs ++ ys) (ts ++ us) (gg ++ gu) := (rs.append ru).frame Sub.rfl nb2 fun c hc => upd_ne (na c hc)
          exact Q _ F1 _ (wr [a] _ _ _ _ upd_same (fun c hc => by rw [List.mem_singleton.mp hc]; exact List.mem_cons_self) (fun c hc => upd_ne (by simpa using hc)) (fun c hc => by rw [List.mem_singleton.mp hc, upd_same]; simp) fr nb2 fun c => by have := cu c; simp only [List.count_append]; omega) Sub.rfl
        · cases e'
      · cases e'
    · exact P.elim
  · cases c
end
end Tv

namespace Tv
open PySem PySem.Spec PyProof.Rows L2

theorem get_list {X : Cx} : PGet X (rIxL X.K) := by
  intro pins s σ H o i ov iv Q I rx ry h
  obtain ⟨p, xs, i, z, rfl, rfl, hq, he, q⟩ := h
  cases rx
  obtain ⟨t, rfl⟩ := ry
  obtain ⟨its, r, pl, hz⟩ := I.list hq
  obtain ⟨j, h1, h2, h3, h4, h5⟩ := atI_get he
  obtain ⟨w, ew, rw'⟩ := r.get h2
  have hl := r.length
  have hn := line63
  have fin : EP X pins σ Q w s := ⟨z, H, I, rw', q⟩
  by_cases h0 : 0 ≤ i
  · have hj : i.toNat = j := by
      rw [seqIndex_of h0 h5] at h1
      exact Option.some.inj h1
    exact wpAny_getItem_list pl.isList h0 (by omega) (by rw [hj]; simpa using ew) fin
  · have hj : (i + (its.toArray.size : Int)).toNat = j := by
      rw [seqIndex_neg (by omega) h4] at h1
      rw [List.size_toArray, ← hl]
      exact Option.some.inj h1
    exact wpAny_getItem_list_neg pl.isList (by omega) (by rw [List.size_toArray] <;> omega) (by omega) (by rw [hj]; simpa using ew) fin
theorem atI_of {α : Type} {xs : List α} {n : Nat} {j : Int} {k : Nat} {x : α} (hl : xs.length = n) (h : ixN n j = some k) (e : xs[k]? = some x) : atI xs j = some x := by
  unfold atI
  rw [hl, h]
  exact e
section
variable {G : Glob}
theorem Rel.nil {K : W.Frag} {B : Base} {F H : Hp} {σ : L2.St} {Γ : Env} {tmp : List Addr} (r : Rel K B F H σ Γ tmp) : Rel K B F H σ Γ [] := r.less fun c => by simp

/-! ### xs[i] op= e -/
theorem oks_augS {i : Nat} {o : BOp} {ix e : E} : OkS G (.augS i o ix e) := by
  intro X W b st g hb c
  simp only [chkS] at c
  split at c
  · rename_i x k p op v pos
    simp only [Bool.and_eq_true, decide_eq_true_eq] at c
    obtain ⟨⟨⟨c1, c2⟩, c3⟩, rfl⟩ := c
    refine PS.imp (ps_augS (name_pe c1) ((snd G ix).pe X W b k g c2) get_list ((snd G e).pe X W b v g c3) (ip_O o) set_list (augst_of c2)) ?_
    rintro D σ H ⟨B, F, Γ, rel, P⟩
    simp only [evS] at P
    split at P
    · rename_i hl
      obtain ⟨ts0, e0⟩ := isLs_of hl
      obtain ⟨a0, xs0, g0, hv0, hh0, _⟩ := rel.list e0
      refine ⟨_, hv0, B, F, Γ, [], rel, P.lift.imp ?_⟩
      rintro v1 H1 ⟨tk, Γ1, F1, fk, r1, rk, sH1, sF1, P1⟩
      split at P1
      · rename_i xi gi
        unfold getI at gi
        split at gi
        · rename_i ts1 es1
          split at gi
          · rename_i xi' gi2
            cases gi
            obtain ⟨n, h1, h2⟩ := Option.bind_eq_some_iff.mp gi2
            obtain ⟨j, rfl, h3⟩ := ixT1_of h1
            obtain ⟨a1, xs1, g1, hv1, hh1, rs1⟩ := r1.list es1
            have ea : a1 = a0 := by rw [hv0] at hv1; cases hv1; rfl
            subst ea
            obtain ⟨y, gy, hy, ry, _⟩ := RpTs.get n rs1 h2
            obtain rfl := int_inv' ry
            refine ⟨a1, xs1, j, _, rfl, int_inv' rk, SqL.of hh1, atI_of rs1.length h3 hy, B, F1, Γ1, [], r1.nil, P1.lift.imp ?_⟩
            rintro v2 H2 ⟨t, Γ2, F2, ft, r2, rt, sH2, sF2, P2⟩
            obtain ⟨t', e', Q⟩ := putO_ok P2
            unfold augT at e'
            split at e'
            · rename_i ts es
              obtain ⟨n', h1', h2'⟩ := Option.bind_eq_some_iff.mp e'
              obtain ⟨j', ej, h3'⟩ := ixT1_of h1'
              cases ej
              obtain ⟨z, e1, rfl⟩ := Option.map_eq_some_iff.mp h2'
              obtain ⟨j2, rfl, rfl, h⟩ := augI_ok e1 rt
              obtain ⟨a, xs, gg, hv, hh, rs, nbs, cnt, wr⟩ := Rel.write (ft := []) (tmp := []) r2.nil es
              have ea : a = a1 := by rw [hv0] at hv; cases hv; rfl
              subst ea
              have exs : xs = xs1 := by
                have := sH2 _ _ hh1
                rw [hh] at this; cases this; rfl
              subst exs
              obtain ⟨g', q1, q2⟩ := RpTs.set n' rs (x := .int z) (t := .v (.int z)) (ft := []) (.v (.int z))
              have na : ∀ c ∈ gg, c ≠ a := fun c m z => by
                subst z
                have e1 := List.count_pos_iff.mpr m
                have := cnt c
                simp only [List.count_cons_self] at this
                omega
              have nb2 : T.noBs (ts.set n' (.v (.int z))) = true := noBs_set nbs rfl
              have fr : RpTs X.K F2 (upd H2 a (.lst (xs.set n' (.int z)))) (xs.set n' (.int z)) (ts.set n' (.v (.int z))) g' := q1.frame Sub.rfl nb2 fun c hc => upd_ne (na c (by
                have := q2 c
                have := List.count_pos_iff.mpr hc
                apply List.count_pos_iff.mp
                simp only [List.count_nil] at *; omega))
              have fin := Q _ F2 _ (wr [a] _ _ _ g' upd_same (fun c hc => by rw [List.mem_singleton.mp hc]; exact List.mem_cons_self) (fun c hc => upd_ne (by simpa using hc)) (fun c hc => by rw [List.mem_singleton.mp hc, upd_same]; simp) fr nb2 q2) Sub.rfl
              have ix := ixN_len rs.length.symm h3'
              rcases h with ⟨rfl, rfl⟩ | ⟨rfl, rfl⟩
              · exact ⟨_, _, rfl, rfl, a, xs, j, n', rfl, int_inv' rk, hh, ix, fin⟩
              · exact ⟨_, _, rfl, rfl, a, xs, j, n', rfl, int_inv' rk, hh, ix, fin⟩
            · cases e'
          · cases gi
        · cases gi
      · exact P1.elim
    · exact P.elim
  · cases c

/-! ### xs[i].append(e) -/
theorem Rel.write2 {K : W.Frag} {B : Base} {F H : Hp} {σ : L2.St} {Γ : Env} {tmp ft : List Addr} {i n : Nat} {ts us : List T} (r : Rel K B F H σ Γ (ft ++ tmp)) (e : Γ[i]? = some (some (.l ts))) (e2 : ts[n]? = some (.l us)) :
    ∃ a xs p ys gi, σ[i]? = some (some (.ref a)) ∧ H a = some (.lst xs) ∧ xs.length = ts.length ∧ xs[n]? = some (.ref p) ∧ H p = some (.lst ys) ∧ RpTs K F H ys us gi ∧ T.noBs us = true ∧
    (∀ c, (p :: gi).count c + ft.count c ≤ 1) ∧ ∀ (zs : List V) (ws : List T) (g' : List Addr), RpTs K F (upd H p (.lst zs)) zs ws g' → T.noBs ws = true → (∀ c, g'.count c ≤ gi.count c + ft.count c) →
      Rel K B F (upd H p (.lst zs)) σ (Γ.set i (some (.l (ts.set n (.l ws))))) tmp := by
  obtain ⟨a, xs, gg, hv, hh, rs, nbs, cnt, wr⟩ := r.write e
  obtain ⟨x, f0, g0, h1, h2, h3, h4⟩ := RpTs.swap n rs e2
  cases h2 with
  | @l p ys _ gi hp ri =>
    have nbi : T.noBs us = true := by simpa [T.noB] using noBs_get nbs e2
    refine ⟨a, xs, p, ys, gi, hv, hh, rs.length, h1, hp, ri, nbi, fun c => ?_, fun zs ws g' rw' nbw hc => ?_⟩
    · have q1 := cnt c
      have q2 := h3 c
      simp only [List.count_cons] at q1 q2 ⊢; omega
    · have pa : p ≠ a := fun z => by
        subst z
        have q1 := cnt p
        have q2 := h3 p
        simp only [List.count_cons_self] at q1 q2; omega
      have pg : p ∉ g0 := fun m => by
        have e1 := List.count_pos_iff.mpr m
        have q1 := cnt p
        have q2 := h3 p
        simp only [List.count_cons_self, List.count_cons] at q1 q2; omega
      obtain ⟨g2, q1, q2⟩ := h4 (H' := upd H p (.lst zs)) (y := .ref p) (u := .l ws) (fu := p :: g') (.l upd_same rw') (fun c hc => upd_ne (by rintro rfl; exact pg hc)) nbs
      have xset : xs.set n (.ref p) = xs := by
        apply List.ext_getElem?
        intro j
        by_cases hj : n = j
        · subst hj; rw [List.getElem?_set_self (List.getElem?_eq_some_iff.mp h1).1, h1]
        · rw [List.getElem?_set_ne hj]
      rw [xset] at q1
      refine wr [p] _ xs _ g2 (by rw [upd_ne (Ne.symm pa)]; exact hh) (fun c hc => ?_) (fun c hc => upd_ne (by simpa using hc)) (fun c hc => by rw [List.mem_singleton.mp hc, upd_same]; simp) q1 (noBs_set nbs (by simpa [T.noB] using nbw)) fun c => ?_
      · rw [List.mem_singleton.mp hc]
        have q2 := h3 p
        rw [List.count_cons_self] at q2
        exact List.mem_cons_of_mem _ (List.count_pos_iff.mp (by omega))
      · have z1 := q2 c
        have z2 := h3 c
        have z3 := hc c
        simp only [List.count_cons] at z1 z2 ⊢
        omega
theorem oks_appX {i : Nat} {ix e : E} : OkS G (.appX i ix e) := by
  intro X W b st g hb c
  simp only [chkS] at c
  split at c
  · rename_i x k p n ap y cp pos
    simp only [Bool.and_eq_true, decide_eq_true_eq] at c
    obtain ⟨⟨⟨⟨rfl, c1⟩, c2⟩, c3⟩, c4⟩ := c
    have ns := chk_notStar c4
    refine PS.imp (ps_expr (pe_bm PySem.F.plainAttrs_list PySem.F.slot_list_append PySem.F.type_list_append mt_append (pe_ix ix_list (name_pe c2) ((snd G ix).pe X W b k g c3) (plainIx_of c3)) (pa_cons ((snd G e).pe X W b y g c4) pa_nil (star_of ns)) rfl (by rw [star_of ns]; rfl) (by rw [c1]; exact beq_self_eq_true _) (star_of ns) rfl) (sw_none rfl)) ?_
    rintro D σ H ⟨B, F, Γ, rel, P⟩
    simp only [evS] at P
    split at P
    · rename_i hl
      obtain ⟨ts0, e0⟩ := isLs_of hl
      obtain ⟨a0, xs0, g0, hv0, hh0, _⟩ := rel.list e0
      refine ⟨_, hv0, B, F, Γ, [], rel, P.lift.imp ?_⟩
      rintro v1 H1 ⟨tk, Γ1, F1, fk, r1, rk, sH1, sF1, P1⟩
      split at P1
      · rename_i hl2
        obtain ⟨ts1, n1, us1, es1, hk1, hu1⟩ := isLs2_of hl2
        obtain ⟨j, rfl, h3⟩ := ixT1_of hk1
        obtain ⟨a1, xs1, p1, ys1, gi1, hv1, hh1, hlen1, hx1, hp1, _, _, _, _⟩ := Rel.write2 (ft := []) (tmp := []) r1.nil es1 hu1
        have ea : a1 = a0 := by rw [hv0] at hv1; cases hv1; rfl
        subst ea
        refine ⟨a1, xs1, j, _, rfl, int_inv' rk, SqL.of hh1, atI_of hlen1 h3 hx1, .inl ⟨rfl, _, SqL.of hp1⟩, B, F1, Γ1, [], r1.nil, P1.lift.imp ?_⟩
        rintro v2 H2 ⟨t, Γ2, F2, ft, r2, rt, sH2, sF2, P2⟩
        obtain ⟨t', e', Q⟩ := putO_ok P2
        unfold appXT at e'
        split at e'
        · rename_i ts es
          obtain ⟨n, h1, h2⟩ := Option.bind_eq_some_iff.mp e'
          obtain ⟨j', ej, h3'⟩ := ixT1_of h1
          cases ej
          split at h2
          · rename_i us hu
            split at h2
            · rename_i hc
              cases h2
              rw [Bool.and_eq_true, decide_eq_true_eq] at hc
              obtain ⟨a, xs, p, ys, gi, hv, hh, hlen, hx, hp, ri, nbi, cnt, wr⟩ := Rel.write2 (ft := ft) (tmp := []) (by simpa using r2) es hu
              have ea : a = a1 := by rw [hv0] at hv; cases hv; rfl
              subst ea
              have exs : xs = xs1 := by
                have := sH2 _ _ hh1
                rw [hh] at this; cases this; rfl
              subst exs
              have en : n = n1 := by
                have q1 := ixN_len hlen.symm h3'
                have q2 := ixN_len hlen1.symm h3
                rw [q1] at q2; cases q2; rfl
              subst en
              have ep : p = p1 := by rw [hx] at hx1; cases hx1; rfl
              subst ep
              refine ⟨p, ys, v2, rfl, rfl, hp, by rw [ri.length, sizeLine_eq]; exact hc.2, ?_⟩
              have na : ∀ c ∈ gi ++ ft, c ≠ p := fun c m z => by
                subst z
                have e1 := List.count_pos_iff.mpr m
                have := cnt c
                simp only [List.count_append, List.count_cons_self] at this e1
                omega
              have nb2 : T.noBs (us ++ [t]) = true := by rw [noBs_append, nbi]; simp [T.noBs, hc.1]
              have fr : RpTs X.K F2 (upd H2 p (.lst (ys ++ [v2]))) (ys ++ [v2]) (us ++ [t]) (gi ++ (ft ++ [])) := (ri.append (.cons rt .nil)).frame Sub.rfl nb2 fun c hc => upd_ne (na c (by simpa using hc))
              exact Q _ F2 _ (wr _ _ _ fr nb2 fun c => by simp only [List.count_append, List.count_nil]; omega) Sub.rfl
            · cases h2
          · cases h2
        · cases e'
      · exact P1.elim
    · exact P.elim
  · cases c

/-! ### xs[i][j] = e -/
theorem oks_stoX {i : Nat} {ix iy e : E} : OkS G (.stoX i ix iy e) := by
  intro X W b st g hb c
  simp only [chkS] at c
  split at c
  · rename_i o k p1 jx p v pos
    simp only [Bool.and_eq_true] at c
    obtain ⟨⟨⟨c1, c2⟩, c3⟩, c4⟩ := c
    refine PS.imp (ps_asg ((snd G e).pe X W b v g c4) (pg_sub (pe_ix ix_list (name_pe c1) ((snd G ix).pe X W b k g c2) (plainIx_of c2)) ((snd G iy).pe X W b jx g c3) set_list (asg_of c3 _ _)) sw_sub swst_sub rfl) ?_
    rintro D σ H ⟨B, F, Γ, rel, P⟩
    simp only [evS] at P
    refine ⟨B, F, Γ, [], rel, P.lift.imp ?_⟩
    rintro v1 H1 ⟨t, Γ1, F1, ft, r1, rt, sH1, sF1, P1⟩
    split at P1
    · rename_i hl
      obtain ⟨ts0, e0⟩ := isLs_of hl
      obtain ⟨a0, xs0, g0, hv0, hh0, _⟩ := r1.list e0
      refine ⟨_, hv0, B, F1, Γ1, ft, r1, P1.liftT.imp ?_⟩
      rintro v2 H2 ⟨tk, Γ2, F2, fk, r2, rk, sH2, sF2, P2⟩
      split at P2
      · rename_i hl2
        obtain ⟨ts1, n1, us1, es1, hk1, hu1⟩ := isLs2_of hl2
        obtain ⟨j, rfl, h3⟩ := ixT1_of hk1
        obtain ⟨a1, xs1, p1, ys1, gi1, hv1, hh1, hlen1, hx1, hp1, _, _, _, _⟩ := Rel.write2 (ft := []) (tmp := []) r2.nil es1 hu1
        have ea : a1 = a0 := by rw [hv0] at hv1; cases hv1; rfl
        subst ea
        refine ⟨a1, xs1, j, _, rfl, int_inv' rk, SqL.of hh1, atI_of hlen1 h3 hx1, B, F2, Γ2, ft, r2.less (fun c => by simp only [List.count_append]; omega), P2.liftT.imp ?_⟩
        rintro v3 H3 ⟨tj, Γ3, F3, fj, r3, rj, sH3, sF3, P3⟩
        obtain ⟨t', e', Q⟩ := putO_ok P3
        unfold stoXT at e'
        split at e'
        · rename_i ts es
          obtain ⟨n, h1, h2⟩ := Option.bind_eq_some_iff.mp e'
          obtain ⟨j', ej, h3'⟩ := ixT1_of h1
          cases ej
          split at h2
          · rename_i us hu
            obtain ⟨m, hm, h4⟩ := Option.bind_eq_some_iff.mp h2
            obtain ⟨j2, rfl, h5⟩ := ixT1_of hm
            split at h4
            · rename_i nb
              cases h4
              have rt3 := (rt.grow sF2 sH2).grow sF3 sH3
              obtain ⟨a, xs, p, ys, gi, hv, hh, hlen, hx, hp, ri, nbi, cnt, wr⟩ := Rel.write2 (ft := ft) (tmp := []) (r3.less fun c => by simp only [List.count_append, List.count_nil]; omega) es hu
              have ea : a = a1 := by rw [hv0] at hv; cases hv; rfl
              subst ea
              have exs : xs = xs1 := by
                have := sH3 _ _ hh1
                rw [hh] at this; cases this; rfl
              subst exs
              have en : n = n1 := by
                have q1 := ixN_len hlen.symm h3'
                have q2 := ixN_len hlen1.symm h3
                rw [q1] at q2; cases q2; rfl
              subst en
              have ep : p = p1 := by rw [hx] at hx1; cases hx1; rfl
              subst ep
              refine ⟨p, ys, j2, m, rfl, int_inv' rj, hp, ixN_len ri.length.symm h5, ?_⟩
              obtain ⟨g', q1, q2⟩ := RpTs.set m ri rt3
              have na : ∀ c ∈ gi ++ ft, c ≠ p := fun c m z => by
                subst z
                have e1 := List.count_pos_iff.mpr m
                have := cnt c
                simp only [List.count_append, List.count_cons_self] at this e1
                omega
              have nb2 : T.noBs (us.set m t) = true := noBs_set nbi nb
              have fr : RpTs X.K F3 (upd H3 p (.lst (ys.set m v1))) (ys.set m v1) (us.set m t) g' := q1.frame Sub.rfl nb2 fun c hc => upd_ne (na c (by
                have := q2 c
                have := List.count_pos_iff.mpr hc
                apply List.count_pos_iff.mp
                rw [List.count_append]; omega))
              exact Q _ F3 _ (wr _ _ _ fr nb2 q2) Sub.rfl
            · cases h4
          · cases h2
        · cases e'
      · exact P2.elim
    · exact P1.elim
  · cases c
end
end Tv

namespace Tv
open PySem PySem.Spec PyProof.Rows L2

section
variable {G : Glob}
theorem oks_ex {e : E} : OkS G (.ex e) := by
  intro X W b st g hb c
  simp only [chkS] at c
  split at c
  · rename_i v pos
    rw [Bool.and_eq_true] at c
    refine PS.imp (ps_expr ((snd G e).pe X W b v g c.1) (sw_none c.2)) ?_
    rintro D σ H ⟨B, F, Γ, rel, P⟩
    simp only [evS] at P
    refine ⟨B, F, Γ, [], rel, P.lift.imp ?_⟩
    rintro v1 H1 ⟨t, Γ1, F1, ft, r1, rt, sH1, sF1, P1⟩
    exact P1 σ F1 H1 r1.nil Sub.rfl
  · cases c
theorem oks_ret {e : E} : OkS G (.ret e) := by
  intro X W b st g hb c
  simp only [chkS] at c
  split at c
  · rename_i v pos
    refine PS.imp (ps_ret ((snd G e).pe X W b v g c)) ?_
    rintro D σ H ⟨B, F, Γ, rel, P⟩
    simp only [evS] at P
    refine ⟨B, F, Γ, [], rel, P.lift.imp ?_⟩
    rintro v1 H1 ⟨t, Γ1, F1, ft, r1, rt, sH1, sF1, P1⟩
    split at P1
    · rename_i nb
      exact P1 v1 σ F1 H1 ft r1 rt nb Sub.rfl
    · exact P1.elim
  · cases c
theorem oks_retN : OkS G .retN := by
  intro X W b st g hb c
  simp only [chkS] at c
  split at c
  · refine PS.imp ps_retN ?_
    rintro D σ H ⟨B, F, Γ, rel, P⟩
    exact P .non σ F H [] rel (.v .non) rfl Sub.rfl
  · cases c
theorem oks_pass : OkS G .pass := by
  intro X W b st g hb c
  simp only [chkS] at c
  have rd : ∀ D σ H, TMS X.K G W (evS G.cl G.con .pass) D σ H → tNext D σ H := by
    rintro D σ H ⟨B, F, Γ, rel, P⟩
    exact P σ F H rel Sub.rfl
  split at c
  · exact PS.imp ps_pass rd
  · exact PS.imp ps_doc rd
  · cases c
theorem oks_brk : OkS G .brk := by
  intro X W b st g hb c
  simp only [chkS] at c
  split at c
  · refine PS.imp ps_break ?_
    rintro D σ H ⟨B, F, Γ, rel, P⟩
    exact P σ F H rel Sub.rfl
  · cases c
theorem oks_cnt : OkS G .cnt := by
  intro X W b st g hb c
  simp only [chkS] at c
  split at c
  · refine PS.imp ps_continue ?_
    rintro D σ H ⟨B, F, Γ, rel, P⟩
    exact P σ F H rel Sub.rfl
  · cases c
theorem oks_dead : OkS G .dead := by
  intro X W b st g hb c
  exact PS.imp ps_never fun D σ H ⟨B, F, Γ, rel, P⟩ => P.elim
theorem oks_ife {e : E} {x y : Ss} (hx : OkSs G x) (hy : OkSs G y) : OkS G (.ife e x y) := by
  intro X W b st g hb c
  simp only [chkS] at c
  split at c
  · rename_i v s1 s2 pos
    simp only [Bool.and_eq_true] at c
    obtain ⟨⟨c1, c2⟩, c3⟩ := c
    refine PS.imp (ps_if ((snd G e).pt X W b v g c1) (hx X W b s1 g hb c2) (hy X W b s2 g hb c3)) ?_
    rintro D σ H ⟨B, F, Γ, rel, P⟩
    simp only [evS] at P
    show TE' X.K G W e σ H _
    refine ⟨B, F, Γ, [], rel, P.lift.imp ?_⟩
    rintro v1 H1 ⟨t, Γ1, F1, ft, r1, rt, sH1, sF1, P1⟩
    split at P1
    · obtain ⟨rfl, _⟩ := bl_inv rt
      exact ⟨true, rfl, by dsimp only; rw [if_pos rfl]; exact ⟨B, F1, Γ1, r1.nil, P1⟩⟩
    · obtain ⟨rfl, _⟩ := bl_inv rt
      exact ⟨false, rfl, by dsimp only; rw [if_neg Bool.false_ne_true]; exact ⟨B, F1, Γ1, r1.nil, P1⟩⟩
    · exact P1.elim
  · cases c
/-- a body's outcome, seen by the loop -/
theorem oks_for {tg : Tg} {it : I} {m : Ss} (hm : OkSs G m) : OkS G (.for tg it m) := by
  intro X W b st g hb c
  simp only [chkS] at c
  split at c
  · rename_i t v s1 pos
    simp only [Bool.and_eq_true] at c
    obtain ⟨⟨c1, c2⟩, c3⟩ := c
    obtain ⟨pi, nset⟩ := sndI G it X W b t v g c2
    refine PS.imp (ps_for g.own g.calm pi (pg_tg g c1) (hm X W b s1 g hb c3) (fset_of nset)) ?_
    rintro D σ H ⟨B, F, Γ, rel, P⟩
    simp only [evS] at P
    refine ⟨B, F, Γ, [], rel, P.liftI.imp ?_⟩
    rintro J H1 ⟨ds, Γ1, F1, fp, r1, ⟨rfl, wk⟩, sH1, sF1, P1⟩
    have r1 : Rel X.K B F1 H1 σ Γ1 [] := r1.nil
    generalize hstep : (fun d Γ2 => match bindTg tg d Γ2 with
      | some Γ3 => evSs G.cl G.con m Γ3
      | none => SR.bad) = step at P1
    refine for_it wk (fun i σ H => ∃ F Γ, Rel X.K B F H σ Γ [] ∧ Sub F1 F ∧ PostS X.K G W B F (forL step (ds.drop i) Γ) D) ⟨F1, Γ1, r1, Sub.rfl, P1⟩ ?_ ?_ ?_
    · rintro i σ' H' hi ⟨F2, Γ2, r2, sF2, P2⟩
      exact sF2.trans r2.sub
    · rintro i x σ' H2 H3 hi ⟨F2, Γ2, r2, sF2, P2⟩ y
      obtain ⟨d, F3, hd, r3, rdx, sF3, sH3⟩ := YD_ok y r2 sF2
      have ed : ds.drop i = d :: ds.drop (i + 1) := by
        rw [List.drop_eq_getElem_cons hi]
        rw [List.getElem?_eq_getElem hi] at hd
        rw [Option.some.inj hd]
      rw [ed] at P2
      simp only [forL] at P2
      have es := congrFun (congrFun hstep.symm d) Γ2
      cases eb : bindTg tg d Γ2 with
      | none =>
        have e3 : step d Γ2 = .bad := by rw [es, eb]
        rw [e3] at P2; exact P2.elim
      | some Γ3 =>
        refine bindTg_ok eb r3 rdx fun σ2 r4 _ => ⟨B, F3, Γ3, r4, ?_⟩
        have e3 : step d Γ2 = evSs G.cl G.con m Γ3 := by rw [es, eb]
        rw [e3] at P2
        cases eo : evSs G.cl G.con m Γ3 with
        | bad => simp only [eo] at P2; exact P2.elim
        | nx Γ4 =>
          simp only [eo] at P2
          exact fun σ4 F4 H4 r5 sF4 => ⟨F4, Γ4, r5, (sF2.trans sF3).trans sF4, P2.later (sF3.trans sF4)⟩
        | ct Γ4 =>
          simp only [eo] at P2
          exact fun σ4 F4 H4 r5 sF4 => ⟨F4, Γ4, r5, (sF2.trans sF3).trans sF4, P2.later (sF3.trans sF4)⟩
        | bk Γ4 =>
          simp only [eo] at P2
          exact fun σ4 F4 H4 r5 sF4 => P2 σ4 F4 H4 r5 (sF3.trans sF4)
        | rt t Γ4 =>
          simp only [eo] at P2
          exact fun v σ4 F4 H4 fp r5 rt nb sF4 => P2 v σ4 F4 H4 fp r5 rt nb (sF3.trans sF4)
        | ex x Γ4 =>
          simp only [eo] at P2
          exact fun c d σ4 F4 H4 r5 sF4 hx => P2 c d σ4 F4 H4 r5 (sF3.trans sF4) hx
    · rintro σ' H' ⟨F2, Γ2, r2, sF2, P2⟩
      rw [List.drop_length] at P2
      exact P2 σ' F2 H' r2 Sub.rfl
  · cases c
theorem oks_whl {n : Nat} {e : E} {m : Ss} (hm : OkSs G m) : OkS G (.whl n e m) := by
  intro X W b st g hb c
  simp only [chkS] at c
  split at c
  · rename_i v s1 pos
    simp only [Bool.and_eq_true] at c
    obtain ⟨c1, c3⟩ := c
    refine PS.imp (ps_while g.own ((snd G e).pt X W b v g c1) (hm X W b s1 g hb c3)) ?_
    rintro D σ H ⟨B, F, Γ, rel, P⟩
    simp only [evS] at P
    refine ⟨fun k σ H => ∃ F Γ, Rel X.K B F H σ Γ [] ∧ PostS X.K G W B F (whlL (evE G.cl G.con e) (evSs G.cl G.con m) k Γ) D, ⟨n, F, Γ, rel, P⟩, ?_⟩
    rintro k σ1 H1 ⟨F1, Γ1, r1, P1⟩
    show TE' X.K G W e σ1 H1 _
    cases k with
    | zero => exact P1.elim
    | succ k =>
      simp only [whlL] at P1
      refine ⟨B, F1, Γ1, [], r1, ?_⟩
      cases ee : evE G.cl G.con e Γ1 with
      | bad => simp only [ee] at P1; exact P1.elim
      | ex x Γ2 =>
        simp only [ee] at P1
        exact fun c d F' H' h1 h2 h3 h4 => P1 c d σ1 F' H' h1 h3 h4
      | ok t Γ2 =>
        rw [ee] at P1
        intro v F2 H2 fp r2 rt sH2 sF2
        have r2 : Rel X.K B F2 H2 σ1 Γ2 [] := r2.nil
        split at P1
        · rename_i Γ3 e3
          cases e3
          obtain ⟨rfl, _⟩ := bl_inv rt
          refine ⟨true, rfl, ?_⟩
          dsimp only
          rw [if_pos rfl]
          cases eo : evSs G.cl G.con m Γ2 with
          | bad => simp only [eo] at P1; exact P1.elim
          | nx Γ4 =>
            simp only [eo] at P1
            exact ⟨fun σ H => ∃ F Γ, Rel X.K B F H σ Γ [] ∧ PostS X.K G W B F (whlL (evE G.cl G.con e) (evSs G.cl G.con m) k Γ) D, fun σ' H' h => ⟨k, Nat.lt_succ_self k, h⟩, B, F2, Γ2, r2, by rw [eo]; exact fun σ4 F4 H4 r5 sF4 => ⟨F4, Γ4, r5, P1.later (sF2.trans sF4)⟩⟩
          | ct Γ4 =>
            simp only [eo] at P1
            exact ⟨fun σ H => ∃ F Γ, Rel X.K B F H σ Γ [] ∧ PostS X.K G W B F (whlL (evE G.cl G.con e) (evSs G.cl G.con m) k Γ) D, fun σ' H' h => ⟨k, Nat.lt_succ_self k, h⟩, B, F2, Γ2, r2, by rw [eo]; exact fun σ4 F4 H4 r5 sF4 => ⟨F4, Γ4, r5, P1.later (sF2.trans sF4)⟩⟩
          | bk Γ4 =>
            simp only [eo] at P1
            exact ⟨fun _ _ => False, fun σ' H' h => h.elim, B, F2, Γ2, r2, by rw [eo]; exact fun σ4 F4 H4 r5 sF4 => P1 σ4 F4 H4 r5 (sF2.trans sF4)⟩
          | rt t Γ4 =>
            simp only [eo] at P1
            exact ⟨fun _ _ => False, fun σ' H' h => h.elim, B, F2, Γ2, r2, by rw [eo]; exact fun v σ4 F4 H4 fp r5 rt nb sF4 => P1 v σ4 F4 H4 fp r5 rt nb (sF2.trans sF4)⟩
          | ex x Γ4 =>
            simp only [eo] at P1
            exact ⟨fun _ _ => False, fun σ' H' h => h.elim, B, F2, Γ2, r2, by rw [eo]; exact fun c d σ4 F4 H4 r5 sF4 hx => P1 c d σ4 F4 H4 r5 (sF2.trans sF4) hx⟩
        · rename_i Γ3 e3
          cases e3
          obtain ⟨rfl, _⟩ := bl_inv rt
          exact ⟨false, rfl, by dsimp only; rw [if_neg Bool.false_ne_true]; exact P1 σ1 F2 H2 r2 sF2⟩
        · rename_i e3; cases e3
        · exact P1.elim
  · cases c
theorem oks_nil : OkSs G .nil := by
  intro X W b st g hb c
  cases st with
  | nil =>
    refine PSs.imp pss_nil ?_
    rintro D σ H ⟨B, F, Γ, rel, P⟩
    exact P σ F H rel Sub.rfl
  | cons _ _ => simp [chkSs] at c
theorem oks_cons {s : S} {m : Ss} (h1 : OkS G s) (h2 : OkSs G m) : OkSs G (.cons s m) := by
  intro X W b st g hb c
  cases st with
  | nil => simp [chkSs] at c
  | cons x xs =>
    simp only [chkSs, Bool.and_eq_true] at c
    refine PSs.imp (pss_cons (h1 X W b x g hb c.1) (h2 X W b xs g hb c.2)) ?_
    rintro D σ H ⟨B, F, Γ, rel, P⟩
    simp only [evSs] at P
    refine ⟨B, F, Γ, rel, ?_⟩
    cases eo : evS G.cl G.con s Γ with
    | bad => rw [eo] at P; exact P.elim
    | nx Γ1 =>
      rw [eo] at P
      exact fun σ1 F1 H1 r1 sF1 => ⟨B, F1, Γ1, r1, P.later sF1⟩
    | bk Γ1 => rw [eo] at P; exact P
    | ct Γ1 => rw [eo] at P; exact P
    | rt t Γ1 => rw [eo] at P; exact P
    | ex x Γ1 => rw [eo] at P; exact P
end
mutual
theorem sndS (G : Glob) : ∀ m : S, OkS G m
  | .set _ _ => oks_set
  | .setF _ _ => oks_setF
  | .setT _ _ => oks_setT
  | .sto _ _ _ => oks_sto
  | .stoX _ _ _ _ => oks_stoX
  | .augV _ _ _ => oks_augV
  | .augS _ _ _ _ => oks_augS
  | .app _ _ => oks_app
  | .appX _ _ _ => oks_appX
  | .ext _ _ => oks_ext
  | .ex _ => oks_ex
  | .ife _ a b => oks_ife (sndSs G a) (sndSs G b)
  | .for _ _ a => oks_for (sndSs G a)
  | .whl _ _ a => oks_whl (sndSs G a)
  | .ret _ => oks_ret
  | .retN => oks_retN
  | .pass => oks_pass
  | .brk => oks_brk
  | .cnt => oks_cnt
  | .dead => oks_dead
theorem sndSs (G : Glob) : ∀ m : Ss, OkSs G m
  | .nil => oks_nil
  | .cons s m => oks_cons (sndS G s) (sndSs G m)
end

/-! ### defs -/
theorem start_rel {K : W.Frag} {N : List Str} {vs : List V} {F H : Hp} {ds : List Tv.D} (hF : Sub F H) (r : RpDs K F vs ds) : Rel K ⟨H, F⟩ F H (L2.start N vs) (env0 ds N.length) [] := by
  have rest : ∀ n, RpE K F H (List.replicate n none) (List.replicate n none) [] := by
    intro n
    induction n with
    | zero => exact .nil
    | succ n ih => exact .emp ih
  have all : ∀ {vs : List V} {ds : List Tv.D} {σ : L2.St} {Γ : Env}, RpDs K F vs ds → RpE K F H σ Γ [] → RpE K F H (vs.map some ++ σ) (ds.map (fun d => some (.v d)) ++ Γ) [] := by
    intro vs
    induction vs with
    | nil => intro ds σ Γ r h; cases r; exact h
    | cons v vs ih =>
      intro ds σ Γ r h
      cases r with
      | cons a b => exact RpE.fil (f := []) (.v a) rfl (ih b h)
  refine ⟨⟨[], ?_, fun a => by simp, fun a ha => by simp at ha⟩, hF, Sub.rfl, Sub.rfl, fun _ _ => rfl⟩
  unfold L2.start env0
  rw [r.length]
  exact all r (rest _)
theorem fn_len {K : W.Frag} {G : Glob} {f : String} {ps : List Str} (h : ∀ ds, ds.length ≠ ps.length → G.cl f ds = .bad) : ∀ vs H Q E, spE K G f vs H Q E → vs.length = ps.length := by
  rintro vs H Q E ⟨F, ds, hF, r, q⟩
  rw [r.length]
  by_cases hd : ds.length = ps.length
  · exact hd
  · rw [h ds hd] at q; exact q.elim
theorem nox_own {X : Cx} (hs : X.xe = fun _ _ => False) : PassesOwn (model X.prog X.w) X.A X.env X.xe := by
  rw [hs]; exact PassesOwn.never
end Tv

namespace Tv
open PySem PySem.Spec PyProof.Rows L2

/-! ### the module's constants -/
def D.toV : D → Option V
  | .non => some .non
  | .bl b => some (.bl b)
  | .int i => some (.int i)
  | .str s => some (.str ⟨s.toArray⟩)
  | _ => none
def toVs : List D → Option (List V)
  | [] => some []
  | d :: ds => match d.toV, toVs ds with
    | some v, some vs => some (v :: vs)
    | _, _ => none
theorem toV_ok {K : W.Frag} {F : Hp} {d : D} {v : V} (e : d.toV = some v) (h : match d with
    | .str s => okS s = true
    | _ => True) : RpD K F v d := by
  cases d with
  | non => cases e; exact .non
  | bl b => cases e; exact .bl b
  | int i => cases e; exact .int i
  | str s =>
    cases e
    have := RpD.str (K := K) (F := F) ⟨s.toArray⟩ (by simpa using h)
    simpa using this
  | _ => cases e
def okStr : D → Bool
  | .str s => okS s
  | _ => true
theorem toVs_ok {K : W.Frag} {F : Hp} : ∀ {ds : List D} {vs : List V}, toVs ds = some vs → ds.all okStr = true → RpDs K F vs ds
  | [], _, e, _ => by cases e; exact .nil
  | d :: ds, vs, e, h => by
    unfold toVs at e
    split at e
    · rename_i v vs' e1 e2
      cases e
      rw [List.all_cons, Bool.and_eq_true] at h
      refine .cons (toV_ok e1 ?_) (toVs_ok e2 h.2)
      cases d <;> first | trivial | exact h.1
    · cases e
/-- the module's name x is d -/
def cOK (K : W.Frag) (x : String) (d : D) : Bool := match d with
  | .tup ds => decide (PySem.W.nsIn K mainGlobals (Str.ofString x) = some (some (.ref (He.ga K (Str.ofString x))))) && ds.all okStr && (match toVs ds, K.lookup (He.ga K (Str.ofString x)) with
    | some vs, some ⟨.type c, _, .seq its _, _⟩ => decide (c = "tuple") && (decide (its.size ≤ sizeLine) && He.relAll vs its.toList)
    | _, _ => false)
  | d => okStr d && (match d.toV, PySem.W.nsIn K mainGlobals (Str.ofString x) with
    | some v, some (some u) => He.relB v u
    | _, _ => false)
section
variable {K : W.Frag} {h : Heap} {mg : Str → Option Value}
theorem cOK_ok (X : K.In h) (G : h.Ns mainGlobals mg) {x : String} {d : D} (c : cOK K x d = true) : ∃ u v, mg (Str.ofString x) = some u ∧ RelV v u ∧ RpD K (fun _ => none) v d := by
  have plain : okStr d = true → (∀ ds, d ≠ .tup ds) → (match d.toV, PySem.W.nsIn K mainGlobals (Str.ofString x) with
    | some v, some (some u) => He.relB v u
    | _, _ => false) = true → ∃ u v, mg (Str.ofString x) = some u ∧ RelV v u ∧ RpD K (fun _ => none) v d := by
    intro hs _ hc
    split at hc
    · rename_i v u e1 e2
      refine ⟨u, v, PySem.W.mg_of X G e2, He.relB_ok hc, toV_ok e1 ?_⟩
      cases d <;> first | trivial | exact hs
    · cases hc
  cases d with
  | tup ds =>
    simp only [cOK, Bool.and_eq_true, decide_eq_true_eq] at c
    obtain ⟨⟨c1, c2⟩, c3⟩ := c
    split at c3
    · rename_i vs c0 od its n sl e1 e2
      simp only [Bool.and_eq_true, decide_eq_true_eq] at c3
      obtain ⟨c4, c5, c6⟩ := c3
      refine ⟨_, .ref (He.ga K (Str.ofString x)), PySem.W.mg_of X G c1, rfl, .tup (xs := vs) ?_ (toVs_ok e1 c2)⟩
      exact .inr ⟨_, its, n, e2, congrArg Value.type c4, rfl, c5, He.relAll_ok c6⟩
    · cases c3
  | non => simp only [cOK, Bool.and_eq_true] at c; exact plain c.1 (fun _ z => by cases z) c.2
  | bl b => simp only [cOK, Bool.and_eq_true] at c; exact plain c.1 (fun _ z => by cases z) c.2
  | int i => simp only [cOK, Bool.and_eq_true] at c; exact plain c.1 (fun _ z => by cases z) c.2
  | str s => simp only [cOK, Bool.and_eq_true] at c; exact plain c.1 (fun _ z => by cases z) c.2
  | lst ds => simp [cOK, D.toV] at c
  | scr ds => simp [cOK, D.toV] at c
  | dic0 => simp [cOK, D.toV] at c
end

/-! ### the whole text -/
structure FnI where
  N : List Str
  ps : List Str
structure Df where
  nm : String
  d : He.DefD
  fn : Fn
  i : FnI
def Df.good (fns : List String) (e : Df) : Bool :=
  C8.scC e.i.N e.i.ps e.d.scope && decide (e.fn.np = e.i.ps.length) && decide (e.fn.ns = e.i.N.length) && chkSs e.i.N e.d.scope ⟨false, fns⟩ e.fn.body e.d.body
def Df.plain (e : Df) : Prop := e.d.at_ = (Str.ofString e.nm, none) ∧ e.d.dfl = [] ∧ e.d.kwd = [] ∧
  ∀ (kV doc pm : Value) (an : Option Addr) (cdv ct : Value) (us : List Value), us.length = e.i.ps.length → bindArgs (PySem.W.fnOf e.d.name e.d.qual e.d.params e.d.body e.d.scope .none kV doc pm an cdv ct) ⟨us, []⟩ = pure (e.i.ps.zip us)
def tblP (ds : List Df) (f : String) : Option Fn := (ds.find? fun e => e.nm == f).map (·.fn)
def tblC (cs : List (String × D)) (x : String) : Option D := cs.lookup x
/-- what the written part must say -/
def tvB (fs : List String) (cs : List (String × D)) (K : W.Frag) : Bool :=
  (fs.all fun f => decide (PySem.W.nsIn K mainGlobals (Str.ofString f) = some (some (.ref (He.ga K (Str.ofString f)))))) && (cs.all fun c => cOK K c.1 c.2) && (bltNames.all fun x => decide (PySem.W.nsIn K mainGlobals (Str.ofString x) = some none))
structure Txt (ds : List Df) (cs : List (String × D)) : Prop where
  good : ∀ e ∈ ds, e.good (ds.map Df.nm) = true
  plain : ∀ e ∈ ds, e.plain
  nd : (ds.map Df.nm).Nodup
theorem find_nm {ds : List Df} (nd : (ds.map Df.nm).Nodup) {e : Df} (h : e ∈ ds) : ds.find? (fun x => x.nm == e.nm) = some e := by
  induction ds with
  | nil => cases h
  | cons d ds ih =>
    rw [List.map_cons, List.nodup_cons] at nd
    rw [List.find?_cons]
    rcases List.mem_cons.mp h with rfl | h
    · simp
    · have : (d.nm == e.nm) = false := by
        rw [beq_eq_false_iff_ne]
        intro z
        exact nd.1 (by rw [z]; exact List.mem_map_of_mem h)
      rw [this]
      exact ih nd.2 h
section
variable {P : Program} {w : World} {K : W.Frag} {mg : Str → Option Value} {base : Heap} {ds : List Df} {cs : List (String × D)}
abbrev gl (ds : List Df) (cs : List (String × D)) (exr : Exn → Value → Option Addr → Hp → Hp → Prop) (k : Nat) : Glob := ⟨evF (tblP ds) (tblC cs) k, tblC cs, exr⟩
abbrev FD (K : W.Frag) (e : Df) (fd : FuncData) : Prop := FunD K e.d.name e.d.qual e.d.params e.d.body e.d.scope (e.d.dvs K) (e.d.kws K) (He.fAd K e.d.at_) fd
theorem lookup_mem {cs : List (String × D)} {x : String} {d : D} (h : cs.lookup x = some d) : (x, d) ∈ cs := by
  induction cs with
  | nil => cases h
  | cons c cs ih =>
    obtain ⟨y, e⟩ := c
    rw [List.lookup_cons] at h
    split at h
    · rename_i q
      cases h
      rw [eq_of_beq q]
      exact List.mem_cons_self
    · exact List.mem_cons_of_mem _ (ih h)
theorem all_ok {exr : Exn → Value → Option Addr → Hp → Hp → Prop} (T : Txt ds cs) (X : K.In base) (G : base.Ns mainGlobals mg) (hB : tvB (ds.map Df.nm) cs K = true) (hF : ∀ e ∈ ds, ∃ fd, FD K e fd) :
    ∀ k, ∀ e ∈ ds, ∀ fd, FD K e fd → FnOk P w K mg base (L2.CX P w) k (He.fAd K e.d.at_) fd e.i.ps (spE K (gl ds cs exr k) e.nm) := by
  unfold tvB at hB
  simp only [Bool.and_eq_true, List.all_eq_true, decide_eq_true_eq] at hB
  obtain ⟨⟨h1, h2⟩, h3⟩ := hB
  have mgf : ∀ e ∈ ds, mg (Str.ofString e.nm) = some (.ref (He.fAd K e.d.at_)) := fun e he => by
    have := PySem.W.mg_of X G (h1 e.nm (List.mem_map_of_mem he))
    rw [(T.plain e he).1]
    exact this
  intro k
  induction k with
  | zero =>
    intro e he fd F
    exact ⟨fun vs H Q E h => by obtain ⟨F0, ds0, _, _, q⟩ := h; exact q.elim, fun A outer s H args us vs Q E _ _ _ _ h => by obtain ⟨F0, ds0, _, _, q⟩ := h; exact q.elim⟩
  | succ k ih =>
    intro e he fd F
    have gd := T.good e he
    unfold Df.good at gd
    simp only [Bool.and_eq_true, decide_eq_true_eq] at gd
    obtain ⟨⟨⟨g1, g2⟩, g3⟩, g4⟩ := gd
    have sc := C8.fnScope_by g1
    have eP : tblP ds e.nm = some e.fn := by unfold tblP; rw [find_nm T.nd he]; rfl
    refine F.ok sc (fn_len fun xs hx => ?_) (fun cdv A outer s H vs Q E hr h => ?_)
    · show evF (tblP ds) (tblC cs) (k + 1) e.nm xs = .bad
      simp only [evF, eP]
      rw [if_neg (by rw [g2]; exact hx)]
    · obtain ⟨F0, xs, hF0, rx, q⟩ := h
      have q : (match evF (tblP ds) (tblC cs) (k + 1) e.nm xs with
        | .bad => False
        | .ret t => ∀ v F' H' fp, Sub H H' → Sub F0 F' → Sub F' H' → (∀ a, H a ≠ none → F' a = F0 a) → RpT K F' H' v t fp → t.noB = true → (∀ a, fp.count a ≤ 1) → (∀ a ∈ fp, F' a = none ∧ H a = none ∧ H' a ≠ none) → Q v H'
        | .ex x => ∀ c d F' H', Sub H H' → Sub F0 F' → Sub F' H' → (∀ a, H a ≠ none → F' a = F0 a) → exr x c d F' H' → E c d H') := q
      refine ⟨TMS K (gl ds cs exr k) (fun cls d _ H => E cls d H) (evSs (evF (tblP ds) (tblC cs) k) (tblC cs) e.fn.body), ?_, ?_⟩
      · refine sndSs (gl ds cs exr k) e.fn.body (cxOf (L2.CX P w) P w K mg base e.i.N e.d.qual e.d.scope (He.fAd K e.d.at_) cdv A outer s H E) _ ⟨false, ds.map Df.nm⟩ e.d.body ?_ rfl g4
        refine { nd := sc.nd, calm := rfl, own := passes_of rfl, tk := takes_of rfl rfl rfl rfl, hu := ?_, st := fun _ _ => rfl, con := ?_, blt := ?_, fn := ?_ }
        · have := hr.un
          show (A.deeper _).units + 66 < cLine
          omega
        · intro x d hd
          exact cOK_ok X G (h2 (x, d) (lookup_mem hd))
        · intro x hx
          exact PySem.W.mg_none_of X G (h3 x hx)
        · intro f hf
          obtain ⟨e', he', rfl⟩ := List.mem_map.mp hf
          obtain ⟨fd', F'⟩ := hF e' he'
          obtain ⟨p1, p2, p3, p4⟩ := T.plain e' he'
          refine ⟨_, fd', e'.i.ps, k, mgf e' he', F'.kp, ?_, ih e' he' fd' F', hr⟩
          have F2 : FunD K e'.d.name e'.d.qual e'.d.params e'.d.body e'.d.scope [] (e'.d.kws K) (He.fAd K e'.d.at_) fd' := by
            have : e'.d.dvs K = [] := by unfold He.DefD.dvs; rw [p2]; rfl
            rw [← this]; exact F'
          exact F2.bindsN p4
      · have hns : e.fn.ns = e.i.N.length := g3
        have hl : xs.length = e.fn.np := by
          cases hx : decide (xs.length = e.fn.np) with
          | true => exact of_decide_eq_true hx
          | false =>
            simp only [evF, eP] at q
            rw [if_neg (of_decide_eq_false hx)] at q
            exact q.elim
        simp only [evF, eP] at q
        rw [if_pos hl, hns] at q
        refine ⟨⟨H, F0⟩, F0, env0 xs e.i.N.length, start_rel hF0 rx, ?_⟩
        cases er : evSs (evF (tblP ds) (tblC cs) k) (tblC cs) e.fn.body (env0 xs e.i.N.length) with
        | bad => rw [er] at q; exact q.elim
        | bk Γ => rw [er] at q; exact q.elim
        | ct Γ => rw [er] at q; exact q.elim
        | nx Γ =>
          rw [er] at q
          intro σ' F' H' r' sF
          exact q .non F' H' [] r'.keep r'.keepF r'.sub r'.newF (.v .non) rfl (fun a => by simp) (fun a ha => by simp at ha)
        | rt t Γ =>
          rw [er] at q
          intro v σ' F' H' fp r' rt nb sF
          simp only [toCR] at q
          rw [if_pos nb] at q
          obtain ⟨f, h1', h2', h3'⟩ := r'.env
          exact q v F' H' fp r'.keep r'.keepF r'.sub r'.newF rt nb (fun a => by have := h2' a; omega) (fun a ha => h3' a (.inr ha))
        | ex x Γ =>
          rw [er] at q
          intro c d σ' F' H' r' sF hx
          exact q c d F' H' r'.keep r'.keepF r'.sub r'.newF hx
end

/-! ### the head's Hook -/
def obsV (p : W.Frag → Bool) (fn : List He.DefD) (K : W.Frag) : He.AlD := (p K && fn.all fun d => d.ok K, fn.map fun d => He.fnW K d.at_)
def obsVG (n : Nat) (p : W.Frag → Bool) (fn : List He.DefD) (g : Addr → Option Obj) : He.AlD := obsV p fn (He.frG g (He.asD g n))
def hookV (n : Nat) (p : W.Frag → Bool) (fn : List He.DefD) : PySem.W.Hook where
  α := He.AlD
  obs := fun s => obsVG n p fn s.heap.get?
  val := fun _ => He.valD fn
  says := fun _ h => ∃ K : PySem.W.Frag, K.In h ∧ obsV p fn K = He.valD fn
  of := fun _ _ e => ⟨_, He.frG_in, e⟩
  keeps := fun _ _ _ ⟨K, hK, c⟩ k => ⟨K, PySem.W.Frag.In.keeps hK k, c⟩
theorem obsV_ok {p : W.Frag → Bool} {fn : List He.DefD} {K : W.Frag} (c : obsV p fn K = He.valD fn) : p K = true ∧ ∀ d ∈ fn, ∃ fd, FunD K d.name d.qual d.params d.body d.scope (d.dvs K) (d.kws K) (He.fAd K d.at_) fd := by
  have c1 := He.ba (show (p K && fn.all fun d => d.ok K) = true from congrArg (fun z : He.AlD => z.1) c)
  refine ⟨c1.1, fun d hd => ?_⟩
  have e : fn.map (fun d => He.fnW K d.at_) = fn.map He.DefD.val := congrArg (fun z : He.AlD => z.2) c
  obtain ⟨i, hi, rfl⟩ := List.mem_iff_getElem.mp hd
  have e2 : (fn.map fun d => He.fnW K d.at_)[i]? = (fn.map He.DefD.val)[i]? := by rw [e]
  rw [List.getElem?_map, List.getElem?_map, List.getElem?_eq_getElem hi] at e2
  exact He.DefD.funD (Option.some.inj e2) (List.all_eq_true.mp c1.2 _ hd)
def obV (n : Nat) (p : W.Frag → Bool) (fn : List He.DefD) (s : PySem.W.SharedT) : He.AlD := obsVG n p fn (HandSHeadRun.getT s)
theorem obV_eq {n : Nat} {p : W.Frag → Bool} {fn : List He.DefD} (s : PySem.W.SharedT) : obV n p fn s = (hookV n p fn).obs s.abs := by
  have e : HandSHeadRun.getT s = s.abs.heap.get? := funext (HandSHeadRun.getT_eq s)
  unfold obV
  rw [e]; rfl
/-- the law's end -/
theorem law_end {l : PySem.W.OpenLaw} {n k : Nat} {q : Program} {loose : List Str} {XP : (Str → Option Value) → Heap → Prop} {d : DefRec} {ds : List Df} {cs : List (String × D)} {m : Nat} {el : Df} {x : Str}
    (T : Txt ds cs) (hel : el ∈ ds) (hps : el.i.ps = [x]) (hn : l.most = some n) (hn2 : n ≤ sizeLine) (hdf : d.params.defaults = []) (hr : Room k callerA) (hd : d.name = Str.ofString el.nm)
    (hlaw : ∀ ns : List Int, ns.length ≤ n → evF (tblP ds) (tblC cs) k el.nm [.scr ns] = .ret (.v (.bl true))) :
    PySem.W.WalkO q loose XP (hookV m (tvB (ds.map Df.nm) cs) (ds.map Df.d)).says l.row.toRowW d [] (fun f vs => PySem.call f vs) := by
  refine Att.attach_call hn hdf fun w s₀ s₁ mg mb fa o pm cd doc a vs ns G Y ho hd' hcd hmg hobj hints hlen hg => ?_
  obtain ⟨K, KX, c⟩ := Y
  obtain ⟨hB, hfd⟩ := obsV_ok c
  have hF : ∀ e ∈ ds, ∃ fd, FD K e fd := fun e he => hfd e.d (List.mem_map_of_mem he)
  obtain ⟨fd, F⟩ := hF el hel
  obtain ⟨p1, p2, p3, p4⟩ := T.plain el hel
  have e1 : mg d.name = some (.ref (He.fAd K el.d.at_)) := by
    have hB' := hB
    unfold tvB at hB'
    simp only [Bool.and_eq_true, List.all_eq_true, decide_eq_true_eq] at hB'
    have := PySem.W.mg_of KX G.T.g (hB'.1.1 el.nm (List.mem_map_of_mem hel))
    rw [hd, p1]
    exact this
  have e2 : fa = He.fAd K el.d.at_ := by
    rw [hmg] at e1
    cases e1; rfl
  subst e2
  have F2 : FunD K el.d.name el.d.qual el.d.params el.d.body el.d.scope [] (el.d.kws K) (He.fAd K el.d.at_) fd := by
    have : el.d.dvs K = [] := by unfold He.DefD.dvs; rw [p2]; rfl
    rw [← this]; exact F
  refine law_call (fd := fd) (CX := L2.CX l.prog w) (sp := spE K (gl ds cs (fun _ _ _ _ _ => False) k) el.nm) (x := x) KX G.T.g G.T.b G.T.builtins G.T.nolimit hg hobj hints (Nat.le_trans hlen hn2) hr ?_ ?_ ?_ ?_
  · intro base hb hg'
    rw [← hps]
    exact all_ok T hb hg' hB hF k el hel fd F
  · intro s u
    have := F2.bindsA p4 s [u] (by rw [hps]; rfl)
    rw [hps] at this
    exact this
  · intro H hO hS
    refine ⟨H, [.scr ns], Sub.rfl, .cons (.scr hS) .nil, ?_⟩
    show match evF (tblP ds) (tblC cs) k el.nm [.scr ns] with
      | .bad => False
      | .ret t => _
      | .ex x => _
    rw [hlaw ns hlen]
    intro v F' H' fp _ _ _ _ rt _ _ _
    exact (bl_inv rt).1
  · intro H e s' h
    obtain ⟨a, B, H', cls, d, _, _, _, _, _, _, _, z⟩ := h
    exact z
end Tv

namespace Tv
open PySem

/-! ### running small trees by simp: what comes later is not looked at ahead of time -/
theorem R.bind_congr {α β : Type} {r r' : R α} {f : α → Env → R β} (h : r = r') : r.bind f = r'.bind f := by rw [h]
theorem liftE_congr {r r' : R T} {f : T → Env → SR} (h : r = r') : liftE r f = liftE r' f := by rw [h]
theorem liftI_congr {r r' : R (List D)} {f : List D → Env → SR} (h : r = r') : liftI r f = liftI r' f := by rw [h]
theorem forL_congr {step : D → Env → SR} {ds ds' : List D} {Γ Γ' : Env} (h : ds = ds') (h2 : Γ = Γ') : forL step ds Γ = forL step ds' Γ' := by rw [h, h2]
theorem lcL_congr {step : D → Env → R (Option T)} {ds ds' : List D} {Γ Γ' : Env} {acc acc' : List T} (h : ds = ds') (h2 : Γ = Γ') (h3 : acc = acc') : lcL step ds Γ acc = lcL step ds' Γ' acc' := by rw [h, h2, h3]
theorem whlL_congr {c : Env → R T} {b : Env → SR} {n n' : Nat} {Γ Γ' : Env} (h : n = n') (h2 : Γ = Γ') : whlL c b n Γ = whlL c b n' Γ' := by rw [h, h2]
def SR.seq (r : SR) (f : Env → SR) : SR := match r with
  | .nx Γ => f Γ
  | r => r
theorem SR.seq_congr {r r' : SR} {f : Env → SR} (h : r = r') : r.seq f = r'.seq f := by rw [h]
def ifS (t : T) (x y : SR) : SR := match t with
  | .v (.bl true) => x
  | .v (.bl false) => y
  | _ => .bad
theorem ifS_congr {t t' : T} {x y : SR} (h : t = t') : ifS t x y = ifS t' x y := by rw [h]
def ifR {α : Type} (t : T) (x y : R α) : R α := match t with
  | .v (.bl true) => x
  | .v (.bl false) => y
  | _ => .bad
theorem ifR_congr {α : Type} {t t' : T} {x y : R α} (h : t = t') : ifR t x y = ifR t' x y := by rw [h]
def getK {α : Type} (o : Option (Option T)) (f : T → R α) : R α := match o with
  | some (some t) => f t
  | _ => .bad
theorem getK_congr {α : Type} {o o' : Option (Option T)} {f : T → R α} (h : o = o') : getK o f = getK o' f := by rw [h]
def callK (r : CR) (Γ : Env) : R T := match r with
  | .bad => .bad
  | .ret t => .ok t Γ
  | .ex x => .ex x Γ
def optK {α β : Type} (o : Option α) (f : α → R β) : R β := match o with
  | some a => f a
  | none => .bad
theorem optK_congr {α β : Type} {o o' : Option α} {f : α → R β} (h : o = o') : optK o f = optK o' f := by rw [h]
def optS {α : Type} (o : Option α) (f : α → SR) : SR := match o with
  | some a => f a
  | none => .bad
theorem optS_congr {α : Type} {o o' : Option α} {f : α → SR} (h : o = o') : optS o f = optS o' f := by rw [h]
def gdR {α : Type} (b : Bool) (r : R α) : R α := if b then r else .bad
theorem gdR_congr {α : Type} {b b' : Bool} {r : R α} (h : b = b') : gdR b r = gdR b' r := by rw [h]
def gdS (b : Bool) (r : SR) : SR := if b then r else .bad
theorem gdS_congr {b b' : Bool} {r : SR} (h : b = b') : gdS b r = gdS b' r := by rw [h]
def intK {α : Type} (t : T) (f : Int → R α) : R α := match t with
  | .v (.int i) => f i
  | _ => .bad
theorem intK_congr {α : Type} {t t' : T} {f : Int → R α} (h : t = t') : intK t f = intK t' f := by rw [h]
@[simp] theorem bind_ok {α β : Type} (a : α) (Γ : Env) (f : α → Env → R β) : (R.ok a Γ).bind f = f a Γ := rfl
@[simp] theorem bind_bad {α β : Type} (f : α → Env → R β) : (R.bad : R α).bind f = .bad := rfl
@[simp] theorem bind_ex {α β : Type} (x : Exn) (Γ : Env) (f : α → Env → R β) : (R.ex x Γ : R α).bind f = .ex x Γ := rfl
@[simp] theorem op_some {α : Type} (a : α) (Γ : Env) : R.op (some a) Γ = .ok a Γ := rfl
@[simp] theorem op_none {α : Type} (Γ : Env) : R.op (none : Option α) Γ = .bad := rfl
@[simp] theorem liftE_ok (a : T) (Γ : Env) (f : T → Env → SR) : liftE (.ok a Γ) f = f a Γ := rfl
@[simp] theorem liftI_ok (a : List D) (Γ : Env) (f : List D → Env → SR) : liftI (.ok a Γ) f = f a Γ := rfl
@[simp] theorem liftE_ex (x : Exn) (Γ : Env) (f : T → Env → SR) : liftE (.ex x Γ) f = .ex x Γ := rfl
@[simp] theorem putO_some (Γ : Env) (i : Nat) (t : T) : putO Γ i (some t) = .nx (Γ.set i (some t)) := rfl
@[simp] theorem seq_nx (Γ : Env) (f : Env → SR) : (SR.nx Γ).seq f = f Γ := rfl
@[simp] theorem seq_rt (t : T) (Γ : Env) (f : Env → SR) : (SR.rt t Γ).seq f = .rt t Γ := rfl
@[simp] theorem seq_ct (Γ : Env) (f : Env → SR) : (SR.ct Γ).seq f = .ct Γ := rfl
@[simp] theorem seq_bk (Γ : Env) (f : Env → SR) : (SR.bk Γ).seq f = .bk Γ := rfl
@[simp] theorem seq_ex (x : Exn) (Γ : Env) (f : Env → SR) : (SR.ex x Γ).seq f = .ex x Γ := rfl
@[simp] theorem ifS_t (x y : SR) : ifS (.v (.bl true)) x y = x := rfl
@[simp] theorem ifS_f (x y : SR) : ifS (.v (.bl false)) x y = y := rfl
@[simp] theorem ifR_t {α : Type} (x y : R α) : ifR (.v (.bl true)) x y = x := rfl
@[simp] theorem ifR_f {α : Type} (x y : R α) : ifR (.v (.bl false)) x y = y := rfl
@[simp] theorem getK_s {α : Type} (t : T) (f : T → R α) : getK (some (some t)) f = f t := rfl
@[simp] theorem callK_ret (t : T) (Γ : Env) : callK (.ret t) Γ = .ok t Γ := rfl
@[simp] theorem callK_ex (x : Exn) (Γ : Env) : callK (.ex x) Γ = .ex x Γ := rfl
@[simp] theorem optK_s {α β : Type} (a : α) (f : α → R β) : optK (some a) f = f a := rfl
@[simp] theorem optS_s {α : Type} (a : α) (f : α → SR) : optS (some a) f = f a := rfl
@[simp] theorem gdR_t {α : Type} (r : R α) : gdR true r = r := rfl
@[simp] theorem gdS_t (r : SR) : gdS true r = r := rfl
@[simp] theorem intK_i {α : Type} (i : Int) (f : Int → R α) : intK (.v (.int i)) f = f i := rfl
section
variable {cl : Calls} {con : String → Option D} {Γ : Env} {a b c e : E} {as : Es} {i : Nat}
@[simp] theorem e_var : evE cl con (.var i) Γ = getK (Γ[i]?) fun t => .ok (bor t) Γ := rfl
@[simp] theorem e_frz : evE cl con (.frz i) Γ = getK (Γ[i]?) fun t => if isV t then .ok t Γ else .ok (.v t.er) (Γ.set i (some (.v t.er))) := rfl
@[simp] theorem e_mov : evE cl con (.mov i) Γ = getK (Γ[i]?) fun t => .ok t (Γ.set i none) := rfl
@[simp] theorem e_int {j : Int} : evE cl con (.int j) Γ = .ok (.v (.int j)) Γ := rfl
@[simp] theorem e_str {s : List Nat} : evE cl con (.str s) Γ = .ok (.v (.str s)) Γ := rfl
@[simp] theorem e_non : evE cl con .non Γ = .ok (.v .non) Γ := rfl
@[simp] theorem e_bl {k : Bool} : evE cl con (.bl k) Γ = .ok (.v (.bl k)) Γ := rfl
@[simp] theorem e_glb {x : String} : evE cl con (.glb x) Γ = optK (con x) fun d => .ok (.v d) Γ := by simp only [evE]; cases con x <;> rfl
@[simp] theorem e_bin {o : BOp} : evE cl con (.bin o a b) Γ = (evE cl con a Γ).bind fun x Γ1 => (evE cl con b Γ1).bind fun y Γ2 => R.op (binT o x y) Γ2 := rfl
@[simp] theorem e_neg : evE cl con (.neg a) Γ = (evE cl con a Γ).bind fun x Γ1 => intK x fun i => .ok (.v (.int (-i))) Γ1 := rfl
def notK (t : T) (Γ : Env) : R T := match t with
  | .v (.bl b) => .ok (.v (.bl (!b))) Γ
  | _ => .bad
@[simp] theorem notK_b {k : Bool} : notK (.v (.bl k)) Γ = .ok (.v (.bl (!k))) Γ := rfl
@[simp] theorem e_not : evE cl con (.not a) Γ = (evE cl con a Γ).bind fun x Γ1 => notK x Γ1 := rfl
@[simp] theorem e_cmp {o : COp} : evE cl con (.cmp o a b) Γ = (evE cl con a Γ).bind fun x Γ1 => (evE cl con b Γ1).bind fun y Γ2 => R.op ((cmpT o x y).map fun c => .v (.bl c)) Γ2 := rfl
@[simp] theorem e_isN : evE cl con (.isN a) Γ = (evE cl con a Γ).bind fun x Γ1 => .ok (.v (.bl x.er.isNon)) Γ1 := rfl
@[simp] theorem e_notN : evE cl con (.notN a) Γ = (evE cl con a Γ).bind fun x Γ1 => .ok (.v (.bl (!x.er.isNon))) Γ1 := rfl
@[simp] theorem e_cmp2 {o p : COp} : evE cl con (.cmp2 o p a b c) Γ = (evE cl con a Γ).bind fun x Γ1 => (evE cl con b Γ1).bind fun y Γ2 => optK (cmpT o x y) fun k => ifR (.v (.bl k)) ((evE cl con c Γ2).bind fun z Γ3 => R.op ((cmpT p y z).map fun c => .v (.bl c)) Γ3) (.ok (.v (.bl false)) Γ2) := by
  simp only [evE]
  refine congrArg _ (funext fun x => funext fun Γ1 => congrArg _ (funext fun y => funext fun Γ2 => ?_))
  cases cmpT o x y with
  | none => rfl
  | some k => cases k <;> rfl
@[simp] theorem e_and : evE cl con (.and a b) Γ = (evE cl con a Γ).bind fun x Γ1 => ifR x (evE cl con b Γ1) (.ok (.v (.bl false)) Γ1) := rfl
@[simp] theorem e_or : evE cl con (.or a b) Γ = (evE cl con a Γ).bind fun x Γ1 => ifR x (.ok (.v (.bl true)) Γ1) (evE cl con b Γ1) := by
  simp only [evE]
  refine congrArg _ (funext fun x => funext fun Γ1 => ?_)
  cases x with
  | v d => cases d with
    | bl b => cases b <;> rfl
    | _ => rfl
  | _ => rfl
@[simp] theorem e_call {f : String} : evE cl con (.call f as) Γ = (evEs cl con as Γ).bind fun ts Γ1 => optK (fzs ts) fun ds => callK (cl f ds) Γ1 := by
  simp only [evE]
  refine congrArg _ (funext fun ts => funext fun Γ1 => ?_)
  cases fzs ts <;> rfl
@[simp] theorem e_lrn : evE cl con (.lrn a) Γ = (evE cl con a Γ).bind fun x Γ1 => intK x fun j => gdR (small62 j && decide (j ≤ LIM)) (.ok (.l ((List.range j.toNat).map fun (i : Nat) => T.v (.int (i : Int)))) Γ1) := rfl
def callBK (r : CR) (Γ : Env) : R T := match r with
  | .ret (.v d) => gdR d.flat (.ok (.v d) Γ)
  | _ => .bad
@[simp] theorem callBK_v (d : D) (Γ : Env) : callBK (.ret (.v d)) Γ = gdR d.flat (.ok (.v d) Γ) := rfl
@[simp] theorem e_callB {f : String} : evE cl con (.callB f as) Γ = (evEs cl con as Γ).bind fun ts Γ1 => callBK (cl f (ts.map T.er)) Γ1 := by
  simp only [evE]
  refine congrArg _ (funext fun ts => funext fun Γ1 => ?_)
  rw [ers_map]
  cases h : cl f (ts.map T.er) with
  | ret t => cases t <;> first | rfl | (simp only [callBK, gdR]; split <;> simp_all)
  | _ => rfl
@[simp] theorem e_blt {f : BF} : evE cl con (.blt f as) Γ = (evEs cl con as Γ).bind fun ts Γ1 => R.op (bltT f ts) Γ1 := rfl
@[simp] theorem e_meth {m : MF} : evE cl con (.meth m a b) Γ = (evE cl con a Γ).bind fun x Γ1 => gdR (mTy m x) ((evE cl con b Γ1).bind fun y Γ2 => R.op (methT m x y) Γ2) := rfl
@[simp] theorem e_isi {t : Ty} : evE cl con (.isi a t) Γ = (evE cl con a Γ).bind fun x Γ1 => .ok (.v (.bl (x.er.isi t))) Γ1 := rfl
@[simp] theorem e_ix : evE cl con (.ix a b) Γ = (evE cl con a Γ).bind fun x Γ1 => (evE cl con b Γ1).bind fun y Γ2 => R.op (ixT x y) Γ2 := rfl
@[simp] theorem e_sl {lo hi : OE} : evE cl con (.sl a lo hi) Γ = (evE cl con a Γ).bind fun x Γ1 => (evO cl con lo Γ1).bind fun l Γ2 => (evO cl con hi Γ2).bind fun h Γ3 => R.op (slT x l h) Γ3 := rfl
@[simp] theorem e_rev : evE cl con (.rev a) Γ = (evE cl con a Γ).bind fun x Γ1 => R.op (revT x) Γ1 := rfl
@[simp] theorem e_lst : evE cl con (.lst as) Γ = (evEs cl con as Γ).bind fun ts Γ1 => gdR (T.noBs ts && decide (ts.length ≤ LIM)) (.ok (.l ts) Γ1) := rfl
@[simp] theorem e_tup : evE cl con (.tup as) Γ = (evEs cl con as Γ).bind fun ts Γ1 => gdR (T.noBs ts && decide (ts.length ≤ LIM)) (.ok (.tp ts) Γ1) := rfl
@[simp] theorem e_dic0 : evE cl con .dic0 Γ = .ok (.v .dic0) Γ := rfl
/-- a comprehension's turn -/
def lcS (cl : Calls) (con : String → Option D) (own : List Nat) (tg : Tg) (c : OE) (e : E) (d : D) (Γ2 : Env) : R (Option T) := optK (bindTg tg d Γ2) fun Γ3 => (evC cl con c Γ3).bind fun b Γ4 => ifR (.v (.bl b)) ((evE cl con e Γ4).bind fun t Γ5 => gdR t.noB (.ok (some t) (wipeE Γ5 own))) (.ok none (wipeE Γ4 own))
@[simp] theorem e_lc {own : List Nat} {tg : Tg} {it : I} {m : OE} : evE cl con (.lc own tg it m e) Γ = (evI cl con it Γ).bind fun ds Γ1 => gdR (decide (ds.length ≤ LIM)) ((lcL (lcS cl con own tg m e) ds (wipeE Γ1 own) []).bind fun ts Γ6 => .ok (.l ts) (restE Γ1 Γ6 own)) := by
  have key : lcS cl con own tg m e = fun d Γ2 => match bindTg tg d Γ2 with
      | none => .bad
      | some Γ3 => (evC cl con m Γ3).bind fun b Γ4 => match b with
        | false => .ok none (wipeE Γ4 own)
        | true => (evE cl con e Γ4).bind fun t Γ5 => if t.noB then .ok (some t) (wipeE Γ5 own) else .bad := by
    funext d Γ2
    unfold lcS
    cases bindTg tg d Γ2 with
    | none => rfl
    | some Γ3 =>
      show R.bind _ _ = R.bind _ _
      refine congrArg _ (funext fun b => funext fun Γ4 => ?_)
      cases b <;> rfl
  simp only [evE]
  refine congrArg _ (funext fun ds => funext fun Γ1 => ?_)
  unfold gdR
  rw [key]
  by_cases h : ds.length ≤ LIM
  · rw [if_pos h, if_pos (decide_eq_true h)]
    try rfl
  · rw [if_neg h, if_neg (by simpa using h)]
@[simp] theorem c_no : evC cl con .no Γ = .ok true Γ := rfl
def boolK (t : T) (Γ : Env) : R Bool := match t with
  | .v (.bl b) => .ok b Γ
  | _ => .bad
@[simp] theorem boolK_b {k : Bool} : boolK (.v (.bl k)) Γ = .ok k Γ := rfl
@[simp] theorem c_so : evC cl con (.so e) Γ = (evE cl con e Γ).bind fun x Γ1 => boolK x Γ1 := rfl
@[simp] theorem o_no : evO cl con .no Γ = .ok none Γ := rfl
@[simp] theorem o_so : evO cl con (.so e) Γ = (evE cl con e Γ).bind fun x Γ1 => intK x fun i => .ok (some i) Γ1 := rfl
@[simp] theorem es_nil : evEs cl con .nil Γ = .ok [] Γ := rfl
@[simp] theorem es_cons : evEs cl con (.cons e as) Γ = (evE cl con e Γ).bind fun t Γ1 => (evEs cl con as Γ1).bind fun ts Γ2 => .ok (t :: ts) Γ2 := rfl
@[simp] theorem i_seq : evI cl con (.seq e) Γ = (evE cl con e Γ).bind fun t Γ1 => R.op (t.fz.bind itemsD) Γ1 := rfl
@[simp] theorem i_rng1 : evI cl con (.rng1 a) Γ = (evE cl con a Γ).bind fun x Γ1 => intK x fun j => gdR (small62 j && decide (j ≤ LIM)) (.ok (rangeD 0 j.toNat 1) Γ1) := rfl
@[simp] theorem i_rng2 : evI cl con (.rng2 a b) Γ = (evE cl con a Γ).bind fun x Γ1 => (evE cl con b Γ1).bind fun y Γ2 => intK x fun i => intK y fun j => gdR (small62 i && small62 j && decide (j - i ≤ LIM)) (.ok (rangeD i (j - i).toNat 1) Γ2) := by
  simp only [evI]
  refine congrArg _ (funext fun x => funext fun Γ1 => congrArg _ (funext fun y => funext fun Γ2 => ?_))
  cases x with
  | v d => cases d <;> first | rfl | (cases y with
    | v d' => cases d' <;> rfl
    | _ => rfl)
  | _ => rfl
@[simp] theorem i_rng3 : evI cl con (.rng3 a b c) Γ = (evE cl con a Γ).bind fun x Γ1 => (evE cl con b Γ1).bind fun y Γ2 => (evE cl con c Γ2).bind fun z Γ3 => intK x fun i => intK y fun j => intK z fun k => gdR (Builtin.Range.small i j k && decide (0 < k ∧ k < 1073741824) && decide (j - i ≤ LIM)) (.ok (rangeD i (rgN i j k) k) Γ3) := by
  simp only [evI]
  refine congrArg _ (funext fun x => funext fun Γ1 => congrArg _ (funext fun y => funext fun Γ2 => congrArg _ (funext fun z => funext fun Γ3 => ?_)))
  cases x with
  | v d => cases d <;> first | rfl | (cases y with
    | v d' => cases d' <;> first | rfl | (cases z with
      | v d'' => cases d'' <;> rfl
      | _ => rfl)
    | _ => rfl)
  | _ => rfl
@[simp] theorem i_enum : evI cl con (.enum a) Γ = (evE cl con a Γ).bind fun t Γ1 => optK (t.fz.bind listD) fun ds => .ok (ds.zipIdx.map fun p => .tup [.int p.2, p.1]) Γ1 := by
  simp only [evI]
  refine congrArg _ (funext fun x => funext fun Γ1 => ?_)
  cases x.fz.bind listD <;> rfl
@[simp] theorem i_zip : evI cl con (.zip a b) Γ = (evE cl con a Γ).bind fun x Γ1 => (evE cl con b Γ1).bind fun y Γ2 => optK (x.fz.bind listD) fun ds => optK (y.fz.bind listD) fun es => .ok ((ds.zip es).map fun p => .tup [p.1, p.2]) Γ2 := by
  simp only [evI]
  refine congrArg _ (funext fun x => funext fun Γ1 => congrArg _ (funext fun y => funext fun Γ2 => ?_))
  cases x.fz.bind listD with
  | none => rfl
  | some ds => cases y.fz.bind listD <;> rfl
@[simp] theorem i_rvd : evI cl con (.rvd a) Γ = (evE cl con a Γ).bind fun t Γ1 => optK (t.fz.bind listD) fun ds => .ok ds.reverse Γ1 := by
  simp only [evI]
  refine congrArg _ (funext fun x => funext fun Γ1 => ?_)
  cases x.fz.bind listD <;> rfl
variable {x y : Ss} {s : S}
@[simp] theorem s_set : evS cl con (.set i e) Γ = liftE (evE cl con e Γ) fun t Γ1 => gdS (t.noB && decide (i < Γ1.length)) (.nx (Γ1.set i (some t))) := rfl
@[simp] theorem s_setF : evS cl con (.setF i e) Γ = liftE (evE cl con e Γ) fun t Γ1 => optS t.fz fun d => gdS (decide (i < Γ1.length)) (.nx (Γ1.set i (some (.v d)))) := by
  simp only [evS]
  refine congrArg _ (funext fun x => funext fun Γ1 => ?_)
  cases x.fz with
  | none => rfl
  | some d =>
    by_cases h : i < Γ1.length
    · simp [h, optS, gdS]
    · simp [h, optS, gdS]
@[simp] theorem s_setT {is : List Nat} : evS cl con (.setT is e) Γ = liftE (evE cl con e Γ) fun t Γ1 => optS (t.fz.bind seqD) fun ds => optS (setSlots Γ1 is ds) fun Γ2 => .nx Γ2 := by
  simp only [evS]
  refine congrArg _ (funext fun x => funext fun Γ1 => ?_)
  cases x.fz.bind seqD with
  | none => rfl
  | some ds => cases h : setSlots Γ1 is ds <;> simp [h, optS]
@[simp] theorem s_sto : evS cl con (.sto i a e) Γ = liftE (evE cl con e Γ) fun t Γ1 => gdS (isLs Γ1 i) (liftE (evE cl con a Γ1) fun k Γ2 => putO Γ2 i (stoT (Γ2[i]?) k t)) := rfl
@[simp] theorem s_stoX : evS cl con (.stoX i a b e) Γ = liftE (evE cl con e Γ) fun t Γ1 => gdS (isLs Γ1 i) (liftE (evE cl con a Γ1) fun k Γ2 => gdS (isLs2 Γ2 i k) (liftE (evE cl con b Γ2) fun j Γ3 => putO Γ3 i (stoXT (Γ3[i]?) k j t))) := rfl
def augK (o : Option (Option T)) (f : Int → SR) : SR := match o with
  | some (some (.v (.int x))) => f x
  | _ => .bad
theorem augK_congr {o o' : Option (Option T)} {f : Int → SR} (h : o = o') : augK o f = augK o' f := by rw [h]
@[simp] theorem augK_i {j : Int} {f : Int → SR} : augK (some (some (.v (.int j)))) f = f j := rfl
@[simp] theorem s_augV {o : BOp} : evS cl con (.augV i o e) Γ = augK (Γ[i]?) fun x => liftE (evE cl con e Γ) fun t Γ1 => putO Γ1 i ((augI o x t).map fun z => .v (.int z)) := rfl
@[simp] theorem s_augS {o : BOp} : evS cl con (.augS i o a e) Γ = gdS (isLs Γ i) (liftE (evE cl con a Γ) fun k Γ1 => optS (getI (Γ1[i]?) k) fun x => liftE (evE cl con e Γ1) fun t Γ2 => putO Γ2 i (augT o (Γ2[i]?) k x t)) := by
  simp only [evS]
  unfold gdS
  have e : (liftE (evE cl con a Γ) fun k Γ1 => match getI (Γ1[i]?) k with
    | some x => liftE (evE cl con e Γ1) fun t Γ2 => putO Γ2 i (augT o (Γ2[i]?) k x t)
    | none => .bad) = (liftE (evE cl con a Γ) fun k Γ1 => optS (getI (Γ1[i]?) k) fun x => liftE (evE cl con e Γ1) fun t Γ2 => putO Γ2 i (augT o (Γ2[i]?) k x t)) := by
    refine congrArg _ (funext fun k => funext fun Γ1 => ?_)
    cases getI (Γ1[i]?) k <;> rfl
  rw [← e]
  try rfl
@[simp] theorem s_app : evS cl con (.app i e) Γ = gdS (isLs Γ i) (liftE (evE cl con e Γ) fun t Γ1 => putO Γ1 i (appT (Γ1[i]?) t)) := rfl
@[simp] theorem s_appX : evS cl con (.appX i a e) Γ = gdS (isLs Γ i) (liftE (evE cl con a Γ) fun k Γ1 => gdS (isLs2 Γ1 i k) (liftE (evE cl con e Γ1) fun t Γ2 => putO Γ2 i (appXT (Γ2[i]?) k t))) := rfl
@[simp] theorem s_ext : evS cl con (.ext i e) Γ = gdS (isLs Γ i) (liftE (evE cl con e Γ) fun t Γ1 => putO Γ1 i (extT (Γ1[i]?) t)) := rfl
@[simp] theorem s_ex : evS cl con (.ex e) Γ = liftE (evE cl con e Γ) fun _ Γ1 => .nx Γ1 := rfl
@[simp] theorem s_ife : evS cl con (.ife e x y) Γ = liftE (evE cl con e Γ) fun t Γ1 => ifS t (evSs cl con x Γ1) (evSs cl con y Γ1) := rfl
/-- a loop's turn -/
def forS (cl : Calls) (con : String → Option D) (tg : Tg) (m : Ss) (d : D) (Γ2 : Env) : SR := optS (bindTg tg d Γ2) fun Γ3 => evSs cl con m Γ3
@[simp] theorem s_for {tg : Tg} {it : I} : evS cl con (.for tg it x) Γ = liftI (evI cl con it Γ) fun ds Γ1 => forL (forS cl con tg x) ds Γ1 := by
  have key : forS cl con tg x = fun d Γ2 => match bindTg tg d Γ2 with
      | some Γ3 => evSs cl con x Γ3
      | none => .bad := by
    funext d Γ2
    unfold forS
    cases bindTg tg d Γ2 <;> rfl
  simp only [evS]
  rw [key]
  try rfl
@[simp] theorem s_whl {n : Nat} : evS cl con (.whl n e x) Γ = whlL (evE cl con e) (evSs cl con x) n Γ := rfl
@[simp] theorem s_ret : evS cl con (.ret e) Γ = liftE (evE cl con e Γ) fun t Γ1 => gdS t.noB (.rt t Γ1) := rfl
@[simp] theorem s_retN : evS cl con .retN Γ = .rt (.v .non) Γ := rfl
@[simp] theorem s_pass : evS cl con .pass Γ = .nx Γ := rfl
@[simp] theorem s_brk : evS cl con .brk Γ = .bk Γ := rfl
@[simp] theorem s_cnt : evS cl con .cnt Γ = .ct Γ := rfl
@[simp] theorem ss_nil : evSs cl con .nil Γ = .nx Γ := rfl
@[simp] theorem ss_cons : evSs cl con (.cons s x) Γ = (evS cl con s Γ).seq fun Γ1 => evSs cl con x Γ1 := by
  simp only [evSs]
  cases evS cl con s Γ <;> rfl
end
theorem evF_at {P : String → Option Fn} {con : String → Option D} {k : Nat} {f : String} {ds : List D} {fn : Fn} (h : P f = some fn) (hl : ds.length = fn.np) : evF P con (k + 1) f ds = toCR (evSs (evF P con k) con fn.body (env0 ds fn.ns)) := by
  simp only [evF, h]; rw [if_pos hl]
theorem toCR_rt {t : T} {Γ : Env} (h : t.noB = true) : toCR (.rt t Γ) = .ret t := by simp [toCR, h]
@[simp] theorem toCR_v {d : D} {Γ : Env} : toCR (.rt (.v d) Γ) = .ret (.v d) := rfl
@[simp] theorem toCR_l {ts : List T} {Γ : Env} : toCR (.rt (.l ts) Γ) = if T.noBs ts then .ret (.l ts) else .bad := rfl
@[simp] theorem toCR_tp {ts : List T} {Γ : Env} : toCR (.rt (.tp ts) Γ) = if T.noBs ts then .ret (.tp ts) else .bad := rfl
@[simp] theorem toCR_nx {Γ : Env} : toCR (.nx Γ) = .ret (.v .non) := rfl
@[simp] theorem toCR_ex {x : Exn} {Γ : Env} : toCR (.ex x Γ) = .ex x := rfl

/-! ### loops -/
def turnOk (I : Env → Prop) (R : SR → Prop) : SR → Prop
  | .nx Γ' => I Γ'
  | .ct Γ' => I Γ'
  | .bk Γ' => R (.nx Γ')
  | .bad => False
  | r => R r
theorem forL_post {step : D → Env → SR} {R : SR → Prop} (I : Nat → Env → Prop) : ∀ {ds : List D} {Γ : Env} (n : Nat), I n Γ →
    (∀ i d Γ, ds[i]? = some d → I (n + i) Γ → turnOk (I (n + i + 1)) R (step d Γ)) → (∀ Γ, I (n + ds.length) Γ → R (.nx Γ)) → R (forL step ds Γ)
  | [], Γ, n, h0, _, hd => hd Γ h0
  | d :: ds, Γ, n, h0, hs, hd => by
    have q := hs 0 d Γ rfl h0
    have ih := fun (Γ' : Env) (h : I (n + 0 + 1) Γ') => forL_post (step := step) (R := R) I (ds := ds) (Γ := Γ') (n + 1) h (fun i d' Γ2 hi hI => by
      have := hs (i + 1) d' Γ2 (by simpa using hi) (by rw [show n + (i + 1) = n + 1 + i by omega]; exact hI)
      rw [show n + (i + 1) + 1 = n + 1 + i + 1 by omega] at this
      exact this) (fun Γ2 hI => hd Γ2 (by rw [List.length_cons, show n + (ds.length + 1) = n + 1 + ds.length by omega]; exact hI))
    unfold forL
    cases e : step d Γ with
    | nx Γ' => rw [e] at q; exact ih Γ' q
    | ct Γ' => rw [e] at q; exact ih Γ' q
    | bk Γ' => rw [e] at q; exact q
    | bad => rw [e] at q; exact q.elim
    | rt t Γ' => rw [e] at q; exact q
    | ex x Γ' => rw [e] at q; exact q
theorem forL_go {step : D → Env → SR} {R : SR → Prop} {ds : List D} {Γ : Env} (I : Nat → Env → Prop) (h0 : I 0 Γ)
    (hs : ∀ i d Γ, ds[i]? = some d → I i Γ → turnOk (I (i + 1)) R (step d Γ)) (hd : ∀ Γ, I ds.length Γ → R (.nx Γ)) : R (forL step ds Γ) :=
  forL_post I 0 h0 (fun i d Γ hi hI => by simpa using hs i d Γ hi (by simpa using hI)) (fun Γ hI => hd Γ (by simpa using hI))
theorem lcL_map {step : D → Env → R (Option T)} {Γ : Env} {g : D → Option T} : ∀ {ds : List D} {acc : List T}, (∀ d ∈ ds, step d Γ = .ok (g d) Γ) → lcL step ds Γ acc = .ok (acc ++ ds.filterMap g) Γ
  | [], acc, _ => by simp [lcL]
  | d :: ds, acc, h => by
    have h1 := h d (by simp)
    have ih := fun acc => lcL_map (acc := acc) (step := step) (Γ := Γ) (g := g) (ds := ds) fun e he => h e (by simp [he])
    unfold lcL
    rw [h1]
    cases e : g d with
    | none => simp [ih, e]
    | some t => simp [ih, e]
theorem lcL_pure {step : D → Env → R (Option T)} {Γ : Env} {g : D → T} {ds : List D} (h : ∀ d ∈ ds, step d Γ = .ok (some (g d)) Γ) : lcL step ds Γ [] = .ok (ds.map g) Γ := by
  rw [lcL_map (g := fun d => some (g d)) h]
  simp
theorem rangeD0 (n : Nat) : rangeD 0 n 1 = (List.range n).map fun (i : Nat) => D.int (i : Int) := by
  unfold rangeD
  apply List.map_congr_left
  intro i _
  congr 1; omega
theorem rangeDlo (lo : Int) (n : Nat) : rangeD lo n 1 = (List.range n).map fun (i : Nat) => D.int (lo + (i : Int)) := by
  unfold rangeD
  apply List.map_congr_left
  intro i _
  congr 1; omega
theorem lcL_filtM {α : Type} {step : D → Env → R (Option T)} {Γ : Env} {f : α → D} {p : α → Bool} {g : α → T} {xs : List α} (h : ∀ x ∈ xs, step (f x) Γ = .ok (if p x then some (g x) else none) Γ) : lcL step (xs.map f) Γ [] = .ok ((xs.filter p).map g) Γ := by
  have key : ∀ (xs : List α) (acc : List T), (∀ x ∈ xs, step (f x) Γ = .ok (if p x then some (g x) else none) Γ) → lcL step (xs.map f) Γ acc = .ok (acc ++ (xs.filter p).map g) Γ := by
    intro xs
    induction xs with
    | nil => intro acc _; simp [lcL]
    | cons x xs ih =>
      intro acc h
      rw [List.map_cons]
      unfold lcL
      rw [h x (by simp)]
      cases hp : p x with
      | false => simp only [Bool.false_eq_true, if_false]; rw [ih _ fun y hy => h y (by simp [hy])]; simp [hp]
      | true => simp only [if_true]; rw [ih _ fun y hy => h y (by simp [hy])]; simp [hp]
  simpa using key xs [] h
theorem lcL_mapM {α : Type} {step : D → Env → R (Option T)} {Γ : Env} {f : α → D} {g : α → T} {xs : List α} (h : ∀ x ∈ xs, step (f x) Γ = .ok (some (g x)) Γ) : lcL step (xs.map f) Γ [] = .ok (xs.map g) Γ := by
  have key : ∀ (xs : List α) (acc : List T), (∀ x ∈ xs, step (f x) Γ = .ok (some (g x)) Γ) → lcL step (xs.map f) Γ acc = .ok (acc ++ xs.map g) Γ := by
    intro xs
    induction xs with
    | nil => intro acc _; simp [lcL]
    | cons x xs ih =>
      intro acc h
      rw [List.map_cons]
      unfold lcL
      rw [h x (by simp)]
      dsimp only
      rw [ih _ fun y hy => h y (by simp [hy])]
      simp
  simpa using key xs [] h
@[simp] theorem wipeE_nil (Γ : Env) : wipeE Γ [] = Γ := rfl
@[simp] theorem wipeE_cons (Γ : Env) (v : Nat) (vs : List Nat) : wipeE Γ (v :: vs) = (wipeE Γ vs).set v none := rfl
@[simp] theorem restE_nil (Γ Γ' : Env) : restE Γ Γ' [] = Γ' := rfl
@[simp] theorem restE_cons (Γ Γ' : Env) (v : Nat) (vs : List Nat) : restE Γ Γ' (v :: vs) = restE Γ (Γ'.set v (keepV (Γ[v]?))) vs := rfl
@[simp] theorem keepV_n : keepV (some none) = none := rfl
@[simp] theorem keepV_v (d : D) : keepV (some (some (.v d))) = some (.v d) := rfl
@[simp] theorem keepV_l (d : List T) : keepV (some (some (.l d))) = none := rfl
@[simp] theorem keepV_tp (d : List T) : keepV (some (some (.tp d))) = none := rfl
@[simp] theorem bindTg_nm (i : Nat) (d : D) (Γ : Env) : bindTg (.nm i) d Γ = if i < Γ.length then some (Γ.set i (some (.v d))) else none := rfl
@[simp] theorem bindTg_tp (is : List Nat) (ds : List D) (Γ : Env) : bindTg (.tp is) (.tup ds) Γ = setSlots Γ is ds := rfl
@[simp] theorem setSlots_nil (Γ : Env) : setSlots Γ [] [] = some Γ := rfl
@[simp] theorem setSlots_cons (Γ : Env) (i : Nat) (is : List Nat) (d : D) (ds : List D) : setSlots Γ (i :: is) (d :: ds) = if i < Γ.length then setSlots (Γ.set i (some (.v d))) is ds else none := rfl
@[simp] theorem itemsD_l (ds : List D) : itemsD (.lst ds) = some ds := rfl
@[simp] theorem itemsD_t (ds : List D) : itemsD (.tup ds) = some ds := rfl
@[simp] theorem itemsD_s (s : List Nat) : itemsD (.str s) = some (s.map fun c => .str [c]) := rfl
@[simp] theorem itemsD_c (s : List Int) : itemsD (.scr s) = some (s.map .int) := rfl
@[simp] theorem listD_l (ds : List D) : listD (.lst ds) = some ds := rfl
@[simp] theorem listD_c (s : List Int) : listD (.scr s) = some (s.map .int) := rfl
@[simp] theorem seqD_l (ds : List D) : seqD (.lst ds) = some ds := rfl
@[simp] theorem seqD_t (ds : List D) : seqD (.tup ds) = some ds := rfl
@[simp] theorem addT_s (s t : List Nat) : addT (.v (.str s)) (.v (.str t)) = if s.length + t.length ≤ LIM then some (.v (.str (s ++ t))) else none := rfl
@[simp] theorem asL_l (ts : List T) : asL (.l ts) = some ts := rfl
@[simp] theorem asL_v (ds : List D) : asL (.v (.lst ds)) = some (ds.map .v) := rfl
@[simp] theorem addT_ll {a b : List T} (h : a.length + b.length ≤ 16000000) : addT (.l a) (.l b) = some (.l (a ++ b)) := by
  simp only [addT, asL]
  rw [if_pos (by show _ ≤ 16777216; omega)]
@[simp] theorem addT_vl {a : List D} {b : List T} (h : a.length + b.length ≤ 16000000) : addT (.v (.lst a)) (.l b) = some (.l (a.map .v ++ b)) := by
  simp only [addT, asL]
  rw [if_pos (by rw [List.length_map]; show _ ≤ 16777216; omega)]
@[simp] theorem addT_lv {a : List T} {b : List D} (h : a.length + b.length ≤ 16000000) : addT (.l a) (.v (.lst b)) = some (.l (a ++ b.map .v)) := by
  simp only [addT, asL]
  rw [if_pos (by rw [List.length_map]; show _ ≤ 16777216; omega)]
@[simp] theorem addT_vv {a b : List D} (h : a.length + b.length ≤ 16000000) : addT (.v (.lst a)) (.v (.lst b)) = some (.l (a.map .v ++ b.map .v)) := by
  simp only [addT, asL]
  rw [if_pos (by rw [List.length_map, List.length_map]; show _ ≤ 16777216; omega)]
theorem sIx_nn {n d : Nat} {i : Int} (h : 0 ≤ i) : HT.sIx n d (some i) = min i.toNat n := by
  unfold HT.sIx
  first
    | (simp only []; split <;> omega)
    | (split <;> omega)
    | omega
theorem cutL_two {α : Type} {xs : List α} {a b : Int} (ha : 0 ≤ a) (hb : a ≤ b) : cutL xs (some a) (some b) = (xs.drop a.toNat).take (b - a).toNat := by
  unfold cutL
  rw [sIx_nn ha, sIx_nn (by omega)]
  apply List.ext_getElem?
  intro i
  rw [List.getElem?_take, List.getElem?_take]
  by_cases h : a.toNat ≤ xs.length
  · rw [Nat.min_eq_left h, List.getElem?_drop]
    by_cases h2 : b.toNat ≤ xs.length
    · rw [Nat.min_eq_left h2, show b.toNat - a.toNat = (b - a).toNat by omega]
    · rw [Nat.min_eq_right (by omega)]
      by_cases h3 : i < xs.length - a.toNat
      · rw [if_pos h3, if_pos (by omega)]
      · rw [if_neg h3, List.getElem?_eq_none (by omega)]; simp
  · rw [Nat.min_eq_right (by omega), List.getElem?_drop, List.getElem?_drop, List.getElem?_eq_none (by omega), List.getElem?_eq_none (by omega)]
    simp
theorem cutL_to {α : Type} {xs : List α} {b : Int} (hb : 0 ≤ b) : cutL xs none (some b) = xs.take b.toNat := by
  unfold cutL
  rw [sIx_nn hb]
  have : HT.sIx xs.length 0 none = 0 := rfl
  rw [this, List.drop_zero, Nat.sub_zero, ← List.take_take, List.take_length]
theorem cutL_from {α : Type} {xs : List α} {a : Int} (ha : 0 ≤ a) : cutL xs (some a) none = xs.drop a.toNat := by
  unfold cutL
  rw [sIx_nn ha]
  have : HT.sIx xs.length xs.length none = xs.length := rfl
  rw [this]
  by_cases h : a.toNat ≤ xs.length
  · rw [Nat.min_eq_left h, List.take_of_length_le (by simp)]
  · rw [Nat.min_eq_right (by omega), List.drop_of_length_le (Nat.le_refl _), List.drop_of_length_le (by omega)]; simp
@[simp] theorem LIM_eq : LIM = 16777216 := (rfl)
theorem lim_ok {n : Nat} (h : n ≤ 16000000) : n ≤ 16777216 := by omega
@[simp] theorem lOnly_l (ts : List T) : lOnly (.l ts) = some ts := rfl
@[simp] theorem lOnly_vl (ds : List D) : lOnly (.v (.lst ds)) = some (ds.map .v) := rfl
@[simp] theorem lOnly_vs (ns : List Int) : lOnly (.v (.scr ns)) = some (ns.map fun n => .v (.int n)) := rfl
abbrev vi (i : Int) : T := .v (.int i)
abbrev vis (xs : List Int) : List T := xs.map fun i => T.v (.int i)
theorem vis_app (xs : List Int) (i : Int) : vis (xs ++ [i]) = vis xs ++ [vi i] := List.map_append
@[simp] theorem er_v (d : D) : (T.v d).er = d := by simp [T.er]
@[simp] theorem er_b (d : D) : (T.b d).er = d := by simp [T.er]
@[simp] theorem er_l (ts : List T) : (T.l ts).er = .lst (ts.map T.er) := by simp [T.er, ers_map]
@[simp] theorem er_tp (ts : List T) : (T.tp ts).er = .tup (ts.map T.er) := by simp [T.er, ers_map]
@[simp] theorem noB_v (d : D) : (T.v d).noB = true := by simp [T.noB]
@[simp] theorem noBs_nil : T.noBs [] = true := rfl
@[simp] theorem noBs_cons (t : T) (ts : List T) : T.noBs (t :: ts) = (t.noB && T.noBs ts) := rfl
@[simp] theorem noBs_app (ts us : List T) : T.noBs (ts ++ us) = (T.noBs ts && T.noBs us) := noBs_append
@[simp] theorem noBs_mapv {α : Type} (f : α → D) (xs : List α) : T.noBs (xs.map fun a => T.v (f a)) = true := by
  rw [noBs_all, List.all_map, List.all_eq_true]; intro x _; simp
@[simp] theorem noBs_mapv' (xs : List D) : T.noBs (xs.map T.v) = true := by
  rw [noBs_all, List.all_map, List.all_eq_true]; intro x _; simp
@[simp] theorem comp_v {α : Type} (f : α → D) : (T.v ∘ f) = fun a => T.v (f a) := (rfl)
@[simp] theorem noBs_rev (ts : List T) : T.noBs ts.reverse = T.noBs ts := by rw [noBs_all, noBs_all, List.all_reverse]
@[simp] theorem noBs_mapc {α : Type} (f : α → D) (xs : List α) : T.noBs (xs.map (T.v ∘ f)) = true := noBs_mapv f xs
@[simp] theorem er_comp_c {α : Type} (f : α → D) : (T.er ∘ T.v ∘ f) = f := by funext a; simp
@[simp] theorem noB_l (ts : List T) : (T.l ts).noB = T.noBs ts := by simp [T.noB]
@[simp] theorem noB_tp (ts : List T) : (T.tp ts).noB = T.noBs ts := by simp [T.noB]
@[simp] theorem noB_b (d : D) : (T.b d).noB = false := by simp [T.noB]
@[simp] theorem isV_v (d : D) : isV (.v d) = true := rfl
@[simp] theorem isV_l (d : List T) : isV (.l d) = false := rfl
@[simp] theorem isV_tp (d : List T) : isV (.tp d) = false := rfl
@[simp] theorem bor_v (d : D) : bor (.v d) = .v d := rfl
@[simp] theorem bor_l (ts : List T) : bor (.l ts) = .b (.lst (ts.map T.er)) := by simp [bor]
@[simp] theorem bor_tp (ts : List T) : bor (.tp ts) = .b (.tup (ts.map T.er)) := by simp [bor]
@[simp] theorem fz_v (d : D) : (T.v d).fz = some d := by simp [T.fz]
@[simp] theorem fz_l (ts : List T) (h : T.noBs ts = true) : (T.l ts).fz = some (.lst (ts.map T.er)) := by simp [T.fz, h]
@[simp] theorem fz_tp (ts : List T) (h : T.noBs ts = true) : (T.tp ts).fz = some (.tup (ts.map T.er)) := by simp [T.fz, h]
@[simp] theorem fzs_nil : fzs [] = some [] := rfl
@[simp] theorem fzs_v (d : D) (ts : List T) : fzs (.v d :: ts) = (fzs ts).map fun ds => d :: ds := by
  simp only [fzs, fz_v]
  cases fzs ts <;> rfl
@[simp] theorem fzs_l (us : List T) (ts : List T) (h : T.noBs us = true) : fzs (.l us :: ts) = (fzs ts).map fun ds => .lst (us.map T.er) :: ds := by
  simp only [fzs, fz_l us h]
  cases fzs ts <;> rfl
@[simp] theorem fzs_tp (us : List T) (ts : List T) (h : T.noBs us = true) : fzs (.tp us :: ts) = (fzs ts).map fun ds => .tup (us.map T.er) :: ds := by
  simp only [fzs, fz_tp us h]
  cases fzs ts <;> rfl
@[simp] theorem isLs_at {Γ : Env} {i : Nat} : isLs Γ i = match Γ[i]? with
  | some (some (.l _)) => true
  | _ => false := rfl
@[simp] theorem er_comp_v {α : Type} (f : α → D) : (T.er ∘ fun a => T.v (f a)) = f := by funext a; simp
@[simp] theorem er_comp_v' : (T.er ∘ T.v) = id := by funext a; simp
@[simp] theorem binT_add : binT .add = addT := by funext x y; rfl
@[simp] theorem binT_mul : binT .mul = mulT := by funext x y; rfl
@[simp] theorem addT_i (i j : Int) : addT (.v (.int i)) (.v (.int j)) = some (.v (.int (i + j))) := rfl
@[simp] theorem subT_i (i j : Int) : binT .sub (.v (.int i)) (.v (.int j)) = some (.v (.int (i - j))) := rfl
@[simp] theorem modT_i (i j : Int) : binT .mod (.v (.int i)) (.v (.int j)) = if j ≠ 0 then some (.v (.int (i.fmod j))) else none := rfl
@[simp] theorem fdivT_i (i j : Int) : binT .fdiv (.v (.int i)) (.v (.int j)) = if 0 < j ∧ j.natAbs.log2 < 9000 then some (.v (.int (i / j))) else none := rfl
@[simp] theorem powT_i (i j : Int) : binT .pow (.v (.int i)) (.v (.int j)) = if 0 ≤ j ∧ j ≤ 1000000 ∧ i.natAbs < 2 ^ 64 then some (.v (.int (i ^ j.toNat))) else none := rfl
@[simp] theorem ltT_i (i j : Int) : cmpT .lt (.v (.int i)) (.v (.int j)) = some (decide (i < j)) := rfl
@[simp] theorem leT_i (i j : Int) : cmpT .le (.v (.int i)) (.v (.int j)) = some (decide (i ≤ j)) := rfl
@[simp] theorem gtT_i (i j : Int) : cmpT .gt (.v (.int i)) (.v (.int j)) = some (decide (j < i)) := rfl
@[simp] theorem geT_i (i j : Int) : cmpT .ge (.v (.int i)) (.v (.int j)) = some (decide (j ≤ i)) := rfl
@[simp] theorem eqT_ (x y : T) : cmpT .eq x y = eqT x y := rfl
@[simp] theorem neT_ (x y : T) : cmpT .ne x y = (eqT x y).map fun b => !b := rfl
@[simp] theorem inT_ (x y : T) : cmpT .isIn x y = inT x y := rfl
@[simp] theorem ninT_ (x y : T) : cmpT .notIn x y = (inT x y).map fun b => !b := rfl
@[simp] theorem lenT_ (t : T) : bltT .len [t] = (sizeT t).map fun (n : Nat) => T.v (.int (n : Int)) := by
  simp only [bltT]
  cases sizeT t <;> rfl
@[simp] theorem maxT_2 (i j : Int) : bltT .max [.v (.int i), .v (.int j)] = some (.v (.int (if j > i then j else i))) := rfl
@[simp] theorem minT_2 (i j : Int) : bltT .min [.v (.int i), .v (.int j)] = some (.v (.int (if j < i then j else i))) := rfl
@[simp] theorem allT_ (t : T) : bltT .all [t] = ((lOnly t).bind boolsT).map fun bs => .v (.bl (bs.all id)) := by simp only [bltT]
@[simp] theorem size_str (s : List Nat) : sizeT (.v (.str s)) = some s.length := rfl
@[simp] theorem size_lst (s : List D) : sizeT (.v (.lst s)) = some s.length := by simp [sizeT, asQ]
@[simp] theorem size_tup (s : List D) : sizeT (.v (.tup s)) = some s.length := by simp [sizeT, asQ]
@[simp] theorem size_scr (s : List Int) : sizeT (.v (.scr s)) = some s.length := by simp [sizeT, asQ]
@[simp] theorem size_bl (s : List D) : sizeT (.b (.lst s)) = some s.length := by simp [sizeT, asQ]
@[simp] theorem size_l (s : List T) : sizeT (.l s) = some s.length := by simp [sizeT, asQ]
@[simp] theorem eq_ii (i j : Int) : eqT (.v (.int i)) (.v (.int j)) = some (decide (i = j)) := by
  simp [eqT, D.okD, eqD, D.py, PyData.eqv]
  rfl
@[simp] theorem eq_bb (i j : Bool) : eqT (.v (.bl i)) (.v (.bl j)) = some (i == j) := by
  simp [eqT, D.okD, eqD, D.py, PyData.eqv]
@[simp] theorem boolsT_map {α : Type} (f : α → Bool) (xs : List α) : boolsT (xs.map fun a => T.v (.bl (f a))) = some (xs.map f) := by
  induction xs with
  | nil => rfl
  | cons x xs ih => simp [boolsT, ih]
@[simp] theorem intsT_map {α : Type} (f : α → Int) (xs : List α) : intsT (xs.map fun a => T.v (.int (f a))) = some (xs.map f) := by
  induction xs with
  | nil => rfl
  | cons x xs ih => simp [intsT, ih]
@[simp] theorem in_sign (c : Nat) (s : List Nat) : inT (.v (.str [c])) (.v (.str s)) = some (decide (c ∈ s)) := rfl
theorem sm62 {n : Nat} (h : n ≤ 1000000) : (small62 (n : Int) && decide ((n : Int) ≤ LIM)) = true := by
  unfold small62
  rw [Bool.and_eq_true, decide_eq_true_eq, decide_eq_true_eq]
  exact ⟨⟨by omega, by omega⟩, by show (n : Int) ≤ 16777216; omega⟩
theorem sm62' {n : Nat} (h : n ≤ 1000000) : (small62 (n : Int) && decide ((n : Int) ≤ 16777216)) = true := sm62 h
theorem rangeD_get {lo : Int} {n : Nat} {c : Int} {i : Nat} {d : D} (h : (rangeD lo n c)[i]? = some d) : i < n ∧ d = .int (lo + (i : Int) * c) := by
  unfold rangeD at h
  rw [List.getElem?_map] at h
  obtain ⟨j, h1, h2⟩ := Option.map_eq_some_iff.mp h
  obtain ⟨h3, h4⟩ := List.getElem?_eq_some_iff.mp h1
  rw [List.length_range] at h3
  rw [List.getElem_range] at h4
  exact ⟨h3, by rw [← h2, h4]⟩
@[simp] theorem rangeD_length {lo : Int} {n : Nat} {c : Int} : (rangeD lo n c).length = n := by simp [rangeD]
theorem ixN_nat' {n i : Nat} (h : i < n) : L2.ixN n (i : Int) = some i := by
  unfold L2.ixN
  rw [if_pos (by omega), if_pos (by omega)]; simp
theorem atI_nat' {α : Type} {xs : List α} {i : Nat} {x : α} (h : xs[i]? = some x) : L2.atI xs (i : Int) = some x := by
  unfold L2.atI
  rw [ixN_nat' (List.getElem?_eq_some_iff.mp h).1]
  exact h
theorem ix_lst {ds : List D} {i : Nat} {d : D} (h : ds[i]? = some d) : ixT (.v (.lst ds)) (.v (.int (i : Int))) = some (.v d) := by
  simp only [ixT, asQ, Option.bind_some]
  exact atI_nat' (by simp [h])
theorem ix_lstI {ds : List D} {i : Int} {d : D} (h0 : 0 ≤ i) (h : ds[i.toNat]? = some d) : ixT (.v (.lst ds)) (.v (.int i)) = some (.v d) := by
  have := ix_lst h
  rw [Int.toNat_of_nonneg h0] at this
  exact this
theorem ix_str {s : List Nat} {i : Int} {c : Nat} (h0 : 0 ≤ i) (h : s[i.toNat]? = some c) : ixT (.v (.str s)) (.v (.int i)) = some (.v (.str [c])) := by
  have : L2.atI s i = some c := by
    have := atI_nat' h
    rw [Int.toNat_of_nonneg h0] at this
    exact this
  simp only [ixT, this]
  rfl
theorem ix_bl {ds : List D} {i : Int} {d : D} (h0 : 0 ≤ i) (h : ds[i.toNat]? = some d) : ixT (.b (.lst ds)) (.v (.int i)) = some (elemB d) := by
  have : L2.atI (ds.map elemB) i = some (elemB d) := by
    have := atI_nat' (xs := ds.map elemB) (i := i.toNat) (x := elemB d) (by simp [h])
    rw [Int.toNat_of_nonneg h0] at this
    exact this
  simp only [ixT, asQ, Option.bind_some]
  exact this
theorem log2_lt {i : Int} {n : Nat} (h : i.natAbs < 2 ^ n) (hn : 0 < n) : i.natAbs.log2 < n := by
  by_cases h0 : i.natAbs = 0
  · rw [h0]; simp [Nat.log2]; exact hn
  · exact (Nat.log2_lt h0).mpr h
theorem mul_ok {i j : Int} {a b : Nat} (hi : i.natAbs < 2 ^ a) (hj : j.natAbs < 2 ^ b) (ha : 0 < a) (hb : 0 < b) (h : a + b ≤ 1000000) : mulT (.v (.int i)) (.v (.int j)) = some (.v (.int (i * j))) := by
  have := log2_lt hi ha
  have := log2_lt hj hb
  simp only [mulT]
  rw [if_pos (by omega)]
/-- factors below 2 ^ 64 -/
theorem mul64 {i j : Int} (hi : -18446744073709551616 < i ∧ i < 18446744073709551616) (hj : -18446744073709551616 < j ∧ j < 18446744073709551616) : mulT (.v (.int i)) (.v (.int j)) = some (.v (.int (i * j))) :=
  mul_ok (a := 64) (b := 64) (by rw [show (2:Nat)^64 = 18446744073709551616 by decide]; omega) (by rw [show (2:Nat)^64 = 18446744073709551616 by decide]; omega) (by decide) (by decide) (by decide)
theorem app_ok {ts : List T} {t : T} (h : ts.length < 16000000) (h2 : t.noB = true) : appT (some (some (.l ts))) t = some (.l (ts ++ [t])) := by
  simp only [appT]
  rw [if_pos (by rw [h2, Bool.true_and, decide_eq_true_eq]; show ts.length < 16777216; omega)]
theorem fm {a : Int} {m : Int} (hm : 0 < m) : 0 ≤ a.fmod m ∧ a.fmod m < m := ⟨Int.fmod_nonneg_of_pos _ hm, Int.fmod_lt_of_pos _ hm⟩
theorem mod_ok {i j : Int} (h : 0 < j) : binT .mod (.v (.int i)) (.v (.int j)) = some (.v (.int (i.fmod j))) := by
  rw [modT_i, if_pos (by omega)]
theorem fdiv_ok {i j : Int} (h : 0 < j) (h2 : j < 18446744073709551616) : binT .fdiv (.v (.int i)) (.v (.int j)) = some (.v (.int (i / j))) := by
  rw [fdivT_i, if_pos ⟨h, Nat.lt_of_lt_of_le (log2_lt (n := 64) (by rw [show (2:Nat)^64 = 18446744073709551616 by decide]; omega) (by decide)) (by decide)⟩]
theorem cutL_map {α β : Type} (f : α → β) (xs : List α) (lo hi : Option Int) : cutL (xs.map f) lo hi = (cutL xs lo hi).map f := by
  unfold cutL
  rw [List.length_map, List.map_take, List.map_drop]
theorem cutL_mem {α : Type} {xs : List α} {lo hi : Option Int} {x : α} (h : x ∈ cutL xs lo hi) : x ∈ xs := by
  unfold cutL at h
  exact List.mem_of_mem_drop (List.mem_of_mem_take h)
theorem cutL_len {α : Type} (xs : List α) (lo hi : Option Int) : (cutL xs lo hi).length ≤ xs.length := by
  unfold cutL
  rw [List.length_take, List.length_drop]; omega
@[simp] theorem revT_l (ts : List T) : revT (.l ts) = some (.l ts.reverse) := rfl
@[simp] theorem revT_v (ds : List D) : revT (.v (.lst ds)) = some (.l (ds.map T.v).reverse) := rfl
theorem ix_l {ts : List T} {i : Int} {t : T} (h0 : 0 ≤ i) (h : ts[i.toNat]? = some t) : ixT (.l ts) (.v (.int i)) = some t := by
  simp only [ixT, asQ, Option.bind_some]
  have := atI_nat' h
  rw [Int.toNat_of_nonneg h0] at this
  exact this
theorem ix_last {ds : List D} {d : D} (h : ds.getLast? = some d) : ixT (.v (.lst ds)) (.v (.int (-1))) = some (.v d) := by
  obtain ⟨ys, rfl⟩ := List.getLast?_eq_some_iff.mp h
  simp only [ixT, asQ, Option.bind_some, List.map_append]
  exact L2.atI_last _ _
@[simp] theorem slT_s (s : List Nat) (lo hi : Option Int) : slT (.v (.str s)) lo hi = some (.v (.str (cutL s lo hi))) := rfl
@[simp] theorem slT_l (ts : List T) (lo hi : Option Int) : slT (.l ts) lo hi = some (.l (cutL ts lo hi)) := rfl
@[simp] theorem slT_vl (ds : List D) (lo hi : Option Int) : slT (.v (.lst ds)) lo hi = some (.l ((cutL ds lo hi).map .v)) := by simp [slT, cutL_map]
@[simp] theorem slT_vs (ns : List Int) (lo hi : Option Int) : slT (.v (.scr ns)) lo hi = some (.l ((cutL ns lo hi).map fun n => .v (.int n))) := by simp [slT, cutL_map]
theorem okDs_flat {ds : List D} (h : ∀ d ∈ ds, d.flat = true) (n : Nat) : D.okDs ds n = true := by
  induction ds with
  | nil => simp [D.okDs]
  | cons d ds ih =>
    have h1 := h d (by simp)
    simp only [D.okDs, Bool.and_eq_true]
    refine ⟨?_, ih fun e he => h e (by simp [he])⟩
    cases d <;> first | rfl | (cases h1; done) | (cases n <;> rfl)
@[simp] theorem okD_60 (ds : List D) : (D.lst ds).okD 60 = D.okDs ds 59 := by simp [D.okD]
@[simp] theorem okDt_60 (ds : List D) : (D.tup ds).okD 60 = D.okDs ds 59 := by simp [D.okD]
theorem eqD_nil (ds : List D) : eqD (.lst ds) (.lst []) = ds.isEmpty := by
  cases ds <;> simp [eqD, D.py, D.pys, PyData.eqv, PyData.eqvAll]
theorem eqT_nil {ds : List D} (h : ∀ d ∈ ds, d.flat = true) : eqT (.b (.lst ds)) (.l []) = some ds.isEmpty := by
  unfold eqT
  rw [er_b, er_l, okD_60, okDs_flat h, List.map_nil, okD_60, eqD_nil]
  simp [D.okDs]
theorem eqT_nilv {ds : List D} (h : ∀ d ∈ ds, d.flat = true) : eqT (.v (.lst ds)) (.l []) = some ds.isEmpty := by
  unfold eqT
  rw [er_v, er_l, okD_60, okDs_flat h, List.map_nil, okD_60, eqD_nil]
  simp [D.okDs]
theorem strsT_v (ss : List (List Nat)) : strsT (ss.map fun s => T.v (.str s)) = some ss := by
  induction ss with
  | nil => rfl
  | cons s ss ih => simp [strsT, ih]
theorem strsT_b (ss : List (List Nat)) : strsT ((ss.map D.str).map elemB) = some ss := by
  rw [List.map_map]
  have : (elemB ∘ D.str) = fun s => T.v (.str s) := by funext s; rfl
  rw [this]; exact strsT_v ss
theorem strsT_d (ss : List (List Nat)) : strsT ((ss.map D.str).map T.v) = some ss := by
  rw [List.map_map]; exact strsT_v ss
theorem join_b {a : List Nat} {ss : List (List Nat)} (h : (ss.map List.length).sum + ss.length * a.length ≤ 16777216) : methT .join (.v (.str a)) (.b (.lst (ss.map D.str))) = some (.v (.str (TL.joinL a ss))) := by
  simp only [methT, asQ, Option.bind_some]
  rw [strsT_b]
  exact if_pos h
theorem join_v {a : List Nat} {ss : List (List Nat)} (h : (ss.map List.length).sum + ss.length * a.length ≤ 16777216) : methT .join (.v (.str a)) (.v (.lst (ss.map D.str))) = some (.v (.str (TL.joinL a ss))) := by
  simp only [methT, asQ, Option.bind_some]
  rw [strsT_d]
  exact if_pos h
theorem join_l {a : List Nat} {ss : List (List Nat)} (h : (ss.map List.length).sum + ss.length * a.length ≤ 16777216) : methT .join (.v (.str a)) (.l (ss.map fun s => T.v (.str s))) = some (.v (.str (TL.joinL a ss))) := by
  simp only [methT, asQ, Option.bind_some]
  rw [strsT_v]
  exact if_pos h
@[simp] theorem mTy_j (s : List Nat) : mTy .join (.v (.str s)) = true := rfl
@[simp] theorem mTy_f (s : List Nat) : mTy .find (.v (.str s)) = true := rfl
theorem sum_one {ss : List (List Nat)} (h : ∀ s ∈ ss, s.length = 1) : (ss.map List.length).sum = ss.length := by
  induction ss with
  | nil => rfl
  | cons s ss ih =>
    have := h s (by simp)
    have := ih fun x hx => h x (by simp [hx])
    simp only [List.map_cons, List.sum_cons, List.length_cons]; omega
theorem sto_ok {ts : List T} {j : Int} {t : T} (h0 : 0 ≤ j) (h1 : j < ts.length) (h2 : t.noB = true) : stoT (some (some (.l ts))) (.v (.int j)) t = some (.l (ts.set j.toNat t)) := by
  have e : L2.ixN ts.length j = some j.toNat := by
    have := ixN_nat' (n := ts.length) (i := j.toNat) (by omega)
    rw [Int.toNat_of_nonneg h0] at this; exact this
  simp only [stoT, ixT1, e, Option.bind_some]
  rw [if_pos h2]
theorem mulL_ok {ts : List T} {ds : List D} {k : Nat} (h : asF (.l ts) = some ds) (hk : ds.length * k ≤ 16000000) (hk2 : k ≤ 1000000) : mulT (.l ts) (.v (.int (k : Int))) = some (.l ((List.replicate k ds).flatten.map .v)) := by
  simp only [mulT, h]
  have : (2 : Int) ^ 63 = 9223372036854775808 := by decide
  rw [Int.toNat_natCast, if_pos ⟨by omega, by omega, by show _ ≤ 16777216; omega⟩]
end Tv

namespace Tv
open PySem
/-! ### numbers out of a cell, as all laws draw them -/
def k_abc : List Nat := [97, 98, 99, 100, 101, 102, 103, 104, 105, 106, 107, 108, 109, 110, 111, 112, 113, 114, 115, 116, 117, 118, 119, 120, 121, 122]
def k_dig : List Nat := [48, 49, 50, 51, 52, 53, 54, 55, 56, 57]
def k_sg1 : List Nat := [32, 33, 34, 35, 36, 38, 39, 40, 41, 42, 43, 44, 45, 46, 47, 48, 49, 50, 51, 52, 53, 54, 55, 56, 57, 58, 59, 60, 61, 62, 63, 64, 65, 66, 67, 68, 69, 70, 71, 72, 73, 74, 75, 76, 77, 78, 79, 80, 81, 82, 83, 84, 85, 86, 87, 88, 89, 90, 91, 92, 93, 94, 95, 96]
def k_sg2 : List Nat := [97, 98, 99, 100, 101, 102, 103, 104, 105, 106, 107, 108, 109, 110, 111, 112, 113, 114, 115, 116, 117, 118, 119, 120, 121, 122, 123, 124, 125, 126, 10, 9]
def c_numbers_b : Ss := 
    (.cons (.ife (.and (.cmp .ge (.frz 3) (.bin .pow (.int 10) (.int 18))) (.cmp .gt (.frz 4) (.int 0))) (
      (.cons (.app 5 (.bin .mod (.frz 4) (.ix (.frz 2) (.frz 6)))) 
      (.cons (.set 4 (.bin .fdiv (.frz 4) (.ix (.frz 2) (.frz 6)))) .nil))) (
      (.cons (.set 7 (.bin .mod (.bin .add (.bin .add (.bin .add (.frz 3) (.bin .mul (.int 7919) (.frz 1))) (.bin .mul (.bin .mul (.int 101) (.frz 6)) (.frz 6))) (.frz 6)) (.int 2147483647))) 
      (.cons (.set 7 (.bin .mod (.bin .mul (.frz 7) (.int 48271)) (.int 2147483647))) 
      (.cons (.set 7 (.bin .mod (.bin .mul (.bin .mod (.bin .mul (.frz 7) (.frz 7)) (.int 2147483629)) (.int 48271)) (.int 2147483647))) 
      (.cons (.app 5 (.bin .mod (.bin .fdiv (.frz 7) (.int 16)) (.ix (.frz 2) (.frz 6)))) .nil)))))) .nil)
def c_numbers : Fn := ⟨3, 8, 
  (.cons (.set 3 (.blt .max (.cons (.frz 0) (.cons (.bin .sub (.neg (.int 1)) (.frz 0)) .nil)))) 
  (.cons (.set 4 (.frz 3)) 
  (.cons (.set 5 (.lst .nil)) 
  (.cons (.for (.nm 6) (.rng1 (.blt .len (.cons (.frz 2) .nil))) c_numbers_b) 
  (.cons (.ret (.mov 5)) .nil)))))⟩
def numOf (c : Int) : Int := if -1 - c > c then -1 - c else c
def numH (n s k : Int) : Int :=
  ((((((n + 7919 * s + 101 * k * k + k).fmod 2147483647) * 48271).fmod 2147483647) * ((((n + 7919 * s + 101 * k * k + k).fmod 2147483647) * 48271).fmod 2147483647)).fmod 2147483629 * 48271).fmod 2147483647 / 16
def numsL (n s : Int) : Nat → Int → List Int → List Int
  | _, _, [] => []
  | k, left, z :: zs => if (10 : Int) ^ 18 ≤ n ∧ 0 < left then left.fmod z :: numsL n s (k + 1) (left / z) zs else (numH n s k).fmod z :: numsL n s (k + 1) left zs
def nums (c s : Int) (zs : List Int) : List Int := numsL (numOf c) s 0 (numOf c) zs
theorem numsL_length {n s : Int} : ∀ {zs : List Int} {k : Nat} {l : Int}, (numsL n s k l zs).length = zs.length
  | [], _, _ => rfl
  | z :: zs, k, l => by unfold numsL; split <;> simp [numsL_length]
theorem nums_length {c s : Int} {zs : List Int} : (nums c s zs).length = zs.length := numsL_length
theorem numsL_get {n s : Int} : ∀ {zs : List Int} {k : Nat} {l : Int} {i : Nat} {z : Int}, (∀ z ∈ zs, 0 < z) → zs[i]? = some z → ∃ d, (numsL n s k l zs)[i]? = some d ∧ 0 ≤ d ∧ d < z
  | [], _, _, _, _, _, h => by simp at h
  | z :: zs, k, l, 0, y, hp, h => by
    simp at h; subst h
    have := hp z (by simp)
    unfold numsL; split
    · exact ⟨_, rfl, Int.fmod_nonneg_of_pos _ this, Int.fmod_lt_of_pos _ this⟩
    · exact ⟨_, rfl, Int.fmod_nonneg_of_pos _ this, Int.fmod_lt_of_pos _ this⟩
  | z :: zs, k, l, i + 1, y, hp, h => by
    unfold numsL; split
    · simpa using numsL_get (fun z hz => hp z (by simp [hz])) (by simpa using h)
    · simpa using numsL_get (fun z hz => hp z (by simp [hz])) (by simpa using h)
theorem nums_get {c s : Int} {zs : List Int} {i : Nat} {z : Int} (hp : ∀ z ∈ zs, 0 < z) (h : zs[i]? = some z) : ∃ d, (nums c s zs)[i]? = some d ∧ 0 ≤ d ∧ d < z := numsL_get hp h
structure Sizes (zs : List Int) : Prop where
  pos : ∀ z ∈ zs, 0 < z
  big : ∀ z ∈ zs, z < 2 ^ 64
  len : zs.length ≤ 1000
theorem ev_numbers {P con k} {c s : Int} {zs : List Int} (h : P "_law_numbers" = some c_numbers) (hz : Sizes zs) (hs : -1000000000 < s ∧ s < 1000000000) :
    evF P con (k + 1) "_law_numbers" [.int c, .int s, .lst (zs.map .int)] = .ret (.l (vis (nums c s zs))) := by
  have hzl := hz.len
  rw [evF_at h rfl]
  simp -implicitDefEqProofs [c_numbers, env0]
  rw [sm62' (by omega)]
  simp -implicitDefEqProofs
  refine forL_go (R := fun r => toCR (r.seq _) = _) (fun i Γ => ∃ l acc j6 j7, Γ = [some (vi c), some (vi s), some (.v (.lst (zs.map .int))), some (vi (numOf c)), some (vi l), some (.l (vis acc)), j6, j7] ∧ acc ++ numsL (numOf c) s i l (zs.drop i) = nums c s zs ∧ acc.length = i) ⟨numOf c, [], none, none, rfl, rfl, rfl⟩ ?_ ?_
  · rintro i d Γ hd ⟨l, acc, j6, j7, rfl, hacc, hlen⟩
    obtain ⟨hi, rfl⟩ := rangeD_get hd
    obtain ⟨z, hzi⟩ : ∃ z, zs[i]? = some z := ⟨zs[i], List.getElem?_eq_getElem hi⟩
    have hm : z ∈ zs := List.mem_of_getElem? hzi
    have hp := hz.pos z hm
    have hb := hz.big z hm
    have hx : ixT (.v (.lst (zs.map .int))) (.v (.int (i : Int))) = some (.v (.int z)) := ix_lst (by simp [hzi])
    have ed : zs.drop i = z :: zs.drop (i + 1) := by
      rw [List.drop_eq_getElem_cons hi]
      rw [List.getElem?_eq_getElem hi] at hzi
      rw [Option.some.inj hzi]
    rw [ed] at hacc
    unfold numsL at hacc
    have p18 : binT .pow (.v (.int 10)) (.v (.int 18)) = some (.v (.int (10 ^ 18))) := by rw [powT_i, if_pos (by decide)]; rfl
    have e1 : (0 : Int) + (i : Int) * 1 = i := by omega
    have hl : (vis acc).length < 16000000 := by rw [List.length_map]; omega
    have ht : ∀ q : Int, appT (some (some (T.l (vis acc)))) (.v (.int q)) = some (.l (vis acc ++ [.v (.int q)])) := fun q => app_ok hl rfl
    have no : ∀ (j7 : Option T), ¬ ((10 : Int) ^ 18 ≤ numOf c ∧ 0 < l) → turnOk (fun Γ => ∃ l acc j6 j7, Γ = [some (vi c), some (vi s), some (.v (.lst (zs.map .int))), some (vi (numOf c)), some (vi l), some (.l (vis acc)), j6, j7] ∧ acc ++ numsL (numOf c) s (i + 1) l (zs.drop (i + 1)) = nums c s zs ∧ acc.length = i + 1)
        (fun r => toCR (r.seq fun Γ1 => evSs (evF P con k) con (.cons (.ret (.mov 5)) .nil) Γ1) = .ret (.l (vis (nums c s zs)))) (forS (evF P con k) con (.nm 6) c_numbers_b (.int i) [some (vi c), some (vi s), some (.v (.lst (zs.map .int))), some (vi (numOf c)), some (vi l), some (.l (vis acc)), j6, j7]) := by
      intro j7 hn
      rw [if_neg hn] at hacc
      have m1 : mulT (.v (.int 7919)) (vi s) = some (.v (.int (7919 * s))) := mul64 (by omega) (by omega)
      have m2 : mulT (.v (.int 101)) (.v (.int i)) = some (.v (.int (101 * i))) := mul64 (by omega) (by omega)
      have m3 : mulT (.v (.int (101 * i))) (.v (.int i)) = some (.v (.int (101 * i * i))) := mul64 (by omega) (by omega)
      obtain ⟨a, ha⟩ : ∃ a, a = (numOf c + 7919 * s + 101 * i * i + i).fmod 2147483647 := ⟨_, rfl⟩
      have b1 : 0 ≤ a ∧ a < 2147483647 := ha ▸ fm (by decide)
      have m4 : mulT (.v (.int a)) (.v (.int 48271)) = some (.v (.int (a * 48271))) := mul64 (by omega) (by omega)
      obtain ⟨b, hb'⟩ : ∃ b, b = (a * 48271).fmod 2147483647 := ⟨_, rfl⟩
      have b2 : 0 ≤ b ∧ b < 2147483647 := hb' ▸ fm (by decide)
      have m5 : mulT (.v (.int b)) (.v (.int b)) = some (.v (.int (b * b))) := mul64 (by omega) (by omega)
      obtain ⟨d, hd'⟩ : ∃ d, d = (b * b).fmod 2147483629 := ⟨_, rfl⟩
      have b3 : 0 ≤ d ∧ d < 2147483629 := hd' ▸ fm (by decide)
      have m6 : mulT (.v (.int d)) (.v (.int 48271)) = some (.v (.int (d * 48271))) := mul64 (by omega) (by omega)
      have q1 : binT .mod (.v (.int (numOf c + 7919 * s + 101 * i * i + i))) (.v (.int 2147483647)) = some (.v (.int a)) := by rw [mod_ok (by decide), ha]
      have q2 : binT .mod (.v (.int (a * 48271))) (.v (.int 2147483647)) = some (.v (.int b)) := by rw [mod_ok (by decide), hb']
      have q3 : binT .mod (.v (.int (b * b))) (.v (.int 2147483629)) = some (.v (.int d)) := by rw [mod_ok (by decide), hd']
      have q4 : binT .mod (.v (.int (d * 48271))) (.v (.int 2147483647)) = some (.v (.int ((d * 48271).fmod 2147483647))) := mod_ok (by decide)
      have q5 : ∀ q : Int, binT .fdiv (.v (.int q)) (.v (.int 16)) = some (.v (.int (q / 16))) := fun q => fdiv_ok (by decide) (by decide)
      have q6 : ∀ q : Int, binT .mod (.v (.int q)) (.v (.int z)) = some (.v (.int (q.fmod z))) := fun q => mod_ok hp
      have eh : numH (numOf c) s i = (d * 48271).fmod 2147483647 / 16 := by unfold numH; rw [← ha, ← hb', ← hd']
      rw [eh] at hacc
      by_cases c1 : 1000000000000000000 ≤ numOf c
      · have c2 : ¬ 0 < l := fun z => hn ⟨c1, z⟩
        have e : forS (evF P con k) con (.nm 6) c_numbers_b (.int i) [some (vi c), some (vi s), some (.v (.lst (zs.map .int))), some (vi (numOf c)), some (vi l), some (.l (vis acc)), j6, j7] = .nx [some (vi c), some (vi s), some (.v (.lst (zs.map .int))), some (vi (numOf c)), some (vi l), some (.l (vis acc ++ [vi (((d * 48271).fmod 2147483647 / 16).fmod z)])), some (vi i), some (vi ((d * 48271).fmod 2147483647))] := by
          simp -implicitDefEqProofs [forS, bindTg, c_numbers_b, p18, c1, c2, m1, m2, m3, m4, m5, m6, q1, q2, q3, q4, q5, q6, hx, ht]
        rw [e]
        exact ⟨l, acc ++ [((d * 48271).fmod 2147483647 / 16).fmod z], _, _, by rw [vis_app], by simpa using hacc, by simp [hlen]⟩
      · have e : forS (evF P con k) con (.nm 6) c_numbers_b (.int i) [some (vi c), some (vi s), some (.v (.lst (zs.map .int))), some (vi (numOf c)), some (vi l), some (.l (vis acc)), j6, j7] = .nx [some (vi c), some (vi s), some (.v (.lst (zs.map .int))), some (vi (numOf c)), some (vi l), some (.l (vis acc ++ [vi (((d * 48271).fmod 2147483647 / 16).fmod z)])), some (vi i), some (vi ((d * 48271).fmod 2147483647))] := by
          simp -implicitDefEqProofs [forS, bindTg, c_numbers_b, p18, c1, m1, m2, m3, m4, m5, m6, q1, q2, q3, q4, q5, q6, hx, ht]
        rw [e]
        exact ⟨l, acc ++ [((d * 48271).fmod 2147483647 / 16).fmod z], _, _, by rw [vis_app], by simpa using hacc, by simp [hlen]⟩
    rw [e1]
    by_cases c1 : 1000000000000000000 ≤ numOf c
    · by_cases c2 : 0 < l
      · rw [if_pos ⟨c1, c2⟩] at hacc
        have e : forS (evF P con k) con (.nm 6) c_numbers_b (.int i) [some (vi c), some (vi s), some (.v (.lst (zs.map .int))), some (vi (numOf c)), some (vi l), some (.l (vis acc)), j6, j7] = .nx [some (vi c), some (vi s), some (.v (.lst (zs.map .int))), some (vi (numOf c)), some (vi (l / z)), some (.l (vis acc ++ [vi (l.fmod z)])), some (vi i), j7] := by
          simp -implicitDefEqProofs [forS, bindTg, c_numbers_b, p18, c1, c2, hx, mod_ok hp, fdiv_ok hp hb, ht]
        rw [e]
        exact ⟨l / z, acc ++ [l.fmod z], _, _, by rw [vis_app], by simpa using hacc, by simp [hlen]⟩
      · exact no j7 fun q => c2 q.2
    · exact no j7 fun q => c1 q.1
  · rintro Γ ⟨l, acc, j6, j7, rfl, hacc, hlen⟩
    simp -implicitDefEqProofs
    rw [rangeD_length, List.drop_length] at hacc
    simp only [numsL, List.append_nil] at hacc
    rw [hacc]
def c_sign : Fn := ⟨1, 2, 
  (.cons (.set 1 (.str k_sg1)) 
  (.cons (.set 1 (.bin .add (.frz 1) (.str k_sg2))) 
  (.cons (.ret (.ix (.frz 1) (.bin .mod (.frz 0) (.int 96)))) .nil)))⟩
def signs : List Nat := k_sg1 ++ k_sg2
theorem ev_sign {P : String → Option Fn} {con : String → Option D} {k : Nat} {q : Int} (h : P "_law_sign" = some c_sign) : ∃ c, c ∈ signs ∧ evF P con (k + 1) "_law_sign" [.int q] = .ret (.v (.str [c])) := by
  rw [evF_at h rfl]
  have b := fm (a := q) (m := 96) (by decide)
  obtain ⟨c, hc⟩ : ∃ c, (k_sg1 ++ k_sg2)[(q.fmod 96).toNat]? = some c :=
    ⟨_, List.getElem?_eq_getElem (by rw [show (k_sg1 ++ k_sg2).length = 96 by decide]; omega)⟩
  refine ⟨c, List.mem_of_getElem? hc, ?_⟩
  have hx := ix_str b.1 hc
  have l : k_sg1.length + k_sg2.length = 96 := by decide
  simp -implicitDefEqProofs [c_sign, env0, hx, l]
end Tv

namespace Tv
open PySem
/-! ### whole numbers by figures -/
def dg (n : Nat) : List Nat := (Nat.toDigits 10 n).map Char.toNat
theorem showI_nat (n : Nat) : showI (n : Int) = dg n := PySem.W.KIN.signs_num n
theorem showI_neg (n : Nat) (h : 0 < n) : showI (-(n : Int)) = 45 :: dg n := by
  unfold showI dg
  rw [show (Str.ofString (toString (-(n : Int)))).cps.toList = (toString (-(n : Int))).toList.map Char.toNat from TL.tl_ofString _]
  obtain ⟨m, rfl⟩ : ∃ m, n = m + 1 := ⟨n - 1, by omega⟩
  show (("-" ++ Nat.repr (m + 1)).toList).map Char.toNat = _
  rw [String.toList_append, Nat.toList_repr]
  rfl
theorem dg_small {d : Nat} (h : d < 10) : dg d = [48 + d] := by
  unfold dg
  rw [Nat.toDigits_of_lt_base h]
  match d, h with
  | 0, _ => rfl
  | 1, _ => rfl
  | 2, _ => rfl
  | 3, _ => rfl
  | 4, _ => rfl
  | 5, _ => rfl
  | 6, _ => rfl
  | 7, _ => rfl
  | 8, _ => rfl
  | 9, _ => rfl
theorem dg_snoc {n d : Nat} (hn : 0 < n) (hd : d < 10) : dg (n * 10 + d) = dg n ++ [48 + d] := by
  rw [← dg_small hd]
  unfold dg
  rw [← List.map_append, Nat.toDigits_append_toDigits (by decide) hn hd, Nat.mul_comm]
theorem dg_pos (n : Nat) : dg n ≠ [] := by
  unfold dg
  intro h
  have := PySem.toDigits_len_ge 10 n
  rw [List.map_eq_nil_iff.mp h] at this
  exact absurd this (by decide)
theorem dg_len {n k : Nat} (hk : 1 ≤ k) (h : n < 10 ^ k) : (dg n).length ≤ k := by
  unfold dg
  rw [List.length_map]
  exact PySem.toDigits_len_pow (by decide) hk h
def c_written_b1 : Ss := 
    (.cons (.ife (.or (.cmp .ne (.frz 4) (.str [])) (.cmp .gt (.frz 5) (.int 0))) (
      (.cons (.set 4 (.bin .add (.frz 4) (.ix (.str k_dig) (.frz 5)))) .nil)) (.nil)) 
    (.cons (.set 3 (.bin .add (.bin .mul (.frz 3) (.int 10)) (.frz 5))) .nil))
def c_written : Fn := ⟨2, 6, 
  (.cons (.set 2 (.call "_law_numbers" (.cons (.frz 0) (.cons (.frz 1) (.cons (.bin .add (.lst (.cons (.int 61) (.cons (.int 2) .nil))) (.bin .mul (.lst (.cons (.int 10) .nil)) (.int 60))) .nil))))) 
  (.cons (.set 3 (.int 0)) 
  (.cons (.set 4 (.str [])) 
  (.cons (.for (.nm 5) (.seq (.sl (.frz 2) (.so (.int 2)) (.so (.bin .add (.int 2) (.ix (.frz 2) (.int 0)))))) c_written_b1) 
  (.cons (.ife (.cmp .eq (.frz 4) (.str [])) (
    (.cons (.ret (.tup (.cons (.int 0) (.cons (.str [48]) .nil)))) .nil)) (.nil)) 
  (.cons (.ife (.cmp .eq (.ix (.frz 2) (.int 1)) (.int 1)) (
    (.cons (.ret (.tup (.cons (.bin .sub (.int 0) (.frz 3)) (.cons (.bin .add (.str [45]) (.frz 4)) .nil)))) .nil)) (.nil)) 
  (.cons (.ret (.tup (.cons (.mov 3) (.cons (.mov 4) .nil)))) .nil)))))))⟩
theorem eqT_ss (s t : List Nat) : eqT (.v (.str s)) (.v (.str t)) = some (decide (s = t)) := by
  simp only [eqT, er_v, D.okD, Bool.and_self, if_true, eqD, D.py, PyData.eqv]
  congr 1
  rw [Bool.eq_iff_iff]
  simp
theorem kd_ix {d : Int} (h : 0 ≤ d ∧ d < 10) : ixT (.v (.str k_dig)) (.v (.int d)) = some (.v (.str [48 + d.toNat])) := by
  refine ix_str h.1 ?_
  obtain ⟨n, rfl⟩ := Int.eq_ofNat_of_zero_le h.1
  have hn : n < 10 := by omega
  rw [Int.toNat_natCast]
  match n, hn with
  | 0, _ => rfl
  | 1, _ => rfl
  | 2, _ => rfl
  | 3, _ => rfl
  | 4, _ => rfl
  | 5, _ => rfl
  | 6, _ => rfl
  | 7, _ => rfl
  | 8, _ => rfl
  | 9, _ => rfl
def big60 : Nat := 10 ^ 60
def big60_eq : big60 = 10 ^ 60 := rfl
def wtx (m : Nat) : List Nat := if m = 0 then [] else dg m
theorem wtx_len {m i : Nat} (h : m < 10 ^ i) (hi : i ≤ 60) : (wtx m).length ≤ 60 := by
  unfold wtx
  split
  · simp
  · exact dg_len (by decide) (Nat.lt_of_lt_of_le h (Nat.pow_le_pow_right (by decide) hi))
theorem wtx_nil {m : Nat} : wtx m = [] ↔ m = 0 := by
  unfold wtx
  split
  · simp [*]
  · simp [*, dg_pos]
theorem wtx_snoc {m d : Nat} (hd : d < 10) (h : ¬ (m = 0 ∧ d = 0)) : wtx (m * 10 + d) = wtx m ++ [48 + d] := by
  unfold wtx
  rw [if_neg (by omega)]
  by_cases h0 : m = 0
  · rw [if_pos h0, h0, Nat.zero_mul, Nat.zero_add, dg_small hd]; rfl
  · rw [if_neg h0, dg_snoc (by omega) hd]
theorem ev_written {P : String → Option Fn} {con : String → Option D} {k : Nat} {c s : Int} (hs : -1000000000 < s ∧ s < 1000000000) (h : P "_law_written" = some c_written) (h2 : P "_law_numbers" = some c_numbers) :
    ∃ n : Int, n.natAbs < big60 ∧ evF P con (k + 2) "_law_written" [.int c, .int s] = .ret (.tp [.v (.int n), .v (.str (showI n))]) := by
  rw [evF_at h rfl]
  obtain ⟨zs, hzs⟩ : ∃ zs : List Int, zs = [61, 2] ++ List.replicate 60 10 := ⟨_, rfl⟩
  have hz : Sizes zs := by subst hzs; exact ⟨by decide, by decide, by decide⟩
  have e1 := ev_numbers (P := P) (con := con) (k := k) (c := c) h2 hz hs
  have key : ∀ (i : Nat) (z : Int), zs[i]? = some z → ∃ d, (nums c s zs)[i]? = some d ∧ 0 ≤ d ∧ d < z := fun i z => nums_get hz.pos
  have hl : (nums c s zs).length = 62 := by rw [nums_length, hzs]; rfl
  obtain ⟨xs, hxs⟩ : ∃ xs, xs = nums c s zs := ⟨_, rfl⟩
  rw [← hxs] at e1 key hl
  obtain ⟨us, hus⟩ : ∃ us, us = (List.replicate 60 [D.int 10]).flatten.map T.v := ⟨_, rfl⟩
  have m10 : mulT (.l [.v (.int 10)]) (.v (.int 60)) = some (.l us) := by rw [hus]; exact mulL_ok (k := 60) (ds := [.int 10]) (by simp [asF, T.ers]) (by decide) (by decide)
  have a10 : addT (.l [T.v (.int 61), .v (.int 2)]) (.l us) = some (.l ((zs.map D.int).map .v)) := by
    rw [addT_ll (by rw [hus]; decide), hus, hzs]; rfl
  have dig : ∀ (i : Nat) (z : Int), zs[i]? = some z → ∃ d, ixT (.v (.lst (xs.map .int))) (.v (.int (i : Int))) = some (.v (.int d)) ∧ 0 ≤ d ∧ d < z := fun i z hi => by
    obtain ⟨d, q1, q2⟩ := key i z hi
    exact ⟨d, ix_lst (by simp [q1]), q2⟩
  obtain ⟨d0, i0, b0⟩ := dig 0 61 (by rw [hzs]; rfl)
  obtain ⟨d1, i1, b1⟩ := dig 1 2 (by rw [hzs]; rfl)
  simp at i0 i1
  obtain ⟨ys, hys⟩ : ∃ ys, ys = cutL xs (some 2) (some (2 + d0)) := ⟨_, rfl⟩
  have hyl : ys.length ≤ 60 := by
    rw [hys, cutL_two (by decide) (by omega), List.length_take]; omega
  have hyb : ∀ y ∈ ys, 0 ≤ y ∧ y < 10 := by
    intro y hy
    rw [hys, cutL_two (by decide) (by omega)] at hy
    obtain ⟨i, hi⟩ := List.mem_iff_getElem?.mp (List.mem_of_mem_take hy)
    rw [List.getElem?_drop] at hi
    have hlt := (List.getElem?_eq_some_iff.mp hi).1
    have h7 : (2 : Int).toNat = 2 := rfl
    rw [h7] at hi hlt
    rw [hl] at hlt
    obtain ⟨d, q1, q2⟩ := key (2 + i) 10 (by
      rw [hzs, List.getElem?_append_right (by simp), List.getElem?_replicate]
      rw [if_pos (by simp; omega)])
    rw [q1] at hi
    cases hi
    exact q2
  have hyl' : ys.length ≤ 16777216 := by omega
  have loop : ∃ (m : Nat) (j : Option T), forL (forS (evF P con (k + 1)) con (.nm 5) c_written_b1) (ys.map .int) [some (vi c), some (vi s), some (.v (.lst (xs.map .int))), some (vi 0), some (.v (.str [])), none] =
      .nx [some (vi c), some (vi s), some (.v (.lst (xs.map .int))), some (vi m), some (.v (.str (wtx m))), j] ∧ m < big60 := by
    refine forL_go (R := fun r => ∃ (m : Nat) (j : Option T), r = .nx [some (vi c), some (vi s), some (.v (.lst (xs.map .int))), some (vi m), some (.v (.str (wtx m))), j] ∧ m < big60)
      (fun i Γ => ∃ (m : Nat) (j : Option T), Γ = [some (vi c), some (vi s), some (.v (.lst (xs.map .int))), some (vi m), some (.v (.str (wtx m))), j] ∧ m < 10 ^ i) ⟨0, none, rfl, by decide⟩ ?_ ?_
    · rintro i d Γ hd ⟨m, j, rfl, hm⟩
      rw [List.getElem?_map] at hd
      obtain ⟨y, hy, rfl⟩ := Option.map_eq_some_iff.mp hd
      have hyi := (List.getElem?_eq_some_iff.mp hy).1
      have yb := hyb y (List.mem_of_getElem? hy)
      have hm64 : (m : Int).natAbs < 2 ^ 400 := by
        rw [Int.natAbs_natCast]
        exact Nat.lt_trans (Nat.lt_of_lt_of_le hm (Nat.pow_le_pow_right (by decide) (by omega : i ≤ 60))) (by decide)
      have mm : mulT (.v (.int (m : Int))) (.v (.int 10)) = some (.v (.int (m * 10))) := mul_ok (a := 400) (b := 10) hm64 (by decide) (by decide) (by decide) (by decide)
      have hk := kd_ix yb
      have hlen := wtx_len hm (by omega)
      have ht : addT (.v (.str (wtx m))) (.v (.str [48 + y.toNat])) = some (.v (.str (wtx m ++ [48 + y.toNat]))) := by
        rw [addT_s, if_pos (by simp only [List.length_cons, List.length_nil]; show _ ≤ 16777216; omega)]
      have hp : m * 10 + y.toNat < 10 ^ (i + 1) := by rw [Nat.pow_succ]; omega
      have hc : ((m * 10 + y.toNat : Nat) : Int) = m * 10 + y := by omega
      have fin : ∃ j', forS (evF P con (k + 1)) con (.nm 5) c_written_b1 (.int y) [some (vi c), some (vi s), some (.v (.lst (xs.map .int))), some (vi m), some (.v (.str (wtx m))), j] =
          .nx [some (vi c), some (vi s), some (.v (.lst (xs.map .int))), some (vi (m * 10 + y)), some (.v (.str (wtx (m * 10 + y.toNat)))), j'] := by
        by_cases hz0 : m = 0 ∧ y = 0
        · obtain ⟨rfl, rfl⟩ := hz0
          exact ⟨_, by simp -implicitDefEqProofs [forS, c_written_b1, eqT_ss, wtx, mm]; rfl⟩
        · have hs := wtx_snoc (m := m) (d := y.toNat) (by omega) (by omega)
          have hcond : (decide (wtx m = []) = true) → 0 < y := by
            intro q
            have := wtx_nil.mp (of_decide_eq_true q)
            omega
          rw [hs]
          by_cases w0 : wtx m = []
          · have y0 := hcond (decide_eq_true w0)
            rw [w0] at ht
            exact ⟨_, by simp -implicitDefEqProofs [forS, c_written_b1, eqT_ss, w0, y0, hk, mm]; rfl⟩
          · exact ⟨_, by simp -implicitDefEqProofs [forS, c_written_b1, eqT_ss, w0, hk, ht, mm, -addT_s]; rfl⟩
      obtain ⟨j', fin⟩ := fin
      rw [fin]
      exact ⟨m * 10 + y.toNat, _, by rw [hc], hp⟩
    · rintro Γ ⟨m, j, rfl, hm⟩
      refine ⟨m, j, rfl, ?_⟩
      rw [List.length_map] at hm
      exact Nat.lt_of_lt_of_le hm (Nat.pow_le_pow_right (by decide) hyl)
  obtain ⟨m, j, hloop, hm⟩ := loop
  have hl60 := wtx_len (i := 60) hm (Nat.le_refl _)
  by_cases m0 : m = 0
  · refine ⟨0, by decide, ?_⟩
    have e0 : showI 0 = [48] := by rw [show (0 : Int) = ((0 : Nat) : Int) from rfl, showI_nat]; rfl
    have w0 : wtx m = [] := wtx_nil.mpr m0
    simp -implicitDefEqProofs [c_written, env0, m10, a10, e1, i0, ← hys, cutL_map, hyl', hloop, eqT_ss, w0, e0]
  · have w0 : wtx m ≠ [] := fun z => m0 (wtx_nil.mp z)
    have wd : wtx m = dg m := by unfold wtx; rw [if_neg m0]
    by_cases c1 : d1 = 1
    · refine ⟨-(m : Int), by rw [Int.natAbs_neg]; exact hm, ?_⟩
      have ht : addT (.v (.str [45])) (.v (.str (wtx m))) = some (.v (.str (45 :: wtx m))) := by
        rw [addT_s, if_pos (by simp only [List.length_cons, List.length_nil]; show _ ≤ 16777216; omega)]; rfl
      rw [showI_neg m (by omega), ← wd]
      simp -implicitDefEqProofs [c_written, env0, m10, a10, e1, i0, i1, c1, ← hys, cutL_map, hyl', hloop, eqT_ss, w0, ht, -addT_s]
    · refine ⟨m, hm, ?_⟩
      rw [showI_nat, ← wd]
      simp -implicitDefEqProofs [c_written, env0, m10, a10, e1, i0, i1, c1, ← hys, cutL_map, hyl', hloop, eqT_ss, w0]
end Tv

namespace Tv
open PySem
/-! ### wishes: a look at them, and as the laws draw them -/
def k_copies : List Nat := [99, 111, 112, 105, 101, 115]
def c_is_whole : Fn := ⟨1, 1, 
  (.cons (.ret (.and (.isi (.frz 0) .int) (.not (.isi (.frz 0) .bool)))) .nil)⟩

def c_need_row : Fn := ⟨3, 3, 
  (.cons (.ife (.or (.not (.isi (.frz 1) .list)) (.not (.cmp2 .le .le (.int 1) (.blt .len (.cons (.frz 1) .nil)) (.frz 2)))) (
    (.cons (.dead) .nil)) (.nil)) .nil)⟩

def c_is_many : Fn := ⟨1, 1, 
  (.cons (.ret (.and (.call "is_whole" (.cons (.frz 0) .nil)) (.cmp2 .le .le (.int 0) (.frz 0) (.glb "MOST_COPIES")))) .nil)⟩

def c_is_thing : Fn := ⟨2, 2, 
  (.cons (.ret (.and (.call "is_whole" (.cons (.frz 0) .nil)) (.cmp2 .le .lt (.int 0) (.frz 0) (.frz 1)))) .nil)⟩

def c_are_ranks_b1 : Ss := 
      (.cons (.ife (.or (.not (.call "is_thing" (.cons (.frz 4) (.cons (.frz 1) .nil)))) (.cmp .isIn (.frz 4) (.var 2))) (
        (.cons (.ret (.bl false)) .nil)) (.nil)) 
      (.cons (.app 2 (.frz 4)) .nil))
def c_are_ranks_b2 : Ss := 
    (.cons (.ife (.or (.not (.isi (.frz 3) .list)) (.cmp .eq (.frz 3) (.lst .nil))) (
      (.cons (.ret (.bl false)) .nil)) (.nil)) 
    (.cons (.for (.nm 4) (.seq (.frz 3)) c_are_ranks_b1) .nil))
def c_are_ranks : Fn := ⟨2, 5, 
  (.cons (.ife (.or (.not (.isi (.frz 0) .list)) (.cmp .gt (.blt .len (.cons (.frz 0) .nil)) (.glb "MOST_RANKS"))) (
    (.cons (.ret (.bl false)) .nil)) (.nil)) 
  (.cons (.set 2 (.lst .nil)) 
  (.cons (.for (.nm 3) (.seq (.frz 0)) c_are_ranks_b2) 
  (.cons (.ret (.bl true)) .nil))))⟩

def c_look_at_wishes_b1 : Ss := 
    (.cons (.ife (.not (.call "is_many" (.cons (.frz 4) .nil))) (
      (.cons (.dead) .nil)) (.nil)) .nil)
def c_look_at_wishes_b2 : Ss := 
    (.cons (.ife (.not (.call "are_ranks" (.cons (.frz 5) (.cons (.blt .len (.cons (.frz 1) .nil)) .nil)))) (
      (.cons (.dead) .nil)) (.nil)) .nil)
def c_look_at_wishes : Fn := ⟨1, 6, 
  (.cons (.ife (.or (.not (.isi (.frz 0) .tuple)) (.cmp .ne (.blt .len (.cons (.frz 0) .nil)) (.int 2))) (
    (.cons (.dead) .nil)) (.nil)) 
  (.cons (.setT [1, 2] (.frz 0)) 
  (.cons (.ex (.call "need_row" (.cons (.str k_copies) (.cons (.frz 1) (.cons (.glb "MOST_THINGS") .nil))))) 
  (.cons (.for (.tp [3, 4]) (.enum (.frz 1)) c_look_at_wishes_b1) 
  (.cons (.ex (.call "need_row" (.cons (.str [108, 105, 115, 116, 115]) (.cons (.frz 2) (.cons (.glb "MOST_ASKERS") .nil))))) 
  (.cons (.for (.tp [3, 5]) (.enum (.frz 2)) c_look_at_wishes_b2) .nil))))))⟩

def c_l_cell_at : Fn := ⟨2, 2, 
  (.cons (.ife (.cmp .lt (.frz 1) (.blt .len (.cons (.frz 0) .nil))) (
    (.cons (.ret (.ix (.frz 0) (.frz 1))) .nil)) (.nil)) 
  (.cons (.ret (.int 0)) .nil))⟩

def c_l_wishes_e1 : E := .ix (.lst (.cons (.int 1) (.cons (.int 1) (.cons (.int 2) (.cons (.int 0) (.cons (.int 3) (.cons (.int 7) (.cons (.int 1) (.cons (.int 4) (.cons (.int 5) (.cons (.int 6) (.cons (.int 1) .nil)))))))))))) (.frz 14)
def c_l_wishes_e2 : E := .frz 16
def c_l_wishes_b1 : Ss := 
      (.cons (.setF 15 (.lc [16] (.nm 16) (.rng1 (.blt .len (.cons (.var 7) .nil))) (.so (.cmp .eq (.ix (.frz 11) (.frz 16)) (.frz 13))) c_l_wishes_e2)) 
      (.cons (.ife (.cmp .ne (.frz 15) (.lst .nil)) (
        (.cons (.app 12 (.ix (.lst (.cons (.frz 15) (.cons (.rev (.frz 15)) .nil))) (.ix (.frz 11) (.neg (.int 1))))) .nil)) (.nil)) .nil))
def c_l_wishes_b2 : Ss := 
    (.cons (.setF 10 (.call "_law_cell_at" (.cons (.frz 0) (.cons (.bin .add (.bin .add (.frz 1) (.int 1)) (.frz 9)) .nil)))) 
    (.cons (.setF 11 (.call "_law_numbers" (.cons (.frz 10) (.cons (.bin .add (.bin .add (.bin .mul (.int 11) (.frz 1)) (.bin .mul (.int 3) (.frz 9))) (.int 1)) (.cons (.bin .add (.bin .mul (.lst (.cons (.bin .add (.frz 4) (.int 1)) .nil)) (.frz 2)) (.lst (.cons (.int 2) .nil))) .nil))))) 
    (.cons (.set 12 (.lst .nil)) 
    (.cons (.for (.nm 13) (.rng2 (.int 1) (.bin .add (.frz 4) (.int 1))) c_l_wishes_b1) 
    (.cons (.app 8 (.mov 12)) .nil)))))
def c_l_wishes : Fn := ⟨5, 17, 
  (.cons (.setF 5 (.bin .add (.lst (.cons (.frz 2) (.cons (.frz 3) .nil))) (.bin .mul (.lst (.cons (.int 11) .nil)) (.frz 2)))) 
  (.cons (.setF 6 (.call "_law_numbers" (.cons (.call "_law_cell_at" (.cons (.frz 0) (.cons (.frz 1) .nil))) (.cons (.frz 1) (.cons (.frz 5) .nil))))) 
  (.cons (.set 7 (.lc [14] (.nm 14) (.seq (.sl (.frz 6) (.so (.int 2)) (.so (.bin .add (.int 3) (.ix (.frz 6) (.int 0)))))) .no c_l_wishes_e1)) 
  (.cons (.set 8 (.lst .nil)) 
  (.cons (.for (.nm 9) (.rng1 (.bin .add (.int 1) (.ix (.frz 6) (.int 1)))) c_l_wishes_b2) 
  (.cons (.ret (.tup (.cons (.mov 7) (.cons (.mov 8) .nil)))) .nil))))))⟩

section
variable {P : String → Option Fn} {con : String → Option D} {k : Nat} {d : D}
def isWhole : D → Bool
  | .int _ => true
  | _ => false
theorem ev_is_whole (h : P "is_whole" = some c_is_whole) : evF P con (k + 1) "is_whole" [d] = .ret (.v (.bl (isWhole d))) := by
  rw [evF_at h rfl]
  cases d <;> simp -implicitDefEqProofs [c_is_whole, env0, D.isi, isWhole]
def isBetween (a b : Int) : D → Bool
  | .int i => decide (a ≤ i ∧ i ≤ b)
  | _ => false
theorem ev_is_many (h : P "is_many" = some c_is_many) (h1 : P "is_whole" = some c_is_whole) (h2 : con "MOST_COPIES" = some (.int 7)) : evF P con (k + 2) "is_many" [d] = .ret (.v (.bl (isBetween 0 7 d))) := by
  rw [evF_at h rfl]
  have w := ev_is_whole (P := P) (con := con) (k := k) (d := d) h1
  cases d with
  | int i =>
    by_cases c1 : 0 ≤ i
    · by_cases c2 : i ≤ 7 <;> simp -implicitDefEqProofs [c_is_many, env0, w, isWhole, isBetween, h2, c1, c2]
    · simp -implicitDefEqProofs [c_is_many, env0, w, isWhole, isBetween, h2, c1]
  | _ => simp -implicitDefEqProofs [c_is_many, env0, w, isWhole, isBetween]
theorem ev_is_thing {n : Int} (h : P "is_thing" = some c_is_thing) (h1 : P "is_whole" = some c_is_whole) : evF P con (k + 2) "is_thing" [d, .int n] = .ret (.v (.bl (isBetween 0 (n - 1) d))) := by
  rw [evF_at h rfl]
  have w := ev_is_whole (P := P) (con := con) (k := k) (d := d) h1
  cases d with
  | int i =>
    by_cases c1 : 0 ≤ i
    · by_cases c2 : i < n
      · have c3 : i ≤ n - 1 := by omega
        simp -implicitDefEqProofs [c_is_thing, env0, w, isWhole, isBetween, c1, c2, c3]
      · have c3 : ¬ i ≤ n - 1 := by omega
        simp -implicitDefEqProofs [c_is_thing, env0, w, isWhole, isBetween, c1, c2, c3]
    · simp -implicitDefEqProofs [c_is_thing, env0, w, isWhole, isBetween, c1]
  | _ => simp -implicitDefEqProofs [c_is_thing, env0, w, isWhole, isBetween]
/-- one rank's things -/
def goRank (n : Int) : List D → List Int → Option (List Int)
  | [], seen => some seen
  | .int i :: r, seen => if 0 ≤ i ∧ i < n ∧ i ∉ seen then goRank n r (seen ++ [i]) else none
  | _ :: _, _ => none
def goRanks (n : Int) : List D → List Int → Option (List Int)
  | [], seen => some seen
  | .lst xs :: r, seen => if xs = [] then none else (goRank n xs seen).bind (goRanks n r)
  | _ :: _, _ => none
def areRanks (n : Int) : D → Bool
  | .lst rs => decide (rs.length ≤ 5) && (goRanks n rs []).isSome
  | _ => false
theorem eqD_int (i j : Int) : eqD (.int i) (.int j) = decide (i = j) := by
  simp [eqD, D.py, PyData.eqv]; rfl
theorem in_ints {i : Int} {xs : List Int} : inT (.v (.int i)) (.b (.lst (xs.map .int))) = some (decide (i ∈ xs)) := by
  have e : asQ (.b (.lst (xs.map .int))) = some (xs.map fun i => T.v (.int i)) := by
    simp only [asQ, List.map_map]; rfl
  simp only [inT, e]
  have f : ((T.v (.int i)).er.flat && (xs.map fun i => T.v (.int i)).all fun t => t.er.flat) = true := by
    rw [Bool.and_eq_true]
    refine ⟨by simp [D.flat], ?_⟩
    rw [List.all_eq_true]
    intro t ht
    obtain ⟨j, _, rfl⟩ := List.mem_map.mp ht
    simp [D.flat]
  rw [if_pos f]
  congr 1
  rw [Bool.eq_iff_iff, List.any_eq_true, decide_eq_true_eq]
  constructor
  · rintro ⟨t, ht, h⟩
    obtain ⟨j, hj, rfl⟩ := List.mem_map.mp ht
    rw [er_v, er_v, eqD_int, decide_eq_true_eq] at h
    rw [← h]; exact hj
  · intro h
    exact ⟨_, List.mem_map.mpr ⟨i, h, rfl⟩, by simp [eqD_int]⟩
theorem goRank_len {n : Int} : ∀ {xs : List D} {seen out : List Int}, goRank n xs seen = some out → out.length = seen.length + xs.length
  | [], seen, out, h => by cases h; simp
  | d :: r, seen, out, h => by
    cases d with
    | int i =>
      unfold goRank at h
      split at h
      · have := goRank_len h; simp at this ⊢; omega
      · cases h
    | _ => cases h
abbrev gk (d : D) (n : Int) (seen : List Int) (j3 j4 : Option T) : Env := [some (.v d), some (vi n), some (.l (vis seen)), j3, j4]
/-- the inner loop -/
theorem rank_loop {n : Int} {d0 : D} (h : P "is_thing" = some c_is_thing) (h1 : P "is_whole" = some c_is_whole) : ∀ (xs : List D) (seen : List Int) (j3 j4 : Option T), seen.length + xs.length ≤ 10000000 →
    (∃ j, ∀ out, goRank n xs seen = some out → forL (forS (evF P con (k + 2)) con (.nm 4) c_are_ranks_b1) xs (gk d0 n seen j3 j4) = .nx (gk d0 n out j3 j)) ∧
    (goRank n xs seen = none → ∃ Γ, forL (forS (evF P con (k + 2)) con (.nm 4) c_are_ranks_b1) xs (gk d0 n seen j3 j4) = .rt (.v (.bl false)) Γ)
  | [], seen, j3, j4, _ => ⟨⟨j4, fun out e => by cases e; rfl⟩, fun e => by cases e⟩
  | x :: xs, seen, j3, j4, hl => by
    have t := ev_is_thing (P := P) (con := con) (k := k) (d := x) (n := n) h h1
    rw [List.length_cons] at hl
    have odd : ∀ x : D, isBetween 0 (n - 1) x = false → forS (evF P con (k + 2)) con (.nm 4) c_are_ranks_b1 x (gk d0 n seen j3 j4) = .rt (.v (.bl false)) (gk d0 n seen j3 (some (.v x))) := by
      intro x hx
      have t := ev_is_thing (P := P) (con := con) (k := k) (d := x) (n := n) h h1
      simp -implicitDefEqProofs [forS, c_are_ranks_b1, t, hx]
    cases x with
    | int i =>
      by_cases c : 0 ≤ i ∧ i < n ∧ i ∉ seen
      · have c3 : i ≤ n - 1 := by omega
        have hap : appT (some (some (.l (vis seen)))) (.v (.int i)) = some (.l (vis (seen ++ [i]))) := by rw [app_ok (by rw [List.length_map]; omega) rfl, vis_app]
        have e : forS (evF P con (k + 2)) con (.nm 4) c_are_ranks_b1 (.int i) (gk d0 n seen j3 j4) = .nx (gk d0 n (seen ++ [i]) j3 (some (vi i))) := by
          simp -implicitDefEqProofs [forS, c_are_ranks_b1, t, isBetween, c.1, c3, in_ints, c.2.2, hap, Function.comp_def]
        obtain ⟨⟨j, q1⟩, q2⟩ := rank_loop h h1 xs (seen ++ [i]) j3 (some (vi i)) (by simp; omega)
        refine ⟨⟨j, fun out ho => ?_⟩, fun ho => ?_⟩
        · unfold goRank at ho
          rw [if_pos c] at ho
          unfold forL
          rw [e]
          exact q1 out ho
        · unfold goRank at ho
          rw [if_pos c] at ho
          obtain ⟨Γ, q⟩ := q2 ho
          unfold forL
          rw [e]
          exact ⟨Γ, q⟩
      · refine ⟨⟨none, fun out ho => ?_⟩, fun _ => ?_⟩
        · unfold goRank at ho
          rw [if_neg c] at ho; cases ho
        · refine ⟨gk d0 n seen j3 (some (vi i)), ?_⟩
          have e : forS (evF P con (k + 2)) con (.nm 4) c_are_ranks_b1 (.int i) (gk d0 n seen j3 j4) = .rt (.v (.bl false)) (gk d0 n seen j3 (some (vi i))) := by
            by_cases c1 : 0 ≤ i ∧ i ≤ n - 1
            · have c2 : i ∈ seen := Decidable.byContradiction fun q => c ⟨c1.1, by omega, q⟩
              simp -implicitDefEqProofs [forS, c_are_ranks_b1, t, isBetween, c1, in_ints, c2, Function.comp_def]
            · simp -implicitDefEqProofs [forS, c_are_ranks_b1, t, isBetween, c1]
          unfold forL
          rw [e]
    | _ =>
      refine ⟨⟨none, fun out ho => by cases ho⟩, fun _ => ?_⟩
      unfold forL
      rw [odd _ rfl]
      exact ⟨_, rfl⟩
theorem ranks_loop {n : Int} {d0 : D} (h : P "is_thing" = some c_is_thing) (h1 : P "is_whole" = some c_is_whole) : ∀ (rs : List D) (seen : List Int) (j3 j4 : Option T), seen.length + (rs.map fun d => match d with
      | .lst xs => xs.length
      | _ => 0).sum ≤ 10000000 → (∀ d ∈ rs, d.okD 60 = true) →
    (∃ j j', ∀ out, goRanks n rs seen = some out → forL (forS (evF P con (k + 2)) con (.nm 3) c_are_ranks_b2) rs (gk d0 n seen j3 j4) = .nx (gk d0 n out j j')) ∧
    (goRanks n rs seen = none → ∃ Γ, forL (forS (evF P con (k + 2)) con (.nm 3) c_are_ranks_b2) rs (gk d0 n seen j3 j4) = .rt (.v (.bl false)) Γ)
  | [], seen, j3, j4, _, _ => ⟨⟨j3, j4, fun out e => by cases e; rfl⟩, fun e => by cases e⟩
  | r :: rs, seen, j3, j4, hl, hd => by
    have odd : ∀ x : D, x.isi .list = false → forS (evF P con (k + 2)) con (.nm 3) c_are_ranks_b2 x (gk d0 n seen j3 j4) = .rt (.v (.bl false)) (gk d0 n seen (some (.v x)) j4) := by
      intro x hx
      simp -implicitDefEqProofs [forS, c_are_ranks_b2, hx]
    rw [List.map_cons, List.sum_cons] at hl
    cases r with
    | lst xs =>
      have eqn : eqT (.v (.lst xs)) (.l []) = some xs.isEmpty := by
        unfold eqT
        rw [er_v, er_l, hd _ List.mem_cons_self, List.map_nil, okD_60, eqD_nil]
        simp [D.okDs]
      by_cases c : xs = []
      · subst c
        refine ⟨⟨none, none, fun out ho => by simp [goRanks] at ho⟩, fun _ => ?_⟩
        unfold forL
        have e : forS (evF P con (k + 2)) con (.nm 3) c_are_ranks_b2 (.lst []) (gk d0 n seen j3 j4) = .rt (.v (.bl false)) (gk d0 n seen (some (.v (.lst []))) j4) := by
          simp -implicitDefEqProofs [forS, c_are_ranks_b2, D.isi, eqn]
        rw [e]
        exact ⟨_, rfl⟩
      · have hne : xs.isEmpty = false := by cases xs with
          | nil => exact absurd rfl c
          | cons _ _ => rfl
        rw [hne] at eqn
        have hl' : seen.length + xs.length ≤ 10000000 := by dsimp only at hl; omega
        obtain ⟨⟨j, q1⟩, q2⟩ := rank_loop (P := P) (con := con) (k := k) (n := n) (d0 := d0) h h1 xs seen (some (.v (.lst xs))) j4 hl'
        have unfoldStep : forS (evF P con (k + 2)) con (.nm 3) c_are_ranks_b2 (.lst xs) (gk d0 n seen j3 j4) = (forL (forS (evF P con (k + 2)) con (.nm 4) c_are_ranks_b1) xs (gk d0 n seen (some (.v (.lst xs))) j4)).seq fun Γ1 => .nx Γ1 := by
          simp -implicitDefEqProofs [forS, c_are_ranks_b2, D.isi, eqn]
        cases hg : goRank n xs seen with
        | none =>
          obtain ⟨Γ, q⟩ := q2 hg
          refine ⟨⟨none, none, fun out ho => by simp [goRanks, c, hg] at ho⟩, fun _ => ?_⟩
          unfold forL
          rw [unfoldStep, q]
          exact ⟨_, rfl⟩
        | some out1 =>
          have hlen := goRank_len hg
          obtain ⟨⟨p, p', r1⟩, r2⟩ := ranks_loop h h1 rs out1 (some (.v (.lst xs))) j (by dsimp only at hl; omega) (fun d hd' => hd d (by simp [hd']))
          have st := q1 out1 hg
          refine ⟨⟨p, p', fun out ho => ?_⟩, fun ho => ?_⟩
          · have ho' : goRanks n rs out1 = some out := by simpa [goRanks, c, hg] using ho
            unfold forL
            rw [unfoldStep, st]
            exact r1 out ho'
          · have ho' : goRanks n rs out1 = none := by simpa [goRanks, c, hg] using ho
            obtain ⟨Γ, q⟩ := r2 ho'
            unfold forL
            rw [unfoldStep, st]
            exact ⟨Γ, q⟩
    | scr ns => exact absurd (hd _ List.mem_cons_self) (by simp [D.okD])
    | _ =>
      refine ⟨⟨none, none, fun out ho => by simp [goRanks] at ho⟩, fun _ => ?_⟩
      unfold forL
      rw [odd _ rfl]
      exact ⟨_, rfl⟩
/-- how many things stand in the ranks, at most -/
def sizeR : D → Nat
  | .lst rs => (rs.map fun d => match d with
      | .lst xs => xs.length
      | _ => 0).sum
  | _ => 0
theorem ev_are_ranks {n : Int} (h0 : P "are_ranks" = some c_are_ranks) (h : P "is_thing" = some c_is_thing) (h1 : P "is_whole" = some c_is_whole) (h2 : con "MOST_RANKS" = some (.int 5)) (hs : sizeR d ≤ 10000000) (hd : d.okD 61 = true) :
    evF P con (k + 3) "are_ranks" [d, .int n] = .ret (.v (.bl (areRanks n d))) := by
  rw [evF_at h0 rfl]
  cases d with
  | lst rs =>
    have hd' : ∀ d ∈ rs, d.okD 60 = true := by
      have : D.okDs rs 60 = true := by simpa [D.okD] using hd
      clear hs hd
      induction rs with
      | nil => intro d hd; cases hd
      | cons r rs ih =>
        simp only [D.okDs, Bool.and_eq_true] at this
        intro d hd
        rcases List.mem_cons.mp hd with rfl | hd
        · exact this.1
        · exact ih this.2 d hd
    obtain ⟨⟨j, j', q1⟩, q2⟩ := ranks_loop (P := P) (con := con) (k := k) (n := n) (d0 := .lst rs) h h1 rs [] none none (by simpa [sizeR] using hs) hd'
    by_cases c : rs.length ≤ 5
    · have c' : ¬ (5 : Int) < rs.length := by omega
      have e : evSs (evF P con (k + 2)) con c_are_ranks.body [some (.v (.lst rs)), some (vi n), none, none, none] = (forL (forS (evF P con (k + 2)) con (.nm 3) c_are_ranks_b2) rs (gk (.lst rs) n [] none none)).seq fun Γ1 => .rt (.v (.bl true)) Γ1 := by
        simp -implicitDefEqProofs [c_are_ranks, D.isi, h2, c']
        try rfl
      show toCR (evSs (evF P con (k + 2)) con c_are_ranks.body [some (.v (.lst rs)), some (vi n), none, none, none]) = _
      rw [e]
      cases hg : goRanks n rs [] with
      | none =>
        obtain ⟨Γ, q⟩ := q2 hg
        rw [q]
        simp [areRanks, hg]
      | some out =>
        rw [q1 out hg]
        simp [areRanks, hg, c]
    · have c' : (5 : Int) < rs.length := by omega
      simp -implicitDefEqProofs [c_are_ranks, env0, D.isi, h2, c', areRanks, c]
  | scr ns => exact absurd hd (by simp [D.okD])
  | _ => simp -implicitDefEqProofs [c_are_ranks, env0, D.isi, h2, areRanks]
theorem ev_need_row {p : List Nat} {xs : List D} {n : Int} (h : P "need_row" = some c_need_row) (h1 : 1 ≤ xs.length) (h2 : (xs.length : Int) ≤ n) : evF P con (k + 1) "need_row" [.str p, .lst xs, .int n] = .ret (.v .non) := by
  rw [evF_at h rfl]
  have c1 : (1 : Int) ≤ xs.length := by omega
  simp -implicitDefEqProofs [c_need_row, env0, D.isi, c1, h2]
/-- good wishes -/
structure OkW (cs ls : List D) : Prop where
  c1 : 1 ≤ cs.length
  c2 : cs.length ≤ 6
  cb : ∀ d ∈ cs, isBetween 0 7 d = true
  l1 : 1 ≤ ls.length
  l2 : ls.length ≤ 7
  lr : ∀ d ∈ ls, areRanks cs.length d = true
  ok : ∀ d ∈ ls, d.okD 61 = true
  sz : ∀ d ∈ ls, sizeR d ≤ 10000000
structure PLook (P : String → Option Fn) (con : String → Option D) : Prop where
  look : P "look_at_wishes" = some c_look_at_wishes
  need : P "need_row" = some c_need_row
  many : P "is_many" = some c_is_many
  ranks : P "are_ranks" = some c_are_ranks
  thing : P "is_thing" = some c_is_thing
  whole : P "is_whole" = some c_is_whole
  mt : con "MOST_THINGS" = some (.int 6)
  mc : con "MOST_COPIES" = some (.int 7)
  ma : con "MOST_ASKERS" = some (.int 7)
  mr : con "MOST_RANKS" = some (.int 5)
theorem getD_zip {ds : List D} {i : Nat} {d : D} (h : (ds.zipIdx.map fun p => D.tup [.int p.2, p.1])[i]? = some d) : ∃ x, ds[i]? = some x ∧ d = .tup [.int (i : Int), x] := by
  rw [List.getElem?_map] at h
  obtain ⟨p, hp, rfl⟩ := Option.map_eq_some_iff.mp h
  rw [List.getElem?_zipIdx] at hp
  obtain ⟨x, hx, rfl⟩ := Option.map_eq_some_iff.mp hp
  exact ⟨x, hx, by simp⟩
theorem ev_look {cs ls : List D} (p : PLook P con) (h : OkW cs ls) : evF P con (k + 4) "look_at_wishes" [.tup [.lst cs, .lst ls]] = .ret (.v .non) := by
  rw [evF_at p.look rfl]
  have n1 := ev_need_row (P := P) (con := con) (k := k + 2) (p := k_copies) (xs := cs) (n := 6) p.need h.c1 (by have := h.c2; omega)
  have n2 := ev_need_row (P := P) (con := con) (k := k + 2) (p := [108, 105, 115, 116, 115]) (xs := ls) (n := 7) p.need h.l1 (by have := h.l2; omega)
  have l1 : ∃ j3 j4, forL (forS (evF P con (k + 3)) con (.tp [3, 4]) c_look_at_wishes_b1) (cs.zipIdx.map fun p => D.tup [.int p.2, p.1]) [some (.v (.tup [.lst cs, .lst ls])), some (.v (.lst cs)), some (.v (.lst ls)), none, none, none] =
      .nx [some (.v (.tup [.lst cs, .lst ls])), some (.v (.lst cs)), some (.v (.lst ls)), j3, j4, none] := by
    refine forL_go (R := fun r => ∃ j3 j4, r = .nx [some (.v (.tup [.lst cs, .lst ls])), some (.v (.lst cs)), some (.v (.lst ls)), j3, j4, none]) (fun i Γ => ∃ j3 j4, Γ = [some (.v (.tup [.lst cs, .lst ls])), some (.v (.lst cs)), some (.v (.lst ls)), j3, j4, none]) ⟨_, _, rfl⟩ ?_ ?_
    · rintro i d Γ hd ⟨j3, j4, rfl⟩
      obtain ⟨x, hx, rfl⟩ := getD_zip hd
      have m := ev_is_many (P := P) (con := con) (k := k + 1) (d := x) p.many p.whole p.mc
      rw [h.cb x (List.mem_of_getElem? hx)] at m
      have e : forS (evF P con (k + 3)) con (.tp [3, 4]) c_look_at_wishes_b1 (.tup [.int (i : Int), x]) [some (.v (.tup [.lst cs, .lst ls])), some (.v (.lst cs)), some (.v (.lst ls)), j3, j4, none] =
          .nx [some (.v (.tup [.lst cs, .lst ls])), some (.v (.lst cs)), some (.v (.lst ls)), some (vi i), some (.v x), none] := by
        simp -implicitDefEqProofs [forS, c_look_at_wishes_b1, m]
      rw [e]
      exact ⟨_, _, rfl⟩
    · rintro Γ ⟨j3, j4, rfl⟩
      exact ⟨_, _, rfl⟩
  obtain ⟨j3, j4, l1⟩ := l1
  have l2 : ∃ j3' j5, forL (forS (evF P con (k + 3)) con (.tp [3, 5]) c_look_at_wishes_b2) (ls.zipIdx.map fun p => D.tup [.int p.2, p.1]) [some (.v (.tup [.lst cs, .lst ls])), some (.v (.lst cs)), some (.v (.lst ls)), j3, j4, none] =
      .nx [some (.v (.tup [.lst cs, .lst ls])), some (.v (.lst cs)), some (.v (.lst ls)), j3', j4, j5] := by
    refine forL_go (R := fun r => ∃ j3' j5, r = .nx [some (.v (.tup [.lst cs, .lst ls])), some (.v (.lst cs)), some (.v (.lst ls)), j3', j4, j5]) (fun i Γ => ∃ j3' j5, Γ = [some (.v (.tup [.lst cs, .lst ls])), some (.v (.lst cs)), some (.v (.lst ls)), j3', j4, j5]) ⟨_, _, rfl⟩ ?_ ?_
    · rintro i d Γ hd ⟨j3', j5, rfl⟩
      obtain ⟨x, hx, rfl⟩ := getD_zip hd
      have hm := List.mem_of_getElem? hx
      have m := ev_are_ranks (P := P) (con := con) (k := k) (d := x) (n := (cs.length : Int)) p.ranks p.thing p.whole p.mr (h.sz x hm) (h.ok x hm)
      rw [h.lr x hm] at m
      have e : forS (evF P con (k + 3)) con (.tp [3, 5]) c_look_at_wishes_b2 (.tup [.int (i : Int), x]) [some (.v (.tup [.lst cs, .lst ls])), some (.v (.lst cs)), some (.v (.lst ls)), j3', j4, j5] =
          .nx [some (.v (.tup [.lst cs, .lst ls])), some (.v (.lst cs)), some (.v (.lst ls)), some (vi i), j4, some (.v x)] := by
        simp -implicitDefEqProofs [forS, c_look_at_wishes_b2, m]
      rw [e]
      exact ⟨_, _, rfl⟩
    · rintro Γ ⟨j3', j5, rfl⟩
      exact ⟨_, _, rfl⟩
  obtain ⟨j3', j5, l2⟩ := l2
  simp -implicitDefEqProofs [c_look_at_wishes, env0, D.isi, p.mt, p.ma, n1, n2, l1, l2]
end
end Tv

namespace Tv
open PySem
section
variable {P : String → Option Fn} {con : String → Option D} {k : Nat}
mutual
theorem eqv_py : ∀ (d : D) (n : Nat), d.okD n = true → PyData.eqv d.py d.py = true
  | .non, _, _ => by simp [D.py, PyData.eqv]
  | .bl b, _, _ => by simp [D.py, PyData.eqv]
  | .int i, _, _ => by simp [D.py, PyData.eqv]
  | .str s, _, _ => by simp [D.py, PyData.eqv]
  | .lst xs, n + 1, h => by simp only [D.okD] at h; simp [D.py, PyData.eqv, eqvs_py xs n h]
  | .tup xs, n + 1, h => by simp only [D.okD] at h; simp [D.py, PyData.eqv, eqvs_py xs n h]
  | .lst xs, 0, h => by simp [D.okD] at h
  | .tup xs, 0, h => by simp [D.okD] at h
  | .scr ns, _, h => by simp [D.okD] at h
  | .dic0, _, h => by simp [D.okD] at h
theorem eqvs_py : ∀ (ds : List D) (n : Nat), D.okDs ds n = true → PyData.eqvAll (D.pys ds) (D.pys ds) = true
  | [], _, _ => by simp [D.pys, PyData.eqvAll]
  | d :: ds, n, h => by
    simp only [D.okDs, Bool.and_eq_true] at h
    simp [D.pys, PyData.eqvAll, eqv_py d n h.1, eqvs_py ds n h.2]
end
theorem eqD_self {d : D} {n : Nat} (h : d.okD n = true) : eqD d d = true := eqv_py d n h
theorem eqT_self {x y : T} {d : D} (hx : x.er = d) (hy : y.er = d) (h : d.okD 60 = true) : eqT x y = some true := by
  unfold eqT
  rw [hx, hy, h, eqD_self h]; rfl
def cellAt (ns : List Int) (i : Nat) : Int := (ns[i]?).getD 0
theorem ev_cell_at {ns : List Int} {i : Nat} (h : P "_law_cell_at" = some c_l_cell_at) : evF P con (k + 1) "_law_cell_at" [.scr ns, .int (i : Int)] = .ret (.v (.int (cellAt ns i))) := by
  rw [evF_at h rfl]
  by_cases c : i < ns.length
  · have c' : (i : Int) < ns.length := by omega
    have e : ixT (.v (.scr ns)) (.v (.int (i : Int))) = some (.v (.int (cellAt ns i))) := by
      simp only [ixT, asQ, Option.bind_some]
      refine atI_nat' ?_
      unfold cellAt
      rw [List.getElem?_map, List.getElem?_eq_getElem c]; rfl
    simp -implicitDefEqProofs [c_l_cell_at, env0, c', e]
  · have c' : ¬ (i : Int) < ns.length := by omega
    have : cellAt ns i = 0 := by unfold cellAt; rw [List.getElem?_eq_none (by omega)]; rfl
    simp -implicitDefEqProofs [c_l_cell_at, env0, c', this]
/-- rows of things -/
abbrev rowD (row : List Int) : D := .lst (row.map .int)
abbrev ranksD (rs : List (List Int)) : D := .lst (rs.map rowD)
abbrev wishD (cs : List Int) (ls : List (List (List Int))) : D := .tup [.lst (cs.map .int), .lst (ls.map ranksD)]
/-- an asker's list -/
structure OkR (n : Nat) (rs : List (List Int)) : Prop where
  len : rs.length ≤ 5
  ne : ∀ r ∈ rs, r ≠ []
  nd : rs.flatten.Nodup
  rg : ∀ x ∈ rs.flatten, 0 ≤ x ∧ x < n
structure Okw (cs : List Int) (ls : List (List (List Int))) : Prop where
  c1 : 1 ≤ cs.length
  c2 : cs.length ≤ 6
  cb : ∀ c ∈ cs, 0 ≤ c ∧ c ≤ 7
  l1 : 1 ≤ ls.length
  l2 : ls.length ≤ 7
  lr : ∀ rs ∈ ls, OkR cs.length rs
theorem goRank_ints {n : Int} : ∀ {row seen : List Int}, (∀ x ∈ row, 0 ≤ x ∧ x < n) → (seen ++ row).Nodup → goRank n (row.map .int) seen = some (seen ++ row)
  | [], seen, _, _ => by simp [goRank]
  | x :: row, seen, h, nd => by
    have hx := h x (by simp)
    have hn : x ∉ seen := fun m => by
      rw [List.nodup_append] at nd
      exact nd.2.2 x m x (by simp) rfl
    rw [List.map_cons]
    unfold goRank
    rw [if_pos ⟨hx.1, hx.2, hn⟩, goRank_ints (fun y hy => h y (by simp [hy])) (by simpa using nd)]
    simp
theorem goRanks_ints {n : Int} : ∀ {rs : List (List Int)} {seen : List Int}, (∀ r ∈ rs, r ≠ []) → (∀ x ∈ rs.flatten, 0 ≤ x ∧ x < n) → (seen ++ rs.flatten).Nodup → goRanks n (rs.map rowD) seen = some (seen ++ rs.flatten)
  | [], seen, _, _, _ => by simp [goRanks]
  | r :: rs, seen, h0, h, nd => by
    rw [List.map_cons]
    unfold goRanks
    have hne : r.map D.int ≠ [] := by simpa using h0 r (by simp)
    rw [List.flatten_cons] at nd h
    rw [if_neg hne, goRank_ints (fun x hx => h x (by simp [hx])) (by rw [← List.append_assoc] at nd; exact (List.nodup_append.mp nd).1)]
    rw [Option.bind_some, goRanks_ints (fun y hy => h0 y (by simp [hy])) (fun x hx => h x (List.mem_append_right _ hx)) (by simpa using nd)]
    simp
theorem nodup_bound : ∀ {n : Nat} {xs : List Int}, xs.Nodup → (∀ x ∈ xs, 0 ≤ x ∧ x < n) → xs.length ≤ n
  | 0, xs, _, h => by
    cases xs with
    | nil => simp
    | cons x xs => have := h x (by simp); omega
  | n + 1, xs, nd, h => by
    by_cases m : (n : Int) ∈ xs
    · have h1 := nodup_bound (n := n) (xs := xs.erase (n : Int)) (nd.erase _) fun x hx => by
        have hx' := List.mem_of_mem_erase hx
        have hne : x ≠ n := fun e => by
          subst e
          exact (List.Nodup.not_mem_erase nd) hx
        have := h x hx'
        omega
      rw [List.length_erase_of_mem m] at h1
      have := List.length_pos_of_mem m
      omega
    · have h1 := nodup_bound (n := n) (xs := xs) nd fun x hx => by
        have hne : x ≠ n := fun e => m (e ▸ hx)
        have := h x hx
        omega
      omega
theorem okD_row (row : List Int) (n : Nat) : (rowD row).okD (n + 1) = true := by
  show D.okDs _ n = true
  exact okDs_flat (fun d hd => by obtain ⟨i, _, rfl⟩ := List.mem_map.mp hd; rfl) n
theorem okD_ranks (rs : List (List Int)) (n : Nat) : (ranksD rs).okD (n + 2) = true := by
  show D.okDs _ (n + 1) = true
  induction rs with
  | nil => rfl
  | cons r rs ih =>
    rw [List.map_cons]
    simp only [D.okDs, Bool.and_eq_true]
    exact ⟨okD_row r n, ih⟩
theorem okD_wish (cs : List Int) (ls : List (List (List Int))) (n : Nat) : (wishD cs ls).okD (n + 4) = true := by
  have h1 : (D.lst (cs.map .int)).okD (n + 3) = true := okD_row cs (n + 2)
  have h2 : (D.lst (ls.map ranksD)).okD (n + 3) = true := by
    show D.okDs _ (n + 2) = true
    induction ls with
    | nil => rfl
    | cons r rs ih =>
      rw [List.map_cons]
      simp only [D.okDs, Bool.and_eq_true]
      exact ⟨okD_ranks r n, ih⟩
  show D.okDs [_, _] (n + 3) = true
  simp only [D.okDs, h1, h2, Bool.and_self]
theorem OkR.are {n : Nat} {rs : List (List Int)} (h : OkR n rs) : areRanks n (ranksD rs) = true := by
  have e := goRanks_ints (n := (n : Int)) (seen := []) h.ne (fun x hx => h.rg x hx) (by simpa using h.nd)
  simp [areRanks, e, h.len]
theorem OkR.size {n : Nat} {rs : List (List Int)} (h : OkR n rs) : sizeR (ranksD rs) ≤ n := by
  have e : sizeR (ranksD rs) = rs.flatten.length := by
    unfold sizeR ranksD
    simp only [List.map_map]
    rw [List.length_flatten]
    congr 1
    apply List.map_congr_left
    intro r _
    simp
  rw [e]
  exact nodup_bound h.nd h.rg
theorem Okw.ok {cs : List Int} {ls : List (List (List Int))} (h : Okw cs ls) : OkW (cs.map .int) (ls.map ranksD) where
  c1 := by simpa using h.c1
  c2 := by simpa using h.c2
  cb := fun d hd => by obtain ⟨c, hc, rfl⟩ := List.mem_map.mp hd; simpa [isBetween] using h.cb c hc
  l1 := by simpa using h.l1
  l2 := by simpa using h.l2
  lr := fun d hd => by obtain ⟨c, hc, rfl⟩ := List.mem_map.mp hd; rw [List.length_map]; exact (h.lr c hc).are
  ok := fun d hd => by obtain ⟨c, hc, rfl⟩ := List.mem_map.mp hd; exact okD_ranks c 59
  sz := fun d hd => by obtain ⟨c, hc, rfl⟩ := List.mem_map.mp hd; exact Nat.le_trans (h.lr c hc).size (by have := h.c2; omega)
theorem ev_lookW {cs : List Int} {ls : List (List (List Int))} (p : PLook P con) (h : Okw cs ls) : evF P con (k + 4) "look_at_wishes" [wishD cs ls] = .ret (.v .non) := ev_look p h.ok
/-- the things of a rank -/
def rowOf (pl : List Int) (n : Nat) (r : Int) : List Int := ((List.range n).filter fun i => decide (pl[i]? = some r)).map fun (i : Nat) => (i : Int)
def rowT (b : Bool) (row : List Int) : T := if b then .l (vis row.reverse) else .v (rowD row)
theorem rowOf_T (pl : List Int) (n : Nat) (r : Int) : (((List.range n).filter fun i => decide (pl[i]? = some r)).map fun (i : Nat) => T.v (.int (i : Int))) = vis (rowOf pl n r) := by
  simp [rowOf, vis, List.map_map, Function.comp_def]
theorem w_row {cl : Calls} {pl : List Int} {r : Int} {a0 a1 a2 a3 a4 a5 a6 a7 a8 a9 a10 a12 a14 a15 : Option T} {n : Nat} (hn : n < pl.length) :
    lcL (lcS cl con [16] (.nm 16) (.so (.cmp .eq (.ix (.frz 11) (.frz 16)) (.frz 13))) c_l_wishes_e2) (rangeD 0 n 1) [a0, a1, a2, a3, a4, a5, a6, a7, a8, a9, a10, some (.v (.lst (pl.map .int))), a12, some (.v (.int r)), a14, a15, none] [] =
      .ok (vis (rowOf pl n r)) [a0, a1, a2, a3, a4, a5, a6, a7, a8, a9, a10, some (.v (.lst (pl.map .int))), a12, some (.v (.int r)), a14, a15, none] := by
  rw [rangeD0, ← rowOf_T]
  refine lcL_filtM fun i hi => ?_
  have hi' : i < pl.length := Nat.lt_trans (List.mem_range.mp hi) hn
  have e : ixT (.v (.lst (pl.map .int))) (.v (.int (i : Int))) = some (.v (.int pl[i])) := ix_lst (by simp [List.getElem?_eq_getElem hi'])
  by_cases c : pl[i] = r
  · simp -implicitDefEqProofs [lcS, c_l_wishes_e2, e, c, List.getElem?_eq_getElem hi']
  · simp -implicitDefEqProofs [lcS, c_l_wishes_e2, e, c, List.getElem?_eq_getElem hi']
def addRow (b : Bool) (row : List Int) : List T := if row = [] then [] else [rowT b row]
theorem w_b1 {cl : Calls} {pl cs : List Int} {r l : Int} {rk : List T} {a0 a1 a2 a3 a4 a5 a6 a8 a9 a10 a13 a14 a15 a16 : Option T} (hn : cs.length < pl.length) (h6 : cs.length ≤ 6) (hl : pl.getLast? = some l) (hl2 : l = 0 ∨ l = 1) (hr : rk.length ≤ 1000) :
    ∃ b15 b16, forS cl con (.nm 13) c_l_wishes_b1 (.int r) [a0, a1, a2, a3, a4, a5, a6, some (.l (vis cs)), a8, a9, a10, some (.v (.lst (pl.map .int))), some (.l rk), a13, a14, a15, a16] =
      .nx [a0, a1, a2, a3, a4, a5, a6, some (.l (vis cs)), a8, a9, a10, some (.v (.lst (pl.map .int))), some (.l (rk ++ addRow (decide (l = 1)) (rowOf pl cs.length r))), some (.v (.int r)), a14, b15, b16] := by
  have row := w_row (con := con) (cl := cl) (pl := pl) (r := r) (a0 := a0) (a1 := a1) (a2 := a2) (a3 := a3) (a4 := a4) (a5 := a5) (a6 := a6) (a7 := some (.l (vis cs))) (a8 := a8) (a9 := a9) (a10 := a10) (a12 := some (.l rk)) (a14 := a14) (a15 := a15) (n := cs.length) hn
  obtain ⟨row1, hrow⟩ : ∃ row1, row1 = rowOf pl cs.length r := ⟨_, rfl⟩
  rw [← hrow] at row ⊢
  have sm := sm62' (n := cs.length) (by omega)
  have hlast := ix_last (ds := pl.map D.int) (d := .int l) (by rw [List.getLast?_map, hl]; rfl)
  have hcl : cs.length ≤ 16777216 := by omega
  have hfl : ∀ d ∈ row1.map D.int, d.flat = true := fun d hd => by obtain ⟨i, _, rfl⟩ := List.mem_map.mp hd; rfl
  have hne := eqT_nilv hfl
  refine ⟨some (.v (rowD row1)), keepV (some a16), ?_⟩
  have i0 : ∀ x y : T, ixT (.l [x, y]) (.v (.int 0)) = some x := fun x y => ix_l (by decide) rfl
  have i1 : ∀ x y : T, ixT (.l [x, y]) (.v (.int 1)) = some y := fun x y => ix_l (by decide) rfl
  have ap : ∀ t : T, t.noB = true → appT (some (some (.l rk))) t = some (.l (rk ++ [t])) := fun t ht => app_ok (by omega) ht
  by_cases c : row1 = []
  · subst c
    simp -implicitDefEqProofs [forS, c_l_wishes_b1, sm, row, hcl] at hne ⊢
    simp -implicitDefEqProofs [hne, addRow]
  · have hie : (row1.map D.int).isEmpty = false := by cases row1 with
      | nil => exact absurd rfl c
      | cons _ _ => rfl
    rw [hie] at hne
    have hrev : ((row1.map D.int).map T.v).reverse = vis row1.reverse := by rw [List.map_map, ← List.map_reverse]; rfl
    have ap1 := ap (.v (rowD row1)) rfl
    have ap2 := ap (.l (vis row1).reverse) (by simp)
    rcases hl2 with rfl | rfl
    · simp -implicitDefEqProofs [forS, c_l_wishes_b1, sm, row, hcl, hne, hlast, i0, ap1, addRow, c, rowT]
    · simp -implicitDefEqProofs [forS, c_l_wishes_b1, sm, row, hcl, hne, hlast, i1, ap2, addRow, c, rowT, hrev]
/-- an asker's ranks, from r on -/
def drawR (b : Bool) (pl : List Int) (n : Nat) : List Int → List T
  | [] => []
  | r :: rs => addRow b (rowOf pl n r) ++ drawR b pl n rs
theorem drawR_nil (b : Bool) (pl : List Int) (n : Nat) : drawR b pl n [] = [] := rfl
theorem drawR_cons (b : Bool) (pl : List Int) (n : Nat) (r : Int) (rs : List Int) : drawR b pl n (r :: rs) = addRow b (rowOf pl n r) ++ drawR b pl n rs := rfl
theorem forL_nil (b : D → Env → SR) (r : Env) : forL b [] r = .nx r := rfl
theorem forL_rt {b : D → Env → SR} {d : D} {ds : List D} {r r1 : Env} {t : T} (h : b d r = .rt t r1) : forL b (d :: ds) r = .rt t r1 := by simp only [forL, h]
theorem forL_nx {b : D → Env → SR} {d : D} {ds : List D} {r r1 : Env} (h : b d r = .nx r1) : forL b (d :: ds) r = forL b ds r1 := by simp only [forL, h]
theorem drawR_len (b : Bool) (pl : List Int) (n : Nat) : ∀ rs, (drawR b pl n rs).length ≤ rs.length
  | [] => Nat.le_refl _
  | r :: rs => by
    have := drawR_len b pl n rs
    unfold drawR addRow
    split <;> simp <;> omega
theorem drawR_noB (b : Bool) (pl : List Int) (n : Nat) : ∀ rs, T.noBs (drawR b pl n rs) = true
  | [] => rfl
  | r :: rs => by
    have := drawR_noB b pl n rs
    unfold drawR addRow
    split
    · simpa using this
    · rw [noBs_append, this, Bool.and_true]
      unfold rowT
      cases b <;> simp [T.noBs]
theorem w_ranks {cl : Calls} {pl cs : List Int} {l : Int} {a0 a1 a2 a3 a4 a5 a6 a8 a9 a10 : Option T} (hn : cs.length < pl.length) (h6 : cs.length ≤ 6) (hl : pl.getLast? = some l) (hl2 : l = 0 ∨ l = 1) :
    ∀ (rs : List Int) (rk : List T) (a13 a14 a15 a16 : Option T), rk.length + rs.length ≤ 1000 → ∃ b13 b14 b15 b16, forL (forS cl con (.nm 13) c_l_wishes_b1) (rs.map .int) [a0, a1, a2, a3, a4, a5, a6, some (.l (vis cs)), a8, a9, a10, some (.v (.lst (pl.map .int))), some (.l rk), a13, a14, a15, a16] =
      .nx [a0, a1, a2, a3, a4, a5, a6, some (.l (vis cs)), a8, a9, a10, some (.v (.lst (pl.map .int))), some (.l (rk ++ drawR (decide (l = 1)) pl cs.length rs)), b13, b14, b15, b16] := by
  intro rs
  induction rs with
  | nil => intro rk a13 a14 a15 a16 _; exact ⟨a13, a14, a15, a16, by rw [drawR_nil, List.append_nil, List.map_nil, forL_nil]⟩
  | cons r rs ih =>
    intro rk a13 a14 a15 a16 h
    rw [List.length_cons] at h
    obtain ⟨b15, b16, e⟩ := w_b1 (con := con) (cl := cl) (pl := pl) (cs := cs) (r := r) (rk := rk) (a0 := a0) (a1 := a1) (a2 := a2) (a3 := a3) (a4 := a4) (a5 := a5) (a6 := a6) (a8 := a8) (a9 := a9) (a10 := a10) (a13 := a13) (a14 := a14) (a15 := a15) (a16 := a16) hn h6 hl hl2 (by omega)
    have hlen : (rk ++ addRow (decide (l = 1)) (rowOf pl cs.length r)).length ≤ rk.length + 1 := by
      rw [List.length_append]; unfold addRow; split <;> simp
    obtain ⟨c13, c14, c15, c16, e2⟩ := ih (rk ++ addRow (decide (l = 1)) (rowOf pl cs.length r)) (some (.v (.int r))) a14 b15 b16 (by omega)
    refine ⟨c13, c14, c15, c16, ?_⟩
    rw [List.map_cons, forL_nx e, e2, List.append_assoc, drawR_cons]
/-- the rows an asker draws, as lists of whole numbers -/
def rowsOf (b : Bool) (pl : List Int) (n : Nat) : List Int → List (List Int)
  | [] => []
  | r :: rs => if rowOf pl n r = [] then rowsOf b pl n rs else (if b then (rowOf pl n r).reverse else rowOf pl n r) :: rowsOf b pl n rs
theorem rowsOf_er (b : Bool) (pl : List Int) (n : Nat) : ∀ rs, (drawR b pl n rs).map T.er = (rowsOf b pl n rs).map rowD
  | [] => rfl
  | r :: rs => by
    have ih := rowsOf_er b pl n rs
    rw [drawR_cons]
    unfold addRow rowsOf
    split
    · exact ih
    · rw [List.map_append, ih]
      unfold rowT
      cases b <;> simp [vis, vi, rowD, Function.comp_def]
theorem rowsOf_len (b : Bool) (pl : List Int) (n : Nat) : ∀ rs, (rowsOf b pl n rs).length ≤ rs.length
  | [] => Nat.le_refl _
  | r :: rs => by
    have := rowsOf_len b pl n rs
    unfold rowsOf
    split <;> simp <;> omega
theorem rowsOf_ne (b : Bool) (pl : List Int) (n : Nat) : ∀ rs, ∀ r ∈ rowsOf b pl n rs, r ≠ []
  | [], r, h => by simp [rowsOf] at h
  | x :: rs, r, h => by
    unfold rowsOf at h
    split at h
    · exact rowsOf_ne b pl n rs r h
    · rename_i c
      rcases List.mem_cons.mp h with rfl | h
      · cases b <;> simpa using c
      · exact rowsOf_ne b pl n rs r h
theorem mem_rowOf {pl : List Int} {n : Nat} {r x : Int} (h : x ∈ rowOf pl n r) : ∃ i : Nat, i < n ∧ x = i ∧ pl[i]? = some r := by
  unfold rowOf at h
  obtain ⟨i, hi, rfl⟩ := List.mem_map.mp h
  have := List.mem_filter.mp hi
  exact ⟨i, List.mem_range.mp this.1, rfl, by simpa using this.2⟩
theorem rowOf_nodup (pl : List Int) (n : Nat) (r : Int) : (rowOf pl n r).Nodup := by
  unfold rowOf
  refine List.Pairwise.map _ ?_ (List.nodup_range.filter _)
  intro a b h e
  exact h (by omega)
theorem mem_rowsOf {b : Bool} {pl : List Int} {n : Nat} {x : Int} : ∀ {rs : List Int}, x ∈ (rowsOf b pl n rs).flatten → ∃ r ∈ rs, x ∈ rowOf pl n r
  | [], h => by simp [rowsOf] at h
  | r :: rs, h => by
    unfold rowsOf at h
    split at h
    · obtain ⟨r', h1, h2⟩ := mem_rowsOf h
      exact ⟨r', by simp [h1], h2⟩
    · rw [List.flatten_cons, List.mem_append] at h
      rcases h with h | h
      · exact ⟨r, by simp, by cases b <;> simpa using h⟩
      · obtain ⟨r', h1, h2⟩ := mem_rowsOf h
        exact ⟨r', by simp [h1], h2⟩
theorem rowsOf_nodup {b : Bool} {pl : List Int} {n : Nat} : ∀ {rs : List Int}, rs.Nodup → (rowsOf b pl n rs).flatten.Nodup
  | [], _ => by simp [rowsOf]
  | r :: rs, nd => by
    rw [List.nodup_cons] at nd
    have ih := rowsOf_nodup (b := b) (pl := pl) (n := n) nd.2
    unfold rowsOf
    split
    · exact ih
    · rw [List.flatten_cons, List.nodup_append]
      refine ⟨?_, ih, ?_⟩
      · cases b
        · simpa using rowOf_nodup pl n r
        · exact List.pairwise_reverse.mpr ((rowOf_nodup pl n r).imp fun h => Ne.symm h)
      · intro x hx y hy e
        subst e
        have hx' : x ∈ rowOf pl n r := by cases b <;> simpa using hx
        obtain ⟨r', h1, h2⟩ := mem_rowsOf hy
        obtain ⟨i, _, ei, e1⟩ := mem_rowOf hx'
        obtain ⟨j, _, ej, e2⟩ := mem_rowOf h2
        have : i = j := by omega
        subst this
        rw [e1] at e2
        injection e2 with e3
        subst e3
        exact nd.1 h1
def ranksFrom (mr : Nat) : List Int := (List.range mr).map fun (i : Nat) => 1 + (i : Int)
theorem ranksFrom_nodup (mr : Nat) : (ranksFrom mr).Nodup := by
  unfold ranksFrom
  refine List.Pairwise.map _ ?_ List.nodup_range
  intro a b h e
  exact h (by omega)
theorem rowsOf_okR (b : Bool) (pl : List Int) (n mr : Nat) (h : mr ≤ 5) : OkR n (rowsOf b pl n (ranksFrom mr)) where
  len := Nat.le_trans (rowsOf_len _ _ _ _) (by unfold ranksFrom; simpa using h)
  ne := rowsOf_ne _ _ _ _
  nd := rowsOf_nodup (ranksFrom_nodup mr)
  rg := fun x hx => by
    obtain ⟨r, _, h2⟩ := mem_rowsOf hx
    obtain ⟨i, hi, rfl, _⟩ := mem_rowOf h2
    omega
/-- the numbers of an asker's places -/
abbrev zsA (mt mr : Nat) : List Int := List.replicate mt ((mr : Int) + 1) ++ [2]
def placesOf (ns : List Int) (at_ asker mt mr : Nat) : List Int := nums (cellAt ns (at_ + 1 + asker)) (11 * at_ + 3 * asker + 1) (zsA mt mr)
theorem zsA_len (mt mr : Nat) : (zsA mt mr).length = mt + 1 := by simp [zsA]
theorem zsA_pos (mt mr : Nat) : ∀ z ∈ zsA mt mr, 0 < z := fun z hz => by
  rcases List.mem_append.mp hz with h | h
  · have := (List.mem_replicate.mp h).2; omega
  · simp at h; omega
theorem zsA_sizes {mt mr : Nat} (h1 : mt ≤ 6) (h2 : mr ≤ 5) : Sizes (zsA mt mr) where
  pos := zsA_pos mt mr
  big := fun z hz => by
    rcases List.mem_append.mp hz with h | h
    · have := (List.mem_replicate.mp h).2; omega
    · simp at h; omega
  len := by rw [zsA_len]; omega
theorem placesOf_len (ns : List Int) (at_ asker mt mr : Nat) : (placesOf ns at_ asker mt mr).length = mt + 1 := by
  unfold placesOf; rw [nums_length, zsA_len]
theorem placesOf_last (ns : List Int) (at_ asker mt mr : Nat) : ∃ l, (placesOf ns at_ asker mt mr).getLast? = some l ∧ (l = 0 ∨ l = 1) := by
  obtain ⟨d, h1, h2, h3⟩ := nums_get (c := cellAt ns (at_ + 1 + asker)) (s := 11 * at_ + 3 * asker + 1) (zs := zsA mt mr) (i := mt) (z := 2) (zsA_pos mt mr) (by simp [zsA])
  refine ⟨d, ?_, by omega⟩
  rw [List.getLast?_eq_getElem?, placesOf_len]
  exact h1
def askerT (ns : List Int) (at_ mt mr n asker : Nat) : List T := drawR (decide ((placesOf ns at_ asker mt mr).getLast? = some 1)) (placesOf ns at_ asker mt mr) n (ranksFrom mr)
def askerL (ns : List Int) (at_ mt mr n asker : Nat) : List (List Int) := rowsOf (decide ((placesOf ns at_ asker mt mr).getLast? = some 1)) (placesOf ns at_ asker mt mr) n (ranksFrom mr)
theorem askerT_noB (ns : List Int) (at_ mt mr n asker : Nat) : T.noBs (askerT ns at_ mt mr n asker) = true := drawR_noB _ _ _ _
theorem askerT_er (ns : List Int) (at_ mt mr n asker : Nat) : (T.l (askerT ns at_ mt mr n asker)).er = ranksD (askerL ns at_ mt mr n asker) := by
  rw [er_l]; exact congrArg D.lst (rowsOf_er _ _ _ _)
theorem askerL_ok (ns : List Int) (at_ mt mr n asker : Nat) (h : mr ≤ 5) : OkR n (askerL ns at_ mt mr n asker) := rowsOf_okR _ _ _ _ h
theorem zsA_T (mt mr : Nat) : ((List.replicate mt [D.int ((mr : Int) + 1)]).flatten.map T.v ++ [T.v (.int 2)]) = ((zsA mt mr).map .int).map T.v := by
  have : (List.replicate mt [D.int ((mr : Int) + 1)]).flatten = (List.replicate mt ((mr : Int) + 1)).map D.int := by
    induction mt with
    | zero => rfl
    | succ n ih => rw [List.replicate_succ, List.flatten_cons, ih, List.replicate_succ, List.map_cons]; rfl
  rw [this]
  simp [zsA]
theorem w_b2 (hp : P "_law_cell_at" = some c_l_cell_at) (hq : P "_law_numbers" = some c_numbers) {ns cs : List Int} {at_ mt ma mr asker : Nat} {ls : List T} {a5 a6 a9 a10 a11 a12 a13 a14 a15 a16 : Option T}
    (h0 : at_ ≤ 1000) (h1 : asker < 7) (h2 : mt ≤ 6) (h3 : mr ≤ 5) (hn : cs.length ≤ mt) (hl : ls.length < 1000) :
    ∃ b9 b10 b11 b12 b13 b14 b15 b16, forS (evF P con (k + 1)) con (.nm 9) c_l_wishes_b2 (.int (asker : Int)) [some (.v (.scr ns)), some (.v (.int (at_ : Int))), some (.v (.int (mt : Int))), some (.v (.int (ma : Int))), some (.v (.int (mr : Int))), a5, a6, some (.l (vis cs)), some (.l ls), a9, a10, a11, a12, a13, a14, a15, a16] =
      .nx [some (.v (.scr ns)), some (.v (.int (at_ : Int))), some (.v (.int (mt : Int))), some (.v (.int (ma : Int))), some (.v (.int (mr : Int))), a5, a6, some (.l (vis cs)), some (.l (ls ++ [.l (askerT ns at_ mt mr cs.length asker)])), b9, b10, b11, b12, b13, b14, b15, b16] := by
  obtain ⟨l, hl1, hl2⟩ := placesOf_last ns at_ asker mt mr
  have hlen := placesOf_len ns at_ asker mt mr
  have e1 := ev_cell_at (P := P) (con := con) (k := k) (ns := ns) (i := at_ + 1 + asker) hp
  have e2 := ev_numbers (P := P) (con := con) (k := k) (c := cellAt ns (at_ + 1 + asker)) (s := 11 * at_ + 3 * asker + 1) hq (zsA_sizes h2 h3) (by omega)
  obtain ⟨pl, hpl⟩ : ∃ pl, pl = placesOf ns at_ asker mt mr := ⟨_, rfl⟩
  have hnums : nums (cellAt ns (at_ + 1 + asker)) (11 * at_ + 3 * asker + 1) (zsA mt mr) = pl := hpl.symm
  rw [hnums] at e2
  rw [← hpl] at hl1 hlen
  obtain ⟨b13, b14, b15, b16, e3⟩ := w_ranks (con := con) (cl := evF P con (k + 1)) (pl := pl) (cs := cs) (a0 := some (.v (.scr ns))) (a1 := some (.v (.int (at_ : Int)))) (a2 := some (.v (.int (mt : Int)))) (a3 := some (.v (.int (ma : Int)))) (a4 := some (.v (.int (mr : Int)))) (a5 := a5) (a6 := a6) (a8 := some (.l ls)) (a9 := some (.v (.int (asker : Int)))) (a10 := some (.v (.int (cellAt ns (at_ + 1 + asker))))) (by omega) (by omega) hl1 hl2 (ranksFrom mr) [] a13 a14 a15 a16 (by unfold ranksFrom; simp; omega)
  have ht : askerT ns at_ mt mr cs.length asker = [] ++ drawR (decide (l = 1)) pl cs.length (ranksFrom mr) := by
    unfold askerT; rw [← hpl, hl1]; simp
  rw [← ht] at e3
  obtain ⟨tk, htk⟩ : ∃ tk, tk = askerT ns at_ mt mr cs.length asker := ⟨_, rfl⟩
  have hnb := askerT_noB ns at_ mt mr cs.length asker
  rw [← htk] at e3 hnb ⊢
  have mul := mulL_ok (ts := [T.v (.int ((mr : Int) + 1))]) (ds := [.int ((mr : Int) + 1)]) (k := mt) (by simp [asF, T.ers]) (by simp; omega) (by omega)
  have hz : ∃ zt, addT (.l (List.replicate mt (T.v (.int ((mr : Int) + 1))))) (.l [T.v (.int 2)]) = some (.l zt) ∧ T.noBs zt = true ∧ zt.map T.er = (zsA mt mr).map .int := by
    refine ⟨_, addT_ll (by simp; omega), ?_, by simp [zsA]⟩
    rw [noBs_all]; simp
  obtain ⟨zt, hz1, hz2, hz3⟩ := hz
  obtain ⟨zd, hzd⟩ : ∃ zd, zd = (zsA mt mr).map D.int := ⟨_, rfl⟩
  rw [← hzd] at e2 hz3
  obtain ⟨rg, hrg⟩ : ∃ rg, rg = rangeD 1 mr 1 := ⟨_, rfl⟩
  have hrg2 : (ranksFrom mr).map D.int = rg := by rw [hrg, rangeDlo]; simp [ranksFrom, List.map_map, Function.comp_def]
  rw [hrg2] at e3
  have ap := app_ok (ts := ls) (t := .l tk) (by omega) (by simpa using hnb)
  refine ⟨some (.v (.int (asker : Int))), some (.v (.int (cellAt ns (at_ + 1 + asker)))), some (.v (.lst (pl.map .int))), none, b13, b14, b15, b16, ?_⟩
  have m1 := mul64 (i := 11) (j := at_) (by omega) (by omega)
  have m2 := mul64 (i := 3) (j := asker) (by omega) (by omega)
  have s1 := sm62' (n := 1) (by omega)
  have s2 := sm62' (n := mr + 1) (by omega)
  have s3 : (mr : Int) ≤ 16777216 := by omega
  have s4 : ((mr : Int) + 1).toNat - 1 = mr := by omega
  simp -implicitDefEqProofs [forS, c_l_wishes_b2] at s1 s2 e1 e2 e3 mul ap ⊢
  simp -implicitDefEqProofs [e1, m1, m2, mul, hz1, hz2, hz3, e2, s1, s2, s3, s4, ← hrg, e3, ap]
abbrev zsW (mt ma : Nat) : List Int := [(mt : Int), (ma : Int)] ++ List.replicate mt 11
theorem zsW_pos {mt ma : Nat} (h1 : 1 ≤ mt) (h2 : 1 ≤ ma) : ∀ z ∈ zsW mt ma, 0 < z := fun z hz => by
  rcases List.mem_append.mp hz with h | h
  · simp at h; omega
  · have := (List.mem_replicate.mp h).2; omega
theorem zsW_sizes {mt ma : Nat} (h1 : 1 ≤ mt) (h2 : 1 ≤ ma) (h3 : mt ≤ 6) (h4 : ma ≤ 7) : Sizes (zsW mt ma) where
  pos := zsW_pos h1 h2
  big := fun z hz => by
    rcases List.mem_append.mp hz with h | h
    · simp at h; omega
    · have := (List.mem_replicate.mp h).2; omega
  len := by simp; omega
def tabC : List Int := [1, 1, 2, 0, 3, 7, 1, 4, 5, 6, 1]
def tabAt (d : Int) : Int := tabC.getD d.toNat 0
theorem tabAt_rg (d : Int) : 0 ≤ tabAt d ∧ tabAt d ≤ 7 := by
  have : ∀ c ∈ tabC, 0 ≤ c ∧ c ≤ 7 := by decide
  unfold tabAt
  rw [List.getD_eq_getElem?_getD]
  cases h : tabC[d.toNat]? with
  | none => simp
  | some c => exact this c (List.mem_of_getElem? h)
theorem tab_ix {d : Int} (h : 0 ≤ d ∧ d < 11) : ixT (.l [T.v (.int 1), .v (.int 1), .v (.int 2), .v (.int 0), .v (.int 3), .v (.int 7), .v (.int 1), .v (.int 4), .v (.int 5), .v (.int 6), .v (.int 1)]) (.v (.int d)) = some (.v (.int (tabAt d))) := by
  refine ix_l h.1 ?_
  have : (vis tabC)[d.toNat]? = some (vi (tabAt d)) := by
    unfold vis tabAt
    rw [List.getElem?_map, List.getD_eq_getElem?_getD, List.getElem?_eq_getElem (show d.toNat < tabC.length by show d.toNat < 11; omega)]
    rfl
  exact this
theorem w_copies {cl : Calls} {a0 a1 a2 a3 a4 a5 a6 a7 a8 a9 a10 a11 a12 a13 a15 a16 : Option T} {sl : List Int} (h : ∀ d ∈ sl, 0 ≤ d ∧ d < 11) :
    lcL (lcS cl con [14] (.nm 14) .no c_l_wishes_e1) (sl.map .int) [a0, a1, a2, a3, a4, a5, a6, a7, a8, a9, a10, a11, a12, a13, none, a15, a16] [] = .ok (vis (sl.map tabAt)) [a0, a1, a2, a3, a4, a5, a6, a7, a8, a9, a10, a11, a12, a13, none, a15, a16] := by
  have : vis (sl.map tabAt) = sl.map fun d => T.v (.int (tabAt d)) := by simp [vis, vi, List.map_map, Function.comp_def]
  rw [this]
  refine lcL_mapM fun d hd => ?_
  have e := tab_ix (h d hd)
  simp -implicitDefEqProofs [lcS, c_l_wishes_e1]
  simp -implicitDefEqProofs [e]
theorem ev_wishes (hp : P "_law_cell_at" = some c_l_cell_at) (hq : P "_law_numbers" = some c_numbers) (hw : P "_law_wishes" = some c_l_wishes) {ns : List Int} {at_ mt ma mr : Nat}
    (h0 : at_ ≤ 1000) (h1 : 1 ≤ mt) (h2 : mt ≤ 6) (h3 : 1 ≤ ma) (h4 : ma ≤ 7) (h5 : mr ≤ 5) :
    ∃ cs lt ls, evF P con (k + 2) "_law_wishes" [.scr ns, .int (at_ : Int), .int (mt : Int), .int (ma : Int), .int (mr : Int)] = .ret (.tp [.l (vis cs), .l lt]) ∧ T.noBs lt = true ∧ lt.map T.er = ls.map ranksD ∧ Okw cs ls ∧ cs.length ≤ mt ∧ ls.length ≤ ma := by
  have e1 := ev_cell_at (P := P) (con := con) (k := k) (ns := ns) (i := at_) hp
  have e2 := ev_numbers (P := P) (con := con) (k := k) (c := cellAt ns at_) (s := at_) hq (zsW_sizes h1 h3 h2 h4) (by omega)
  obtain ⟨n0, hn0⟩ : ∃ n0, n0 = nums (cellAt ns at_) at_ (zsW mt ma) := ⟨_, rfl⟩
  have hlen : n0.length = mt + 2 := by rw [hn0, nums_length]; simp
  have hget : ∀ (i : Nat) (z : Int), (zsW mt ma)[i]? = some z → ∃ d, n0[i]? = some d ∧ 0 ≤ d ∧ d < z := fun i z hz => by rw [hn0]; exact nums_get (zsW_pos h1 h3) hz
  rw [← hn0] at e2
  obtain ⟨d0, g0, p0, q0⟩ := hget 0 _ rfl
  obtain ⟨d1, g1, p1, q1⟩ := hget 1 _ rfl
  have hrest : ∀ d ∈ n0.drop 2, 0 ≤ d ∧ d < 11 := fun d hd => by
    obtain ⟨i, hi, rfl⟩ := List.mem_iff_getElem.mp hd
    rw [List.length_drop, hlen] at hi
    obtain ⟨d', g', p', q'⟩ := hget (2 + i) 11 (by rw [show 2 + i = i + 2 by omega]; simp [zsW, List.getElem?_replicate]; omega)
    rw [List.getElem_drop]
    rw [List.getElem?_eq_getElem (by omega)] at g'
    injection g' with g'
    omega
  obtain ⟨x0, rfl⟩ : ∃ x0 : Nat, d0 = x0 := ⟨d0.toNat, by omega⟩
  obtain ⟨x1, rfl⟩ : ∃ x1 : Nat, d1 = x1 := ⟨d1.toNat, by omega⟩
  obtain ⟨sl, hsl⟩ : ∃ sl, sl = (n0.drop 2).take (x0 + 1) := ⟨_, rfl⟩
  have hsl2 : sl.length = x0 + 1 := by rw [hsl, List.length_take, List.length_drop, hlen]; omega
  have hsl3 : ∀ d ∈ sl, 0 ≤ d ∧ d < 11 := fun d hd => hrest d (List.mem_of_mem_take (hsl ▸ hd))
  have loop : ∀ (cs : List Int) (a5 a6 a9 a10 a11 a12 a13 a14 a15 a16 : Option T), cs.length ≤ mt → ∃ (lt : List T) (ls : List (List (List Int))) (b9 b10 b11 b12 b13 b14 b15 b16 : Option T),
      forL (forS (evF P con (k + 1)) con (.nm 9) c_l_wishes_b2) (rangeD 0 (1 + x1) 1) [some (.v (.scr ns)), some (.v (.int (at_ : Int))), some (.v (.int (mt : Int))), some (.v (.int (ma : Int))), some (.v (.int (mr : Int))), a5, a6, some (.l (vis cs)), some (.l []), a9, a10, a11, a12, a13, a14, a15, a16] =
      .nx [some (.v (.scr ns)), some (.v (.int (at_ : Int))), some (.v (.int (mt : Int))), some (.v (.int (ma : Int))), some (.v (.int (mr : Int))), a5, a6, some (.l (vis cs)), some (.l lt), b9, b10, b11, b12, b13, b14, b15, b16] ∧
      T.noBs lt = true ∧ lt.map T.er = ls.map ranksD ∧ lt.length = 1 + x1 ∧ ∀ rs ∈ ls, OkR cs.length rs := by
    intro cs a5 a6 a9 a10 a11 a12 a13 a14 a15 a16 hcs
    refine forL_go (R := fun r => ∃ (lt : List T) (ls : List (List (List Int))) (b9 b10 b11 b12 b13 b14 b15 b16 : Option T), r = .nx [some (.v (.scr ns)), some (.v (.int (at_ : Int))), some (.v (.int (mt : Int))), some (.v (.int (ma : Int))), some (.v (.int (mr : Int))), a5, a6, some (.l (vis cs)), some (.l lt), b9, b10, b11, b12, b13, b14, b15, b16] ∧
      T.noBs lt = true ∧ lt.map T.er = ls.map ranksD ∧ lt.length = 1 + x1 ∧ ∀ rs ∈ ls, OkR cs.length rs)
      (fun i r => ∃ (lt : List T) (ls : List (List (List Int))) (b9 b10 b11 b12 b13 b14 b15 b16 : Option T), r = [some (.v (.scr ns)), some (.v (.int (at_ : Int))), some (.v (.int (mt : Int))), some (.v (.int (ma : Int))), some (.v (.int (mr : Int))), a5, a6, some (.l (vis cs)), some (.l lt), b9, b10, b11, b12, b13, b14, b15, b16] ∧
      T.noBs lt = true ∧ lt.map T.er = ls.map ranksD ∧ lt.length = i ∧ ∀ rs ∈ ls, OkR cs.length rs) ?_ ?_ ?_
    · exact ⟨[], [], a9, a10, a11, a12, a13, a14, a15, a16, rfl, rfl, rfl, rfl, fun _ h => by simp at h⟩
    · rintro i d Γ hd ⟨lt, ls, b9, b10, b11, b12, b13, b14, b15, b16, rfl, h1', h2', h3', h4'⟩
      obtain ⟨hi, rfl⟩ := rangeD_get hd
      obtain ⟨c9, c10, c11, c12, c13, c14, c15, c16, e⟩ := w_b2 (con := con) (k := k) hp hq (ns := ns) (cs := cs) (at_ := at_) (mt := mt) (ma := ma) (mr := mr) (asker := i) (ls := lt) (a5 := a5) (a6 := a6) (a9 := b9) (a10 := b10) (a11 := b11) (a12 := b12) (a13 := b13) (a14 := b14) (a15 := b15) (a16 := b16) h0 (by omega) h2 h5 hcs (by omega)
      rw [show (0 : Int) + (i : Int) * 1 = (i : Int) by omega, e]
      refine ⟨lt ++ [.l (askerT ns at_ mt mr cs.length i)], ls ++ [askerL ns at_ mt mr cs.length i], c9, c10, c11, c12, c13, c14, c15, c16, rfl, ?_, ?_, ?_, ?_⟩
      · rw [noBs_append, h1']; simp [T.noBs, T.noB, askerT_noB]
      · rw [List.map_append, h2', List.map_append, List.map_cons, askerT_er]; rfl
      · rw [List.length_append, h3']; rfl
      · intro rs hrs
        rcases List.mem_append.mp hrs with h | h
        · exact h4' rs h
        · rw [List.mem_singleton.mp h]; exact askerL_ok _ _ _ _ _ _ h5
    · rintro Γ ⟨lt, ls, b9, b10, b11, b12, b13, b14, b15, b16, rfl, h1', h2', h3', h4'⟩
      exact ⟨lt, ls, b9, b10, b11, b12, b13, b14, b15, b16, rfl, h1', h2', by rw [h3', rangeD_length], h4'⟩
  have mul := mulL_ok (ts := [T.v (.int 11)]) (ds := [.int 11]) (k := mt) (by simp [asF, T.ers]) (by simp; omega) (by omega)
  have hz : ∃ zt, addT (.l [T.v (.int (mt : Int)), .v (.int (ma : Int))]) (.l (List.replicate mt (T.v (.int 11)))) = some (.l zt) ∧ T.noBs zt = true ∧ zt.map T.er = (zsW mt ma).map .int := by
    refine ⟨_, addT_ll (by simp; omega), ?_, by simp [zsW]⟩
    rw [noBs_all]; simp
  obtain ⟨zt, hz1, hz2, hz3⟩ := hz
  obtain ⟨zd, hzd⟩ : ∃ zd, zd = (zsW mt ma).map D.int := ⟨_, rfl⟩
  rw [← hzd] at e2 hz3
  have i0 : ixT (.v (.lst (n0.map .int))) (.v (.int 0)) = some (.v (.int (x0 : Int))) := ix_lst (i := 0) (by simp [g0])
  have i1 : ixT (.v (.lst (n0.map .int))) (.v (.int 1)) = some (.v (.int (x1 : Int))) := ix_lst (i := 1) (by simp [g1])
  simp -implicitDefEqProofs at e1 e2 mul
  have hcut : cutL (n0.map D.int) (some 2) (some (3 + (x0 : Int))) = sl.map .int := by
    rw [cutL_map, cutL_two (by omega) (by omega), hsl]
    have e : ((3 : Int) + x0 - 2).toNat = x0 + 1 := by omega
    rw [e]; rfl
  obtain ⟨cs, hcs⟩ : ∃ cs, cs = sl.map tabAt := ⟨_, rfl⟩
  have cp := w_copies (con := con) (cl := evF P con (k + 1)) (a0 := some (.v (.scr ns))) (a1 := some (.v (.int (at_ : Int)))) (a2 := some (.v (.int (mt : Int)))) (a3 := some (.v (.int (ma : Int)))) (a4 := some (.v (.int (mr : Int)))) (a5 := some (.v (.lst zd))) (a6 := some (.v (.lst (n0.map .int)))) (a7 := none) (a8 := none) (a9 := none) (a10 := none) (a11 := none) (a12 := none) (a13 := none) (a15 := none) (a16 := none) hsl3
  rw [← hcs] at cp
  have hcl : cs.length = x0 + 1 := by rw [hcs, List.length_map, hsl2]
  obtain ⟨lt, ls, b9, b10, b11, b12, b13, b14, b15, b16, lp, hl1, hl2, hl3, hl4⟩ := loop cs (some (.v (.lst zd))) (some (.v (.lst (n0.map .int)))) none none none none none none none none (by omega)
  have hll : ls.length = 1 + x1 := by rw [← hl3, ← List.length_map (f := T.er) (as := lt), hl2, List.length_map]
  refine ⟨cs, lt, ls, ?_, hl1, hl2, ⟨by omega, by omega, ?_, by omega, by omega, hl4⟩, by omega, by omega⟩
  · have s1 := sm62' (n := 1 + x1) (by omega)
    have s2 : (1 : Int) + x1 ≤ 16777216 := by omega
    have s3 : ((1 : Int) + x1).toNat = 1 + x1 := by omega
    have s4 : sl.length ≤ 16777216 := by omega
    simp -implicitDefEqProofs at s1
    rw [evF_at hw rfl]
    simp -implicitDefEqProofs [c_l_wishes, env0]
    simp -implicitDefEqProofs [e1, mul, hz1, hz2, hz3, e2, i0, i1, hcut, s4, cp]
    simp -implicitDefEqProofs [i1, s1, s2, s3, lp, hl1]
  · intro c hc
    rw [hcs] at hc
    obtain ⟨d, _, rfl⟩ := List.mem_map.mp hc
    exact tabAt_rg d
end
end Tv

namespace Tv
open PySem
def c_is_row_of_e1 : E := .or (.isN (.frz 2)) (.call "is_whole" (.cons (.frz 2) .nil))
def c_is_row_of : Fn := ⟨2, 3, 
  (.cons (.ife (.or (.not (.isi (.frz 0) .list)) (.cmp .ne (.blt .len (.cons (.frz 0) .nil)) (.frz 1))) (
    (.cons (.ret (.bl false)) .nil)) (.nil)) 
  (.cons (.ret (.blt .all (.cons (.lc [2] (.nm 2) (.seq (.frz 0)) .no c_is_row_of_e1) .nil))) .nil))⟩

def c_rank_among_b1 : Ss := 
    (.cons (.ife (.cmp .isIn (.frz 1) (.frz 3)) (
      (.cons (.ret (.bin .add (.frz 2) (.int 1))) .nil)) (.nil)) .nil)
def c_rank_among : Fn := ⟨2, 4, 
  (.cons (.for (.tp [2, 3]) (.enum (.frz 0)) c_rank_among_b1) 
  (.cons (.ret (.int 0)) .nil))⟩

def c_what_is_wrong_b1 : Ss := 
    (.cons (.ife (.and (.notN (.frz 5)) (.cmp .eq (.call "rank_among" (.cons (.ix (.frz 3) (.frz 4)) (.cons (.frz 5) .nil))) (.int 0))) (
      (.cons (.ret (.tup (.cons (.str [119, 105, 115, 104]) (.cons (.mov 4) .nil)))) .nil)) (.nil)) .nil)
def c_what_is_wrong_b2 : Ss := 
    (.cons (.ife (.cmp .gt (.meth .count (.frz 1) (.frz 6)) (.frz 7)) (
      (.cons (.ret (.tup (.cons (.str [99, 111, 112, 105, 101, 115]) (.cons (.mov 6) .nil)))) .nil)) (.nil)) .nil)
def c_what_is_wrong : Fn := ⟨2, 8, 
  (.cons (.ex (.call "look_at_wishes" (.cons (.frz 0) .nil))) 
  (.cons (.setT [2, 3] (.frz 0)) 
  (.cons (.ife (.not (.call "is_row_of" (.cons (.frz 1) (.cons (.blt .len (.cons (.frz 3) .nil)) .nil)))) (
    (.cons (.ret (.tup (.cons (.str [102, 111, 114, 109]) .nil))) .nil)) (.nil)) 
  (.cons (.for (.tp [4, 5]) (.enum (.frz 1)) c_what_is_wrong_b1) 
  (.cons (.for (.tp [6, 7]) (.enum (.frz 2)) c_what_is_wrong_b2) 
  (.cons (.ret (.non)) .nil))))))⟩

def c_l_wished : Fn := ⟨2, 2, 
  (.cons (.ret (.blt .sorted (.cons (.blt .sum (.cons (.ix (.ix (.frz 0) (.int 1)) (.frz 1)) (.cons (.lst .nil) .nil))) .nil))) .nil)⟩

def c_l_dealt_e1 : E := .frz 8
def c_l_dealt_b1 : Ss := 
    (.cons (.setF 7 (.bin .add (.lc [8] (.nm 8) (.seq (.call "_law_wished" (.cons (.frz 0) (.cons (.frz 6) .nil)))) (.so (.cmp .gt (.ix (.var 3) (.frz 8)) (.int 0))) c_l_dealt_e1) (.lst (.cons (.non) .nil)))) 
    (.cons (.setF 8 (.ix (.frz 7) (.bin .mod (.ix (.frz 4) (.frz 6)) (.blt .len (.cons (.frz 7) .nil))))) 
    (.cons (.ife (.notN (.frz 8)) (
      (.cons (.sto 3 (.frz 8) (.bin .sub (.ix (.var 3) (.frz 8)) (.int 1))) .nil)) (.nil)) 
    (.cons (.app 5 (.frz 8)) .nil))))
def c_l_dealt : Fn := ⟨3, 9, 
  (.cons (.set 3 (.blt .list (.cons (.ix (.frz 0) (.int 0)) .nil))) 
  (.cons (.setF 4 (.call "_law_numbers" (.cons (.frz 1) (.cons (.frz 2) (.cons (.bin .mul (.lst (.cons (.int 61) .nil)) (.blt .len (.cons (.ix (.frz 0) (.int 1)) .nil))) .nil))))) 
  (.cons (.set 5 (.lst .nil)) 
  (.cons (.for (.nm 6) (.rng1 (.blt .len (.cons (.ix (.frz 0) (.int 1)) .nil))) c_l_dealt_b1) 
  (.cons (.ret (.mov 5)) .nil)))))⟩

section
variable {P : String → Option Fn} {con : String → Option D} {k : Nat}
/-- a dealing: a thing or none for each asker -/
def optD : Option Int → D
  | none => .non
  | some i => .int i
abbrev dealD (ws : List (Option Int)) : D := .lst (ws.map optD)
theorem optD_flat (o : Option Int) : (optD o).flat = true := by cases o <;> rfl
theorem ev_is_row_of (h : P "is_row_of" = some c_is_row_of) (h1 : P "is_whole" = some c_is_whole) {ws : List (Option Int)} {n : Nat} (hz : ws.length ≤ 1000) : evF P con (k + 2) "is_row_of" [dealD ws, .int (n : Int)] = .ret (.v (.bl (decide (ws.length = n)))) := by
  rw [evF_at h rfl]
  by_cases c : ws.length = n
  · subst c
    have lc : lcL (lcS (evF P con (k + 1)) con [2] (.nm 2) .no c_is_row_of_e1) (ws.map optD) [some (.v (dealD ws)), some (.v (.int (ws.length : Int))), none] [] = .ok (ws.map fun _ => T.v (.bl true)) [some (.v (dealD ws)), some (.v (.int (ws.length : Int))), none] := by
      refine lcL_mapM fun o _ => ?_
      have w := ev_is_whole (P := P) (con := con) (k := k) (d := optD o) h1
      cases o with
      | none => simp -implicitDefEqProofs [lcS, c_is_row_of_e1, optD, D.isNon]
      | some i => simp -implicitDefEqProofs [lcS, c_is_row_of_e1, optD, D.isNon] at w ⊢; simp -implicitDefEqProofs [w, isWhole]
    have hz2 : ws.length ≤ 16777216 := by omega
    have al : (ws.map fun _ => true).all id = true := by simp
    simp -implicitDefEqProofs [c_is_row_of, env0, D.isi, hz2]
    simp -implicitDefEqProofs [lc]
  · have c' : ¬ ((ws.length : Int) = n) := by omega
    simp -implicitDefEqProofs [c_is_row_of, env0, D.isi, c, c']
def rankGo (x : Int) : Nat → List (List Int) → Int
  | _, [] => 0
  | n, r :: rs => if x ∈ r then (n : Int) + 1 else rankGo x (n + 1) rs
def rankIn (rs : List (List Int)) (x : Int) : Int := rankGo x 0 rs
theorem in_row {x : Int} {row : List Int} : inT (.v (.int x)) (.v (rowD row)) = some (decide (x ∈ row)) := by
  have e : asQ (.v (rowD row)) = some (row.map fun i => T.v (.int i)) := by
    simp only [asQ, List.map_map]; rfl
  simp only [inT, e]
  have f : ((T.v (.int x)).er.flat && (row.map fun i => T.v (.int i)).all fun t => t.er.flat) = true := by
    rw [Bool.and_eq_true]
    refine ⟨by simp [D.flat], ?_⟩
    rw [List.all_eq_true]
    intro t ht
    obtain ⟨j, _, rfl⟩ := List.mem_map.mp ht
    simp [D.flat]
  rw [if_pos f]
  congr 1
  rw [Bool.eq_iff_iff, List.any_eq_true, decide_eq_true_eq]
  constructor
  · rintro ⟨t, ht, h⟩
    obtain ⟨j, hj, rfl⟩ := List.mem_map.mp ht
    rw [er_v, er_v, eqD_int, decide_eq_true_eq] at h
    rw [← h]; exact hj
  · intro h
    exact ⟨_, List.mem_map.mpr ⟨x, h, rfl⟩, by simp [eqD_int]⟩
theorem among_loop {cl : Calls} {x : Int} {d0 : Option T} : ∀ (rs : List (List Int)) (n : Nat) (a2 a3 : Option T), ∃ Γ, forL (forS cl con (.tp [2, 3]) c_rank_among_b1) (((rs.map rowD).zipIdx n).map fun p => D.tup [.int p.2, p.1]) [d0, some (.v (.int x)), a2, a3] = if rankGo x n rs = 0 then .nx Γ else .rt (.v (.int (rankGo x n rs))) Γ
  | [], n, a2, a3 => ⟨_, rfl⟩
  | r :: rs, n, a2, a3 => by
    rw [List.map_cons, List.zipIdx_cons, List.map_cons]
    by_cases c : x ∈ r
    · have e : forS cl con (.tp [2, 3]) c_rank_among_b1 (D.tup [.int (n : Int), rowD r]) [d0, some (.v (.int x)), a2, a3] = .rt (.v (.int ((n : Int) + 1))) [d0, some (.v (.int x)), some (.v (.int n)), some (.v (rowD r))] := by
        have i := in_row (x := x) (row := r)
        rw [decide_eq_true c] at i
        obtain ⟨rd, hrd⟩ : ∃ rd, rd = rowD r := ⟨_, rfl⟩
        rw [← hrd] at i ⊢
        simp -implicitDefEqProofs [forS, c_rank_among_b1, i]
      refine ⟨[d0, some (.v (.int x)), some (.v (.int n)), some (.v (rowD r))], ?_⟩
      have e2 : rankGo x n (r :: rs) = (n : Int) + 1 := by unfold rankGo; rw [if_pos c]
      rw [e2, if_neg (by omega), forL_rt e]
    · have e : forS cl con (.tp [2, 3]) c_rank_among_b1 (D.tup [.int (n : Int), rowD r]) [d0, some (.v (.int x)), a2, a3] = .nx [d0, some (.v (.int x)), some (.v (.int n)), some (.v (rowD r))] := by
        have i := in_row (x := x) (row := r)
        rw [decide_eq_false c] at i
        obtain ⟨rd, hrd⟩ : ∃ rd, rd = rowD r := ⟨_, rfl⟩
        rw [← hrd] at i ⊢
        simp -implicitDefEqProofs [forS, c_rank_among_b1, i]
      obtain ⟨Γ, h⟩ := among_loop rs (n + 1) (some (.v (.int n))) (some (.v (rowD r)))
      refine ⟨Γ, ?_⟩
      have e2 : rankGo x n (r :: rs) = rankGo x (n + 1) rs := by rw [rankGo]; rw [if_neg c]
      rw [e2, forL_nx e, h]
theorem ev_rank_among (h : P "rank_among" = some c_rank_among) {rs : List (List Int)} {x : Int} : evF P con (k + 1) "rank_among" [ranksD rs, .int x] = .ret (.v (.int (rankIn rs x))) := by
  rw [evF_at h rfl]
  obtain ⟨Γ, e⟩ := among_loop (con := con) (cl := evF P con k) (x := x) (d0 := some (.v (ranksD rs))) rs 0 none none
  unfold rankIn
  obtain ⟨z, hz⟩ : ∃ z, z = rankGo x 0 rs := ⟨_, rfl⟩
  rw [← hz] at e ⊢
  by_cases c : z = 0
  · rw [if_pos c] at e
    simp -implicitDefEqProofs [c_rank_among, env0]
    simp -implicitDefEqProofs [e, c]
  · rw [if_neg c] at e
    simp -implicitDefEqProofs [c_rank_among, env0]
    simp -implicitDefEqProofs [e]
theorem rankGo_pos {x : Int} : ∀ {rs : List (List Int)} {n : Nat}, x ∈ rs.flatten → rankGo x n rs ≠ 0
  | [], _, h => by simp at h
  | r :: rs, n, h => by
    unfold rankGo
    split
    · omega
    · rename_i c
      rw [List.flatten_cons, List.mem_append] at h
      exact rankGo_pos (h.resolve_left c)
/-- how often a thing is dealt -/
def dealt (ws : List (Option Int)) (x : Int) : Nat := ws.count (some x)
theorem eqD_opt (o : Option Int) (x : Int) : eqD (optD o) (.int x) = decide (o = some x) := by
  cases o with
  | none => simp [eqD, optD, D.py, PyData.eqv]
  | some i => rw [show optD (some i) = .int i from rfl, eqD_int]; simp
theorem count_deal {ws : List (Option Int)} {x : Int} : methT .count (.v (dealD ws)) (.v (.int x)) = some (.v (.int (dealt ws x : Nat))) := by
  have e : lOnly (.v (dealD ws)) = some (ws.map fun o => T.v (optD o)) := by
    simp only [lOnly, List.map_map]; rfl
  simp only [methT, e]
  have f : ((T.v (.int x)).er.flat && (ws.map fun o => T.v (optD o)).all fun t => t.er.flat) = true := by
    rw [Bool.and_eq_true]
    refine ⟨by simp [D.flat], ?_⟩
    rw [List.all_eq_true]
    intro t ht
    obtain ⟨j, _, rfl⟩ := List.mem_map.mp ht
    rw [er_v]; exact optD_flat j
  rw [if_pos f]
  congr 4
  unfold dealt
  induction ws with
  | nil => rfl
  | cons o ws ih =>
    have ih := ih (by simp only [lOnly, List.map_map]; rfl) (by
      rw [List.map_cons, List.all_cons] at f
      simp only [Bool.and_eq_true] at f ⊢
      exact ⟨f.1, f.2.2⟩)
    rw [List.map_cons, List.filter_cons, List.count_cons, er_v, er_v, eqD_opt]
    rw [er_v] at ih
    by_cases c : o = some x
    · subst c; simp [ih]
    · simp [c, ih]
structure OkDeal (cs : List Int) (ls : List (List (List Int))) (ws : List (Option Int)) : Prop where
  len : ws.length = ls.length
  wish : ∀ (i : Nat) (t : Int) (rs : List (List Int)), ws[i]? = some (some t) → ls[i]? = some rs → t ∈ rs.flatten
  most : ∀ (j : Nat) (c : Int), cs[j]? = some c → (dealt ws (j : Int) : Int) ≤ c
structure PDeal (P : String → Option Fn) (con : String → Option D) : Prop extends PLook P con where
  wrong : P "what_is_wrong" = some c_what_is_wrong
  among : P "rank_among" = some c_rank_among
  row : P "is_row_of" = some c_is_row_of
theorem ev_wrong (p : PDeal P con) {cs : List Int} {ls : List (List (List Int))} {ws : List (Option Int)} (ok : Okw cs ls) (od : OkDeal cs ls ws) :
    evF P con (k + 5) "what_is_wrong" [wishD cs ls, dealD ws] = .ret (.v .non) := by
  have h7 := ok.l2
  have hl := od.len
  have lw := ev_lookW (k := k) p.toPLook ok
  have rw1 := ev_is_row_of (con := con) (k := k + 2) p.row p.whole (ws := ws) (n := ls.length) (by omega)
  rw [decide_eq_true hl] at rw1
  obtain ⟨w, hw⟩ : ∃ w, w = wishD cs ls := ⟨_, rfl⟩
  obtain ⟨lD, hlD⟩ : ∃ lD, lD = ls.map ranksD := ⟨_, rfl⟩
  obtain ⟨cD, hcD⟩ : ∃ cD, cD = cs.map D.int := ⟨_, rfl⟩
  obtain ⟨wD, hwD⟩ : ∃ wD, wD = ws.map optD := ⟨_, rfl⟩
  have hw2 : w = .tup [.lst cD, .lst lD] := by rw [hw, hlD, hcD]
  have hll : lD.length = ls.length := by rw [hlD, List.length_map]
  have hwD2 : dealD ws = .lst wD := by rw [hwD]
  rw [evF_at p.wrong rfl, hwD2, ← hw]
  rw [hwD2] at rw1
  rw [← hw] at lw
  have loop1 : ∃ b4 b5, forL (forS (evF P con (k + 4)) con (.tp [4, 5]) c_what_is_wrong_b1) (wD.zipIdx.map fun p => D.tup [.int p.2, p.1]) [some (.v w), some (.v (.lst wD)), some (.v (.lst cD)), some (.v (.lst lD)), none, none, none, none] = .nx [some (.v w), some (.v (.lst wD)), some (.v (.lst cD)), some (.v (.lst lD)), b4, b5, none, none] := by
    refine forL_go (R := fun r => ∃ b4 b5, r = .nx [some (.v w), some (.v (.lst wD)), some (.v (.lst cD)), some (.v (.lst lD)), b4, b5, none, none]) (fun _ Γ => ∃ b4 b5, Γ = [some (.v w), some (.v (.lst wD)), some (.v (.lst cD)), some (.v (.lst lD)), b4, b5, none, none]) ⟨_, _, rfl⟩ ?_ ?_
    · rintro i d Γ hd ⟨b4, b5, rfl⟩
      obtain ⟨x, hx, rfl⟩ := getD_zip hd
      rw [hwD, List.getElem?_map] at hx
      obtain ⟨o, ho, rfl⟩ := Option.map_eq_some_iff.mp hx
      have e : forS (evF P con (k + 4)) con (.tp [4, 5]) c_what_is_wrong_b1 (D.tup [.int (i : Int), optD o]) [some (.v w), some (.v (.lst wD)), some (.v (.lst cD)), some (.v (.lst lD)), b4, b5, none, none] = .nx [some (.v w), some (.v (.lst wD)), some (.v (.lst cD)), some (.v (.lst lD)), some (.v (.int (i : Int))), some (.v (optD o)), none, none] := by
        cases o with
        | none => simp -implicitDefEqProofs [forS, c_what_is_wrong_b1, optD, D.isNon]
        | some t =>
          have hi : i < ls.length := by rw [← hl]; exact (List.getElem?_eq_some_iff.mp ho).1
          have hm := od.wish i t ls[i] ho (List.getElem?_eq_getElem hi)
          have ra := ev_rank_among (con := con) (k := k + 3) p.among (rs := ls[i]) (x := t)
          have rp := rankGo_pos (n := 0) hm
          have ix : ixT (.v (.lst lD)) (.v (.int (i : Int))) = some (.v (ranksD ls[i])) := ix_lst (by rw [hlD]; simp [List.getElem?_eq_getElem hi])
          obtain ⟨z, hz⟩ : ∃ z, z = rankIn ls[i] t := ⟨_, rfl⟩
          have hz0 : z ≠ 0 := by rw [hz]; exact rp
          rw [← hz] at ra
          obtain ⟨rd, hrd⟩ : ∃ rd, rd = ranksD ls[i] := ⟨_, rfl⟩
          rw [← hrd] at ra ix
          simp -implicitDefEqProofs [forS, c_what_is_wrong_b1, optD, D.isNon]
          simp -implicitDefEqProofs [ix, ra, hz0]
      rw [e]
      exact ⟨_, _, rfl⟩
    · rintro Γ ⟨b4, b5, rfl⟩
      exact ⟨_, _, rfl⟩
  obtain ⟨b4, b5, loop1⟩ := loop1
  have loop2 : ∃ Γ, forL (forS (evF P con (k + 4)) con (.tp [6, 7]) c_what_is_wrong_b2) (cD.zipIdx.map fun p => D.tup [.int p.2, p.1]) [some (.v w), some (.v (.lst wD)), some (.v (.lst cD)), some (.v (.lst lD)), b4, b5, none, none] = .nx Γ := by
    refine forL_go (R := fun r => ∃ Γ, r = .nx Γ) (fun _ Γ => ∃ b6 b7, Γ = [some (.v w), some (.v (.lst wD)), some (.v (.lst cD)), some (.v (.lst lD)), b4, b5, b6, b7]) ⟨_, _, rfl⟩ ?_ ?_
    · rintro i d Γ hd ⟨b6, b7, rfl⟩
      obtain ⟨x, hx, rfl⟩ := getD_zip hd
      rw [hcD, List.getElem?_map] at hx
      obtain ⟨c, hc, rfl⟩ := Option.map_eq_some_iff.mp hx
      have e : forS (evF P con (k + 4)) con (.tp [6, 7]) c_what_is_wrong_b2 (D.tup [.int (i : Int), .int c]) [some (.v w), some (.v (.lst wD)), some (.v (.lst cD)), some (.v (.lst lD)), b4, b5, b6, b7] = .nx [some (.v w), some (.v (.lst wD)), some (.v (.lst cD)), some (.v (.lst lD)), b4, b5, some (.v (.int (i : Int))), some (.v (.int c))] := by
        have hm := od.most i c hc
        have ct := count_deal (ws := ws) (x := (i : Int))
        rw [hwD2] at ct
        have hm2 : ¬ c < (dealt ws (i : Int) : Int) := by omega
        simp -implicitDefEqProofs [forS, c_what_is_wrong_b2]
        have mt : mTy .count (.v (.lst wD)) = true := rfl
        simp -implicitDefEqProofs [ct, mt, hm2]
      rw [e]
      exact ⟨_, _, rfl⟩
    · rintro Γ ⟨b6, b7, rfl⟩
      exact ⟨_, rfl⟩
  obtain ⟨Γ2, loop2⟩ := loop2
  simp -implicitDefEqProofs [c_what_is_wrong, env0]
  have sd : seqD w = some [.lst cD, .lst lD] := by rw [hw2]; rfl
  simp -implicitDefEqProofs [lw, sd]
  simp -implicitDefEqProofs [hll, rw1, loop1, loop2]
/-! what an asker wishes -/
theorem rowsT_ranks : ∀ rs : List (List Int), rowsT ((rs.map rowD).map T.v) = some (rs.map fun r => r.map fun i => T.v (.int i))
  | [] => rfl
  | r :: rs => by
    have ih := rowsT_ranks rs
    rw [List.map_cons, List.map_cons, List.map_cons, rowsT, ih]
    simp [asL, rowD, List.map_map, Function.comp_def]
theorem sumT_ranks {rs : List (List Int)} (h : rs.flatten.length ≤ 1000) : bltT .sum [.v (ranksD rs), .l []] = some (.l (vis rs.flatten)) := by
  have e : lOnly (.v (ranksD rs)) = some ((rs.map rowD).map T.v) := rfl
  have e2 : (rs.map fun r => r.map fun i => T.v (.int i)).flatten = vis rs.flatten := by
    unfold vis
    rw [List.map_flatten]
  simp only [bltT, e, Option.bind_some, rowsT_ranks, e2]
  rw [if_pos (by unfold vis; rw [List.length_map, LIM_eq]; omega)]
theorem intsT_vis : ∀ xs : List Int, intsT (vis xs) = some xs
  | [] => rfl
  | x :: xs => by
    have ih := intsT_vis xs
    show (intsT (vis xs)).map (fun r => x :: r) = _
    rw [ih]; rfl
theorem sortedT_vis (xs : List Int) : bltT .sorted [.l (vis xs)] = some (.l (vis (sortI xs))) := by
  simp only [bltT, lOnly, Option.bind_some, intsT_vis]
  try rfl
theorem ev_wished (h : P "_law_wished" = some c_l_wished) {cs : List Int} {ls : List (List (List Int))} {i : Nat} {rs : List (List Int)} (hi : ls[i]? = some rs) (hz : rs.flatten.length ≤ 1000) :
    evF P con (k + 1) "_law_wished" [wishD cs ls, .int (i : Int)] = .ret (.l (vis (sortI rs.flatten))) := by
  have i1 : ixT (.v (wishD cs ls)) (.v (.int 1)) = some (.v (.lst (ls.map ranksD))) := rfl
  have i2 : ixT (.v (.lst (ls.map ranksD))) (.v (.int (i : Int))) = some (.v (ranksD rs)) := ix_lst (by simp [hi])
  have s1 := sumT_ranks hz
  have s2 := sortedT_vis rs.flatten
  obtain ⟨w, hw⟩ : ∃ w, w = wishD cs ls := ⟨_, rfl⟩
  obtain ⟨rd, hrd⟩ : ∃ rd, rd = ranksD rs := ⟨_, rfl⟩
  obtain ⟨so, hso⟩ : ∃ so, so = vis (sortI rs.flatten) := ⟨_, rfl⟩
  obtain ⟨fl, hfl⟩ : ∃ fl, fl = vis rs.flatten := ⟨_, rfl⟩
  have nb : T.noBs so = true := by rw [hso]; simp
  rw [← hw] at i1
  rw [← hrd] at i2 s1
  rw [← hfl] at s1 s2
  rw [← hso] at s2
  rw [evF_at h rfl, ← hw, ← hso]
  simp -implicitDefEqProofs [c_l_wished, env0]
  simp -implicitDefEqProofs [i1, i2, s1, s2, nb]
/-! a dealing drawn -/
theorem zsD_sizes (n : Nat) (h : n ≤ 7) : Sizes (List.replicate n 61) where
  pos := fun z hz => by rw [(List.mem_replicate.mp hz).2]; omega
  big := fun z hz => by rw [(List.mem_replicate.mp hz).2]; omega
  len := by rw [List.length_replicate]; omega
def pickOf (xs : List Int) (d : Int) : Option Int := xs[(d.fmod ((xs.length : Int) + 1)).toNat]?
theorem pick_ix (xs : List Int) (d : Int) : ixT (.v (.lst (xs.map .int ++ [.non]))) (.v (.int (d.fmod ((xs.length : Int) + 1)))) = some (.v (optD (pickOf xs d))) := by
  have hm := fm (a := d) (m := (xs.length : Int) + 1) (by omega)
  refine ix_lstI hm.1 ?_
  unfold pickOf
  obtain ⟨j, hj⟩ : ∃ j, j = (d.fmod ((xs.length : Int) + 1)).toNat := ⟨_, rfl⟩
  rw [← hj]
  by_cases c : j < xs.length
  · rw [List.getElem?_append_left (by simpa using c), List.getElem?_map, List.getElem?_eq_getElem c]; rfl
  · rw [List.getElem?_append_right (by simpa using c), List.getElem?_eq_none (by omega : xs.length ≤ j)]
    have : j - (xs.map D.int).length = 0 := by rw [List.length_map]; omega
    rw [this]; rfl
theorem w_may {cl : Calls} {lf xs : List Int} {a0 a1 a2 a4 a5 a6 a7 : Option T} (h : ∀ t ∈ xs, 0 ≤ t ∧ t < lf.length) :
    lcL (lcS cl con [8] (.nm 8) (.so (.cmp .gt (.ix (.var 3) (.frz 8)) (.int 0))) c_l_dealt_e1) (xs.map .int) [a0, a1, a2, some (.l (vis lf)), a4, a5, a6, a7, none] [] =
      .ok (vis (xs.filter fun t => decide (0 < (lf[t.toNat]?).getD 0))) [a0, a1, a2, some (.l (vis lf)), a4, a5, a6, a7, none] := by
  have e : vis (xs.filter fun t => decide (0 < (lf[t.toNat]?).getD 0)) = (xs.filter fun t => decide (0 < (lf[t.toNat]?).getD 0)).map fun t => T.v (.int t) := rfl
  rw [e]
  refine lcL_filtM fun t ht => ?_
  obtain ⟨h0, h1⟩ := h t ht
  have hg : lf[t.toNat]? = some lf[t.toNat] := List.getElem?_eq_getElem (by omega)
  have ix : ixT (.b (.lst (lf.map .int))) (.v (.int t)) = some (.v (.int lf[t.toNat])) := ix_bl h0 (show (lf.map D.int)[t.toNat]? = some (.int lf[t.toNat]) by rw [List.getElem?_map, hg]; rfl)
  obtain ⟨z, hz⟩ : ∃ z, z = lf[t.toNat] := ⟨_, rfl⟩
  rw [← hz] at ix hg
  simp -implicitDefEqProofs [lcS, c_l_dealt_e1, hg]
  by_cases c : 0 < z <;> simp -implicitDefEqProofs [ix, c]
/-- what is left after fs were dealt -/
structure LeftIs (cs : List Int) (fs : List (Option Int)) (lf : List Int) : Prop where
  len : lf.length = cs.length
  is : ∀ (j : Nat) (c : Int), cs[j]? = some c → lf[j]? = some (c - dealt fs (j : Int))
  nn : ∀ (j : Nat) (c : Int), cs[j]? = some c → (dealt fs (j : Int) : Int) ≤ c
theorem dealt_app (fs : List (Option Int)) (o : Option Int) (x : Int) : dealt (fs ++ [o]) x = dealt fs x + if o = some x then 1 else 0 := by
  unfold dealt
  rw [List.count_append]
  by_cases c : o = some x
  · simp [c]
  · simp [c]
theorem LeftIs.none {cs : List Int} {fs : List (Option Int)} {lf : List Int} (h : LeftIs cs fs lf) : LeftIs cs (fs ++ [none]) lf where
  len := h.len
  is := fun j c hc => by rw [dealt_app]; simpa using h.is j c hc
  nn := fun j c hc => by rw [dealt_app]; simpa using h.nn j c hc
theorem LeftIs.some {cs : List Int} {fs : List (Option Int)} {lf : List Int} (h : LeftIs cs fs lf) {t : Nat} {z : Int} (hz : lf[t]? = some z) (h0 : 0 < z) : LeftIs cs (fs ++ [some (t : Int)]) (lf.set t (z - 1)) where
  len := by rw [List.length_set, h.len]
  is := fun j c hc => by
    have hi := h.is j c hc
    rw [dealt_app, List.getElem?_set]
    have hj := (List.getElem?_eq_some_iff.mp hi).1
    by_cases e : t = j
    · subst e
      rw [hz] at hi
      injection hi with hi
      rw [if_pos rfl, if_pos hj]
      simp
      omega
    · rw [if_neg e, hi]
      have : ¬ ((t : Int) = (j : Int)) := by omega
      simp [this]
  nn := fun j c hc => by
    have hi := h.is j c hc
    have hn := h.nn j c hc
    rw [dealt_app]
    by_cases e : t = j
    · subst e
      rw [hz] at hi
      injection hi with hi
      simp
      omega
    · have : ¬ ((t : Int) = (j : Int)) := by omega
      simp [this]
      omega
theorem w_deal (hp : P "_law_wished" = some c_l_wished) {cs : List Int} {ls : List (List (List Int))} {cell salt : Int} {dg lf : List Int} {fs : List (Option Int)} {i : Nat} {d : Int} {rs : List (List Int)} {a6 a7 a8 : Option T}
    (ok : Okw cs ls) (hi : ls[i]? = some rs) (hd : dg[i]? = some d) (hf : fs.length = i) (left : LeftIs cs fs lf) :
    ∃ o lf2 b6 b7 b8, forS (evF P con (k + 1)) con (.nm 6) c_l_dealt_b1 (.int (i : Int)) [some (.v (wishD cs ls)), some (.v (.int cell)), some (.v (.int salt)), some (.l (vis lf)), some (.v (.lst (dg.map .int))), some (.l (fs.map fun o => T.v (optD o))), a6, a7, a8] =
      .nx [some (.v (wishD cs ls)), some (.v (.int cell)), some (.v (.int salt)), some (.l (vis lf2)), some (.v (.lst (dg.map .int))), some (.l ((fs ++ [o]).map fun o => T.v (optD o))), b6, b7, b8] ∧ LeftIs cs (fs ++ [o]) lf2 ∧ ∀ t, o = some t → t ∈ rs.flatten := by
  have h7 := ok.l2
  have h6 := ok.c2
  have hil := (List.getElem?_eq_some_iff.mp hi).1
  have okr := ok.lr rs (List.mem_of_getElem? hi)
  have hfl : rs.flatten.length ≤ cs.length := nodup_bound okr.nd okr.rg
  obtain ⟨xs, hxs⟩ : ∃ xs, xs = sortI rs.flatten := ⟨_, rfl⟩
  have hmem : ∀ t, t ∈ xs ↔ t ∈ rs.flatten := fun t => by rw [hxs]; exact (sortI_perm _).mem_iff
  have hxl : xs.length = rs.flatten.length := by rw [hxs]; exact (sortI_perm _).length_eq
  have wd := ev_wished (con := con) (k := k) hp (cs := cs) (ls := ls) (i := i) hi (by omega)
  rw [← hxs] at wd
  have hrg : ∀ t ∈ xs, 0 ≤ t ∧ t < lf.length := fun t ht => by rw [left.len]; exact okr.rg t ((hmem t).mp ht)
  obtain ⟨w, hw⟩ : ∃ w, w = wishD cs ls := ⟨_, rfl⟩
  rw [← hw] at wd ⊢
  obtain ⟨ft, hft⟩ : ∃ ft, ft = xs.filter fun t => decide (0 < (lf[t.toNat]?).getD 0) := ⟨_, rfl⟩
  have hftl : ft.length ≤ 6 := by
    have := List.length_filter_le (fun t => decide (0 < (lf[t.toNat]?).getD 0)) xs
    rw [← hft] at this; omega
  have may := fun a0 a1 a2 a4 a5 a6 a7 => w_may (con := con) (cl := evF P con (k + 1)) (a0 := a0) (a1 := a1) (a2 := a2) (a4 := a4) (a5 := a5) (a6 := a6) (a7 := a7) hrg
  rw [← hft] at may
  have pk := pick_ix ft d
  have ixd : ixT (.v (.lst (dg.map .int))) (.v (.int (i : Int))) = some (.v (.int d)) := ix_lst (by simp [hd])
  have hadd : ∃ zt, addT (.l (vis ft)) (.l [T.v .non]) = some (.l zt) ∧ T.noBs zt = true ∧ zt.map T.er = ft.map .int ++ [.non] := by
    refine ⟨_, addT_ll (by unfold vis; simp; omega), ?_, ?_⟩
    · simp
    · simp [vis, Function.comp_def]
  obtain ⟨zt, z1, z2, z3⟩ := hadd
  have md := mod_ok (i := d) (j := (ft.length : Int) + 1) (by omega)
  obtain ⟨o, ho⟩ : ∃ o, o = pickOf ft d := ⟨_, rfl⟩
  rw [← ho] at pk
  obtain ⟨FT, hFT⟩ : ∃ FT, FT = ft.map D.int ++ [D.non] := ⟨_, rfl⟩
  have hFTl : FT.length = ft.length + 1 := by rw [hFT]; simp
  rw [← hFT] at z3 pk
  have nbf : T.noBs (fs.map fun o => T.v (optD o)) = true := by simp
  have ap := app_ok (ts := fs.map fun o => T.v (optD o)) (t := .v (optD o)) (by rw [List.length_map]; omega) rfl
  have hmap : (fs ++ [o]).map (fun o => T.v (optD o)) = fs.map (fun o => T.v (optD o)) ++ [.v (optD o)] := by rw [List.map_append]; rfl
  obtain ⟨FS, hFS⟩ : ∃ FS, FS = fs.map fun o => T.v (optD o) := ⟨_, rfl⟩
  rw [← hFS] at ap hmap ⊢
  have hxsl : xs.length ≤ 16777216 := by omega
  cases o with
  | none =>
    refine ⟨none, lf, some (.v (.int (i : Int))), some (.v (.lst FT)), some (.v .non), ?_, left.none, fun t h => by cases h⟩
    rw [hmap]
    simp -implicitDefEqProofs [forS, c_l_dealt_b1, wd, hxsl, may]
    simp -implicitDefEqProofs at md
    simp -implicitDefEqProofs [z1, z2, z3, ixd, hFTl, md, pk, optD, D.isNon]
    simp -implicitDefEqProofs [optD] at ap
    simp -implicitDefEqProofs [ap]
  | some t =>
    have htm : t ∈ ft := List.mem_of_getElem? ho.symm
    rw [hft] at htm
    obtain ⟨htx, htp⟩ := List.mem_filter.mp htm
    obtain ⟨t0, t1⟩ := hrg t htx
    obtain ⟨j, rfl⟩ : ∃ j : Nat, t = j := ⟨t.toNat, by omega⟩
    have hj : j < lf.length := by omega
    obtain ⟨z, hz⟩ : ∃ z, lf[j]? = some z := ⟨_, List.getElem?_eq_getElem hj⟩
    have hz0 : 0 < z := by simpa [hz] using htp
    have ixl : ixT (.b (.lst (lf.map .int))) (.v (.int (j : Int))) = some (.v (.int z)) := ix_bl (by omega) (show (lf.map D.int)[((j : Int)).toNat]? = some (.int z) by rw [List.getElem?_map, Int.toNat_natCast, hz]; rfl)
    have st := sto_ok (ts := vis lf) (j := (j : Int)) (t := .v (.int (z - 1))) (by omega) (by unfold vis; rw [List.length_map]; omega) rfl
    have hset : (vis lf).set ((j : Int)).toNat (.v (.int (z - 1))) = vis (lf.set j (z - 1)) := by
      unfold vis; rw [Int.toNat_natCast, List.map_set]
    rw [hset] at st
    refine ⟨some (j : Int), lf.set j (z - 1), some (.v (.int (i : Int))), some (.v (.lst FT)), some (.v (.int (j : Int))), ?_, left.some hz hz0, fun t h => by injection h with h; rw [← h]; exact (hmem _).mp htx⟩
    rw [hmap]
    simp -implicitDefEqProofs [forS, c_l_dealt_b1, wd, hxsl, may]
    simp -implicitDefEqProofs at md
    simp -implicitDefEqProofs [z1, z2, z3, ixd, hFTl, md, pk, optD, D.isNon, ixl, st]
    simp -implicitDefEqProofs [optD] at ap
    simp -implicitDefEqProofs [ap]
theorem LeftIs.zero {cs : List Int} (h : ∀ c ∈ cs, 0 ≤ c) : LeftIs cs [] cs where
  len := rfl
  is := fun j c hc => by rw [hc]; simp [dealt]
  nn := fun j c hc => by have := h c (List.mem_of_getElem? hc); simp [dealt]; exact this
theorem ev_dealt (hp : P "_law_wished" = some c_l_wished) (hq : P "_law_numbers" = some c_numbers) (hd : P "_law_dealt" = some c_l_dealt) {cs : List Int} {ls : List (List (List Int))} {cell salt : Int} (ok : Okw cs ls) (hs : -1000000000 < salt ∧ salt < 1000000000) :
    ∃ ws, evF P con (k + 2) "_law_dealt" [wishD cs ls, .int cell, .int salt] = .ret (.l (ws.map fun o => T.v (optD o))) ∧ OkDeal cs ls ws := by
  have h7 := ok.l2
  have h6 := ok.c2
  have e2 := ev_numbers (P := P) (con := con) (k := k) (c := cell) (s := salt) hq (zsD_sizes ls.length h7) hs
  obtain ⟨dg, hdg⟩ : ∃ dg, dg = nums cell salt (List.replicate ls.length 61) := ⟨_, rfl⟩
  have hdl : dg.length = ls.length := by rw [hdg, nums_length, List.length_replicate]
  rw [← hdg] at e2
  have loop : ∃ ws lf b6 b7 b8, forL (forS (evF P con (k + 1)) con (.nm 6) c_l_dealt_b1) (rangeD 0 ls.length 1) [some (.v (wishD cs ls)), some (.v (.int cell)), some (.v (.int salt)), some (.l (vis cs)), some (.v (.lst (dg.map .int))), some (.l []), none, none, none] =
      .nx [some (.v (wishD cs ls)), some (.v (.int cell)), some (.v (.int salt)), some (.l (vis lf)), some (.v (.lst (dg.map .int))), some (.l (ws.map fun o => T.v (optD o))), b6, b7, b8] ∧ LeftIs cs ws lf ∧ ws.length = ls.length ∧ ∀ (i : Nat) (t : Int) (rs : List (List Int)), ws[i]? = some (some t) → ls[i]? = some rs → t ∈ rs.flatten := by
    refine forL_go (R := fun r => ∃ ws lf b6 b7 b8, r = .nx [some (.v (wishD cs ls)), some (.v (.int cell)), some (.v (.int salt)), some (.l (vis lf)), some (.v (.lst (dg.map .int))), some (.l (ws.map fun o => T.v (optD o))), b6, b7, b8] ∧ LeftIs cs ws lf ∧ ws.length = ls.length ∧ ∀ (i : Nat) (t : Int) (rs : List (List Int)), ws[i]? = some (some t) → ls[i]? = some rs → t ∈ rs.flatten)
      (fun n Γ => ∃ ws lf b6 b7 b8, Γ = [some (.v (wishD cs ls)), some (.v (.int cell)), some (.v (.int salt)), some (.l (vis lf)), some (.v (.lst (dg.map .int))), some (.l (ws.map fun o => T.v (optD o))), b6, b7, b8] ∧ LeftIs cs ws lf ∧ ws.length = n ∧ ∀ (i : Nat) (t : Int) (rs : List (List Int)), ws[i]? = some (some t) → ls[i]? = some rs → t ∈ rs.flatten) ?_ ?_ ?_
    · exact ⟨[], cs, none, none, none, rfl, LeftIs.zero fun c hc => (ok.cb c hc).1, rfl, fun i t rs h => by simp at h⟩
    · rintro i d Γ hd' ⟨ws, lf, b6, b7, b8, rfl, left, hl, hw⟩
      obtain ⟨hi, rfl⟩ := rangeD_get hd'
      obtain ⟨o, lf2, c6, c7, c8, e, left2, ho⟩ := w_deal (con := con) (k := k) hp (cell := cell) (salt := salt) (dg := dg) (lf := lf) (fs := ws) (a6 := b6) (a7 := b7) (a8 := b8) ok (List.getElem?_eq_getElem hi) (List.getElem?_eq_getElem (show i < dg.length by omega)) hl left
      rw [show (0 : Int) + (i : Int) * 1 = (i : Int) by omega, e]
      refine ⟨ws ++ [o], lf2, c6, c7, c8, rfl, left2, by rw [List.length_append, hl]; rfl, fun j t rs hj hr => ?_⟩
      by_cases c : j < ws.length
      · rw [List.getElem?_append_left c] at hj
        exact hw j t rs hj hr
      · have hj2 := (List.getElem?_eq_some_iff.mp hj).1
        rw [List.length_append, List.length_singleton] at hj2
        have : j = i := by omega
        subst this
        rw [List.getElem?_append_right (by omega), hl, Nat.sub_self] at hj
        injection hj with hj
        rw [List.getElem?_eq_getElem hi] at hr
        injection hr with hr
        rw [← hr]
        exact ho t hj
    · rintro Γ ⟨ws, lf, b6, b7, b8, rfl, left, hl, hw⟩
      exact ⟨ws, lf, b6, b7, b8, rfl, left, by rw [hl, rangeD_length], hw⟩
  obtain ⟨ws, lf, b6, b7, b8, lp, left, hwl, hww⟩ := loop
  refine ⟨ws, ?_, ⟨hwl, hww, left.nn⟩⟩
  have i0 : ixT (.v (wishD cs ls)) (.v (.int 0)) = some (.v (.lst (cs.map .int))) := rfl
  have i1 : ixT (.v (wishD cs ls)) (.v (.int 1)) = some (.v (.lst (ls.map ranksD))) := rfl
  have lst : bltT .list [.v (.lst (cs.map .int))] = some (.l (vis cs)) := by simp [bltT, asQ, vis, vi, Function.comp_def]
  have mul := mulL_ok (ts := [T.v (.int 61)]) (ds := [.int 61]) (k := ls.length) (by simp [asF, T.ers]) (by simp; omega) (by omega)
  have hm : ∃ zt, mulT (.l [T.v (.int 61)]) (.v (.int (ls.length : Int))) = some (.l zt) ∧ T.noBs zt = true ∧ zt.map T.er = (List.replicate ls.length 61).map D.int := ⟨_, mul, by rw [noBs_all]; simp, by simp⟩
  obtain ⟨zt, z1, z2, z3⟩ := hm
  obtain ⟨zd, hzd⟩ : ∃ zd, zd = (List.replicate ls.length (61 : Int)).map D.int := ⟨_, rfl⟩
  rw [← hzd] at e2 z3
  obtain ⟨w, hw⟩ : ∃ w, w = wishD cs ls := ⟨_, rfl⟩
  rw [← hw] at lp i0 i1 ⊢
  obtain ⟨cD, hcD⟩ : ∃ cD, cD = cs.map D.int := ⟨_, rfl⟩
  rw [← hcD] at i0 lst
  obtain ⟨lD, hlD⟩ : ∃ lD, lD = ls.map ranksD := ⟨_, rfl⟩
  have hll : lD.length = ls.length := by rw [hlD, List.length_map]
  rw [← hlD] at i1
  obtain ⟨WS, hWS⟩ : ∃ WS, WS = ws.map fun o => T.v (optD o) := ⟨_, rfl⟩
  have nb : T.noBs WS = true := by rw [hWS]; simp
  rw [← hWS] at lp ⊢
  have s1 := sm62' (n := ls.length) (by omega)
  have s2 : (ls.length : Int) ≤ 16777216 := by omega
  rw [evF_at hd rfl]
  simp -implicitDefEqProofs [c_l_dealt, env0]
  simp -implicitDefEqProofs [i0, i1, lst, hll, z1, z2, z3, e2, s1]
  simp -implicitDefEqProofs [lp, nb]
theorem ev_drawn (hp : P "_law_cell_at" = some c_l_cell_at) (hq : P "_law_numbers" = some c_numbers) (hw : P "_law_wishes" = some c_l_wishes) {ns : List Int} {at_ mt ma mr : Nat}
    (h0 : at_ ≤ 1000) (h1 : 1 ≤ mt) (h2 : mt ≤ 6) (h3 : 1 ≤ ma) (h4 : ma ≤ 7) (h5 : mr ≤ 5) :
    ∃ cs ls tw, evF P con (k + 2) "_law_wishes" [.scr ns, .int (at_ : Int), .int (mt : Int), .int (ma : Int), .int (mr : Int)] = .ret tw ∧ tw.fz = some (wishD cs ls) ∧ eqT (.v (wishD cs ls)) tw = some true ∧ Okw cs ls ∧ cs.length ≤ mt ∧ ls.length ≤ ma := by
  obtain ⟨cw, lt, ls, e, n1, n2, ok, l1, l2⟩ := ev_wishes (P := P) (con := con) (k := k) (ns := ns) (at_ := at_) (mt := mt) (ma := ma) (mr := mr) hp hq hw h0 h1 h2 h3 h4 h5
  have er : (T.tp [.l (vis cw), .l lt]).er = wishD cw ls := by
    rw [er_tp, List.map_cons, List.map_cons, List.map_nil, er_l, er_l, n2]
    simp [wishD, vis, vi, Function.comp_def]
  have nb : (T.tp [.l (vis cw), .l lt]).noB = true := by simp [T.noB, T.noBs, n1]
  exact ⟨cw, ls, _, e, by unfold T.fz; rw [if_pos nb, er], eqT_self (by rw [er_v]) er (okD_wish _ _ 56), ok, l1, l2⟩
end
end Tv

namespace Tv
open PySem
def c_need_order : Fn := ⟨1, 1, 
  (.cons (.ife (.or (.not (.isi (.frz 0) .str)) (.cmp .notIn (.frz 0) (.glb "ORDERS"))) (
    (.cons (.dead) .nil)) (.nil)) .nil)⟩

def c_height_e1 : E := .bin .sub (.int 0) (.frz 2)
def c_height : Fn := ⟨2, 3, 
  (.cons (.ife (.cmp .eq (.frz 0) (.str [102, 105, 114, 115, 116, 115])) (
    (.cons (.ret (.blt .list (.cons (.frz 1) .nil))) .nil)) (.nil)) 
  (.cons (.ife (.cmp .eq (.frz 0) (.str [102, 117, 108, 108])) (
    (.cons (.ret (.bin .add (.lst (.cons (.bin .sub (.int 0) (.ix (.frz 1) (.neg (.int 1)))) .nil)) (.frz 1))) .nil)) (.nil)) 
  (.cons (.ret (.lc [2] (.nm 2) (.rvd (.frz 1)) .no c_height_e1)) .nil)))⟩

def c_beside_by : Fn := ⟨3, 3, 
  (.cons (.ex (.call "need_order" (.cons (.frz 0) .nil))) 
  (.cons (.ife (.cmp .eq (.call "height" (.cons (.frz 0) (.cons (.frz 1) .nil))) (.call "height" (.cons (.frz 0) (.cons (.frz 2) .nil)))) (
    (.cons (.ret (.str [97, 108, 105, 107, 101])) .nil)) (.nil)) 
  (.cons (.ife (.cmp .gt (.call "height" (.cons (.frz 0) (.cons (.frz 1) .nil))) (.call "height" (.cons (.frz 0) (.cons (.frz 2) .nil)))) (
    (.cons (.ret (.str [98, 101, 116, 116, 101, 114])) .nil)) (.nil)) 
  (.cons (.ret (.str [119, 111, 114, 115, 101])) .nil))))⟩


/-! the three orders -/
inductive Or3 where | f | u | l
def orS : Or3 → List Nat
  | .f => [102, 105, 114, 115, 116, 115]
  | .u => [102, 117, 108, 108]
  | .l => [108, 97, 115, 116, 115]
def sAlike : List Nat := [97, 108, 105, 107, 101]
def sBetter : List Nat := [98, 101, 116, 116, 101, 114]
def sWorse : List Nat := [119, 111, 114, 115, 101]
def hgt : Or3 → List Int → List Int
  | .f, xs => xs
  | .u, xs => (0 - xs.getLast?.getD 0) :: xs
  | .l, xs => xs.reverse.map fun x => 0 - x
def bes (o : Or3) (xs ys : List Int) : List Nat := if hgt o xs = hgt o ys then sAlike else if gtN (hgt o xs) (hgt o ys) = true then sBetter else sWorse
section
variable {P : String → Option Fn} {con : String → Option D} {k : Nat}
theorem eqD_rows : ∀ xs ys : List Int, eqD (.lst (xs.map .int)) (.lst (ys.map .int)) = decide (xs = ys)
  | [], [] => by simp [eqD, D.py, D.pys, PyData.eqv, PyData.eqvAll]
  | [], y :: ys => by simp [eqD, D.py, D.pys, PyData.eqv, PyData.eqvAll]
  | x :: xs, [] => by simp [eqD, D.py, D.pys, PyData.eqv, PyData.eqvAll]
  | x :: xs, y :: ys => by
    have ih := eqD_rows xs ys
    have h := eqD_int x y
    simp only [eqD, D.py, PyData.eqv] at ih h ⊢
    rw [List.map_cons, List.map_cons]
    simp only [D.pys, PyData.eqvAll, D.py, ih, PyData.eqv, h]
    by_cases c : x = y <;> simp [c]
theorem eqT_vis (xs ys : List Int) : eqT (.l (vis xs)) (.l (vis ys)) = some (decide (xs = ys)) := by
  have e : ∀ xs : List Int, (T.l (vis xs)).er = rowD xs := fun xs => by simp [vis, vi, rowD, Function.comp_def]
  unfold eqT
  rw [e, e, okD_row xs 59, okD_row ys 59, eqD_rows]
  rfl
theorem gtT_vis (xs ys : List Int) : cmpT .gt (.l (vis xs)) (.l (vis ys)) = some (gtN xs ys) := by
  simp only [cmpT, lOnly, Option.bind_some, intsT_vis]
theorem noBs_vis (xs : List Int) : T.noBs (vis xs) = true := by simp [vis]
theorem ev_height (h : P "height" = some c_height) {o : Or3} {xs : List Int} (h0 : xs ≠ []) (hz : xs.length ≤ 1000) : evF P con (k + 1) "height" [.str (orS o), rowD xs] = .ret (.l (vis (hgt o xs))) := by
  rw [evF_at h rfl]
  have lst : bltT .list [.v (rowD xs)] = some (.l (vis xs)) := by simp [bltT, asQ, vis, vi, Function.comp_def]
  obtain ⟨l, hl⟩ : ∃ l, xs.getLast? = some l := ⟨xs.getLast h0, List.getLast?_eq_getLast h0⟩
  have ixl := ix_last (ds := xs.map D.int) (d := .int l) (by rw [List.getLast?_map, hl]; rfl)
  have lc : ∀ a0 a1, lcL (lcS (evF P con k) con [2] (.nm 2) .no c_height_e1) (xs.reverse.map .int) [a0, a1, none] [] = .ok (vis (xs.reverse.map fun x => 0 - x)) [a0, a1, none] := fun a0 a1 => by
    have e : vis (xs.reverse.map fun x => 0 - x) = xs.reverse.map fun x => T.v (.int (0 - x)) := by simp [vis, vi, List.map_map, Function.comp_def]
    rw [e]
    exact lcL_mapM fun x _ => by simp -implicitDefEqProofs [lcS, c_height_e1]
  have ad : addT (.l [T.v (.int (0 - l))]) (.v (rowD xs)) = some (.l (vis ((0 - l) :: xs))) := by
    rw [addT_lv (by simp; omega)]
    simp [vis, vi, Function.comp_def]
  obtain ⟨xD, hxD⟩ : ∃ xD, xD = xs.map D.int := ⟨_, rfl⟩
  have hr : (xs.reverse.map D.int) = xD.reverse := by rw [hxD, List.map_reverse]
  have hzl : xD.length ≤ 16777216 := by rw [hxD, List.length_map]; omega
  have hxD2 : rowD xs = .lst xD := by rw [hxD]
  rw [← hxD] at ixl
  rw [hr] at lc
  rw [hxD2] at lst ad ⊢
  cases o with
  | f =>
    obtain ⟨v, hv⟩ : ∃ v, v = vis xs := ⟨_, rfl⟩
    have nb : T.noBs v = true := by rw [hv]; exact noBs_vis _
    show _ = CR.ret (.l (vis xs))
    rw [← hv] at lst ⊢
    simp -implicitDefEqProofs [c_height, env0, orS, eqT_ss]
    simp -implicitDefEqProofs [lst, nb]
  | u =>
    obtain ⟨v, hv⟩ : ∃ v, v = vis ((0 - l) :: xs) := ⟨_, rfl⟩
    have nb : T.noBs v = true := by rw [hv]; exact noBs_vis _
    have hh : hgt .u xs = (0 - l) :: xs := by simp [hgt, hl]
    rw [hh]
    rw [← hv] at ad ⊢
    simp -implicitDefEqProofs at ad
    simp -implicitDefEqProofs [c_height, env0, orS, eqT_ss]
    simp -implicitDefEqProofs [ixl, ad, nb]
  | l =>
    obtain ⟨v, hv⟩ : ∃ v, v = vis (xs.reverse.map fun x => 0 - x) := ⟨_, rfl⟩
    have nb : T.noBs v = true := by rw [hv]; exact noBs_vis _
    show _ = CR.ret (.l (vis (xs.reverse.map fun x => 0 - x)))
    rw [← hv] at lc ⊢
    simp -implicitDefEqProofs [c_height, env0, orS, eqT_ss]
    simp -implicitDefEqProofs [lc, nb, hzl]
structure PBes (P : String → Option Fn) (con : String → Option D) : Prop where
  order : P "need_order" = some c_need_order
  height : P "height" = some c_height
  bes : P "beside_by" = some c_beside_by
  ords : con "ORDERS" = some (.tup [.str (orS .f), .str (orS .u), .str (orS .l)])
theorem ev_order (p : PBes P con) {o : Or3} : evF P con (k + 1) "need_order" [.str (orS o)] = .ret (.v .non) := by
  rw [evF_at p.order rfl]
  have e : inT (.v (.str (orS o))) (.v (.tup [.str (orS .f), .str (orS .u), .str (orS .l)])) = some true := by cases o <;> decide +kernel
  have h := p.ords
  obtain ⟨od, hod⟩ : ∃ od, od = D.tup [.str (orS .f), .str (orS .u), .str (orS .l)] := ⟨_, rfl⟩
  rw [← hod] at e h
  simp -implicitDefEqProofs [c_need_order, env0, D.isi, h]
  simp -implicitDefEqProofs [e]
theorem hgt_len (o : Or3) (xs : List Int) : (hgt o xs).length ≤ xs.length + 1 := by cases o <;> simp [hgt]
theorem ev_beside (p : PBes P con) {o : Or3} {xs ys : List Int} (h0 : xs ≠ []) (hz : xs.length ≤ 1000) (h1 : ys ≠ []) (hy : ys.length ≤ 1000) :
    evF P con (k + 2) "beside_by" [.str (orS o), rowD xs, rowD ys] = .ret (.v (.str (bes o xs ys))) := by
  have e0 := ev_order (k := k) p (o := o)
  have e1 := ev_height (con := con) (k := k) p.height (o := o) h0 hz
  have e2 := ev_height (con := con) (k := k) p.height (o := o) h1 hy
  have q := eqT_vis (hgt o xs) (hgt o ys)
  have g := gtT_vis (hgt o xs) (hgt o ys)
  rw [evF_at p.bes rfl]
  unfold bes
  obtain ⟨xr, hxr⟩ : ∃ xr, xr = rowD xs := ⟨_, rfl⟩
  obtain ⟨yr, hyr⟩ : ∃ yr, yr = rowD ys := ⟨_, rfl⟩
  obtain ⟨vx, hvx⟩ : ∃ vx, vx = vis (hgt o xs) := ⟨_, rfl⟩
  obtain ⟨vy, hvy⟩ : ∃ vy, vy = vis (hgt o ys) := ⟨_, rfl⟩
  obtain ⟨os, hos⟩ : ∃ os, os = orS o := ⟨_, rfl⟩
  rw [← hxr, ← hos, ← hvx] at e1
  rw [← hyr, ← hos, ← hvy] at e2
  rw [← hvx, ← hvy] at q g
  rw [← hos] at e0
  rw [← hxr, ← hyr, ← hos]
  simp -implicitDefEqProofs [c_beside_by, env0]
  by_cases c : hgt o xs = hgt o ys
  · rw [decide_eq_true c] at q
    rw [if_pos c]
    simp -implicitDefEqProofs [e0, e1, e2, q, sAlike]
  · rw [decide_eq_false c] at q
    rw [if_neg c]
    cases c2 : gtN (hgt o xs) (hgt o ys) with
    | true =>
      rw [c2] at g
      simp -implicitDefEqProofs [e0, e1, e2, q, g, sBetter]
    | false =>
      rw [c2] at g
      simp -implicitDefEqProofs [e0, e1, e2, q, g, sWorse]
end
end Tv

namespace Tv
open PySem
def c_rank_in_b1 : Ss := 
    (.cons (.ife (.cmp .isIn (.frz 1) (.frz 3)) (
      (.cons (.ret (.bin .add (.frz 2) (.int 1))) .nil)) (.nil)) .nil)
def c_rank_in : Fn := ⟨2, 4, 
  (.cons (.for (.tp [2, 3]) (.enum (.frz 0)) c_rank_in_b1) 
  (.cons (.ret (.int 0)) .nil))⟩

def c_rank_of : Fn := ⟨3, 3, 
  (.cons (.ex (.call "look_at_wishes" (.cons (.frz 0) .nil))) 
  (.cons (.ret (.call "rank_in" (.cons (.ix (.ix (.frz 0) (.int 1)) (.frz 1)) (.cons (.frz 2) .nil)))) .nil))⟩

def c_longest_e1 : E := .blt .len (.cons (.frz 1) .nil)
def c_longest : Fn := ⟨1, 2, 
  (.cons (.ex (.call "look_at_wishes" (.cons (.frz 0) .nil))) 
  (.cons (.ret (.blt .max (.cons (.lc [1] (.nm 1) (.seq (.ix (.frz 0) (.int 1))) .no c_longest_e1) .nil))) .nil))⟩


section
variable {P : String → Option Fn} {con : String → Option D} {k : Nat}
structure PRank (P : String → Option Fn) (con : String → Option D) : Prop extends PLook P con where
  rin : P "rank_in" = some c_rank_in
  rof : P "rank_of" = some c_rank_of
  lon : P "longest" = some c_longest
theorem ev_rank_in (p : PRank P con) {rs : List (List Int)} {x : Int} : evF P con (k + 1) "rank_in" [ranksD rs, .int x] = .ret (.v (.int (rankIn rs x))) := by
  rw [evF_at p.rin rfl]
  have hb : c_rank_in_b1 = c_rank_among_b1 := rfl
  obtain ⟨Γ, e⟩ := among_loop (con := con) (cl := evF P con k) (x := x) (d0 := some (.v (ranksD rs))) rs 0 none none
  rw [← hb] at e
  unfold rankIn
  obtain ⟨z, hz⟩ : ∃ z, z = rankGo x 0 rs := ⟨_, rfl⟩
  rw [← hz] at e ⊢
  by_cases c : z = 0
  · rw [if_pos c] at e
    simp -implicitDefEqProofs [c_rank_in, env0]
    simp -implicitDefEqProofs [e, c]
  · rw [if_neg c] at e
    simp -implicitDefEqProofs [c_rank_in, env0]
    simp -implicitDefEqProofs [e]
theorem ev_rank_of (p : PRank P con) {cw : List Int} {ls : List (List (List Int))} {rs : List (List Int)} {i : Nat} {x : Int} (ok : Okw cw ls) (hi : ls[i]? = some rs) : evF P con (k + 5) "rank_of" [wishD cw ls, .int (i : Int), .int x] = .ret (.v (.int (rankIn rs x))) := by
  rw [evF_at p.rof rfl]
  have lw := ev_lookW (k := k) p.toPLook ok
  have i1 : ixT (.v (wishD cw ls)) (.v (.int 1)) = some (.v (.lst (ls.map ranksD))) := rfl
  have i2 : ixT (.v (.lst (ls.map ranksD))) (.v (.int (i : Int))) = some (.v (ranksD rs)) := ix_lst (by simp [hi])
  have ri := ev_rank_in p (k := k + 3) (rs := rs) (x := x)
  obtain ⟨w, hw⟩ : ∃ w, w = wishD cw ls := ⟨_, rfl⟩
  obtain ⟨rd, hrd⟩ : ∃ rd, rd = ranksD rs := ⟨_, rfl⟩
  rw [← hw] at lw i1
  rw [← hrd] at i2 ri
  rw [← hw]
  simp -implicitDefEqProofs [c_rank_of, env0]
  simp -implicitDefEqProofs [lw, i1, i2, ri]
/-- max of lengths -/
theorem intsT_ints : ∀ ns : List Int, intsT (ns.map fun n => T.v (.int n)) = some ns := intsT_vis
theorem ev_longest (p : PRank P con) {cw : List Int} {ls : List (List (List Int))} (ok : Okw cw ls) : ∃ a r, (ls.map fun rs => ((rs.length : Nat) : Int)) = a :: r ∧ evF P con (k + 5) "longest" [wishD cw ls] = .ret (.v (.int (maxL a r))) := by
  have lw := ev_lookW (k := k) p.toPLook ok
  have h7 := ok.l2
  have h1 := ok.l1
  cases hls : ls with
  | nil => rw [hls] at h1; simp at h1
  | cons l0 lr =>
    refine ⟨_, _, rfl, ?_⟩
    rw [← hls]
    rw [evF_at p.lon rfl]
    have i1 : ixT (.v (wishD cw ls)) (.v (.int 1)) = some (.v (.lst (ls.map ranksD))) := rfl
    have lc : lcL (lcS (evF P con (k + 4)) con [1] (.nm 1) .no c_longest_e1) (ls.map ranksD) [some (.v (wishD cw ls)), none] [] = .ok (vis (ls.map fun rs => ((rs.length : Nat) : Int))) [some (.v (wishD cw ls)), none] := by
      have e : vis (ls.map fun rs => ((rs.length : Nat) : Int)) = ls.map fun rs => T.v (.int ((rs.length : Nat) : Int)) := by simp [vis, vi, Function.comp_def]
      rw [e]
      refine lcL_mapM fun rs _ => ?_
      obtain ⟨rD, hrD⟩ : ∃ rD, rD = rs.map rowD := ⟨_, rfl⟩
      have hl : rD.length = rs.length := by rw [hrD, List.length_map]
      have hr : ranksD rs = .lst rD := by rw [hrD]
      rw [hr]
      obtain ⟨wd, hwd⟩ : ∃ wd, wd = wishD cw ls := ⟨_, rfl⟩
      rw [← hwd]
      simp -implicitDefEqProofs [lcS, c_longest_e1, hl]
    have key : ∀ (a : Int) (r : List Int), bltT .max [.l (vis (a :: r))] = some (.v (.int (maxL a r))) := fun a r => by
      simp only [bltT, lOnly, Option.bind_some, intsT_vis]
    have mx : bltT .max [.l (vis (ls.map fun rs => ((rs.length : Nat) : Int)))] = some (.v (.int (maxL ((l0.length : Nat) : Int) (lr.map fun rs => ((rs.length : Nat) : Int))))) := by
      rw [hls, List.map_cons]; exact key _ _
    obtain ⟨m, hm⟩ : ∃ m, m = maxL ((l0.length : Nat) : Int) (lr.map fun rs => ((rs.length : Nat) : Int)) := ⟨_, rfl⟩
    rw [← hm] at mx ⊢
    obtain ⟨vl, hvl⟩ : ∃ vl, vl = vis (ls.map fun rs => ((rs.length : Nat) : Int)) := ⟨_, rfl⟩
    rw [← hvl] at lc mx
    obtain ⟨lD, hlD⟩ : ∃ lD, lD = ls.map ranksD := ⟨_, rfl⟩
    have hll : lD.length ≤ 16777216 := by rw [hlD, List.length_map]; omega
    rw [← hlD] at i1 lc
    obtain ⟨w, hw⟩ : ∃ w, w = wishD cw ls := ⟨_, rfl⟩
    rw [← hw] at lw i1 lc ⊢
    simp -implicitDefEqProofs [c_longest, env0]
    simp -implicitDefEqProofs [lw, i1, hll, lc, mx]
/-! plain: what the ranks of the things tell -/
theorem rankGo_at {x : Int} : ∀ {rs : List (List Int)} {n : Nat}, rs.flatten.Nodup → ∀ (r : Nat) (row : List Int), rs[r]? = some row → x ∈ row → rankGo x n rs = (n : Int) + r + 1
  | [], n, _, r, row, h, _ => by simp at h
  | q :: rs, n, nd, r, row, h, hx => by
    rw [List.flatten_cons, List.nodup_append] at nd
    unfold rankGo
    cases r with
    | zero =>
      simp at h; subst h
      rw [if_pos hx]; simp
    | succ r =>
      have h : rs[r]? = some row := by simpa using h
      have hn : x ∉ q := fun m => nd.2.2 x m x (List.mem_flatten.mpr ⟨row, List.mem_of_getElem? h, hx⟩) rfl
      rw [if_neg hn, rankGo_at nd.2.1 r row h hx]
      push_cast; omega
theorem rankGo_zero {x : Int} : ∀ {rs : List (List Int)} {n : Nat}, x ∉ rs.flatten → rankGo x n rs = 0
  | [], n, _ => rfl
  | q :: rs, n, h => by
    rw [List.flatten_cons, List.mem_append] at h
    unfold rankGo
    rw [if_neg (fun m => h (.inl m)), rankGo_zero fun m => h (.inr m)]
/-! x[j] += d on a list of whole numbers -/
theorem ixN_in {n : Nat} {j : Int} (h0 : 0 ≤ j) (h1 : j < n) : L2.ixN n j = some j.toNat := by
  have := ixN_nat' (n := n) (i := j.toNat) (by omega)
  rw [Int.toNat_of_nonneg h0] at this; exact this
theorem getI_vis {xs : List Int} {j : Int} {x : Int} (h0 : 0 ≤ j) (h : xs[j.toNat]? = some x) : getI (some (some (.l (vis xs)))) (.v (.int j)) = some x := by
  have hl := (List.getElem?_eq_some_iff.mp h).1
  have e := ixN_in (n := (vis xs).length) h0 (by unfold vis; rw [List.length_map]; omega)
  have g : (vis xs)[j.toNat]? = some (.v (.int x)) := by unfold vis; rw [List.getElem?_map, h]; rfl
  simp only [getI, ixT1, e, Option.bind_some, g]
theorem augT_vis {xs : List Int} {j x d : Int} (h0 : 0 ≤ j) (h1 : j < xs.length) : augT .add (some (some (.l (vis xs)))) (.v (.int j)) x (.v (.int d)) = some (.l (vis (xs.set j.toNat (x + d)))) := by
  have e := ixN_in (n := (vis xs).length) h0 (by unfold vis; rw [List.length_map]; omega)
  have g : augI .add x (.v (.int d)) = some (x + d) := rfl
  have s : vis (xs.set j.toNat (x + d)) = (vis xs).set j.toNat (.v (.int (x + d))) := by unfold vis; rw [List.map_set]
  simp only [augT, ixT1, e, Option.bind_some, g, Option.map_some, s]
end
end Tv

-- tree
open PySem PySem.Spec PyProof.Rows L2
namespace Kx
open Tv

def k_1 : List Nat := [99, 111, 112, 105, 101, 115]
abbrev f_is_whole : Fn := c_is_whole

abbrev f_need_row : Fn := c_need_row

abbrev f_is_many : Fn := c_is_many

abbrev f_is_thing : Fn := c_is_thing

abbrev f_are_ranks : Fn := c_are_ranks

abbrev f_look_at_wishes : Fn := c_look_at_wishes

abbrev f_rank_in : Fn := c_rank_in

abbrev f_rank_of : Fn := c_rank_of

abbrev f_longest : Fn := c_longest

abbrev f_is_row_of : Fn := c_is_row_of

abbrev f_rank_among : Fn := c_rank_among

abbrev f_what_is_wrong : Fn := c_what_is_wrong

def f_counts_of_b1 : Ss := 
    (.cons (.ife (.isN (.frz 4)) (
      (.cons (.augS 2 .add (.neg (.int 1)) (.int 1)) .nil)) (
      (.cons (.augS 2 .add (.bin .sub (.call "rank_among" (.cons (.ix (.ix (.frz 0) (.int 1)) (.frz 3)) (.cons (.frz 4) .nil))) (.int 1)) (.int 1)) .nil))) .nil)
def f_counts_of : Fn := ⟨2, 5, 
  (.cons (.set 2 (.bin .mul (.lst (.cons (.int 0) .nil)) (.bin .add (.call "longest" (.cons (.frz 0) .nil)) (.int 1)))) 
  (.cons (.for (.tp [3, 4]) (.enum (.frz 1)) f_counts_of_b1) 
  (.cons (.ret (.mov 2)) .nil)))⟩

def f_copies_left_e1 : E := .bin .sub (.frz 3) (.meth .count (.frz 1) (.frz 2))
def f_copies_left : Fn := ⟨2, 4, 
  (.cons (.ex (.call "look_at_wishes" (.cons (.frz 0) .nil))) 
  (.cons (.ret (.lc [2, 3] (.tp [2, 3]) (.enum (.ix (.frz 0) (.int 0))) .no f_copies_left_e1)) .nil))⟩

abbrev f__law_cell_at : Fn := c_l_cell_at

abbrev f__law_numbers : Fn := c_numbers

abbrev f__law_wishes : Fn := c_l_wishes

def f__law_place : Fn := ⟨3, 3, 
  (.cons (.ife (.isN (.frz 2)) (
    (.cons (.ret (.call "longest" (.cons (.frz 0) .nil))) .nil)) (.nil)) 
  (.cons (.ret (.bin .sub (.call "rank_of" (.cons (.frz 0) (.cons (.frz 1) (.cons (.frz 2) .nil)))) (.int 1))) .nil))⟩

def f__law_went_on : Fn := ⟨6, 7, 
  (.cons (.setF 6 (.ix (.frz 1) (.frz 2))) 
  (.cons (.set 4 (.blt .list (.cons (.var 4) .nil))) 
  (.cons (.set 5 (.blt .list (.cons (.var 5) .nil))) 
  (.cons (.augS 4 .sub (.call "_law_place" (.cons (.frz 0) (.cons (.frz 2) (.cons (.frz 6) .nil)))) (.int 1)) 
  (.cons (.augS 4 .add (.call "_law_place" (.cons (.frz 0) (.cons (.frz 2) (.cons (.frz 3) .nil)))) (.int 1)) 
  (.cons (.ife (.notN (.frz 6)) (
    (.cons (.augS 5 .add (.frz 6) (.int 1)) .nil)) (.nil)) 
  (.cons (.ife (.notN (.frz 3)) (
    (.cons (.augS 5 .sub (.frz 3) (.int 1)) .nil)) (.nil)) 
  (.cons (.ret (.lst (.cons (.mov 4) (.cons (.mov 5) .nil)))) .nil))))))))⟩

def f__law_due : Fn := ⟨4, 4, 
  (.cons (.ife (.isN (.frz 3)) (
    (.cons (.ret (.non)) .nil)) (.nil)) 
  (.cons (.ife (.or (.cmp .lt (.frz 3) (.int 0)) (.or (.cmp .ge (.frz 3) (.blt .len (.cons (.ix (.frz 0) (.int 0)) .nil))) (.cmp .eq (.call "rank_of" (.cons (.frz 0) (.cons (.frz 2) (.cons (.frz 3) .nil)))) (.int 0)))) (
    (.cons (.ret (.tup (.cons (.str [119, 105, 115, 104]) (.cons (.frz 2) .nil)))) .nil)) (.nil)) 
  (.cons (.ife (.and (.cmp .ne (.ix (.frz 1) (.frz 2)) (.frz 3)) (.cmp .eq (.ix (.call "copies_left" (.cons (.frz 0) (.cons (.frz 1) .nil))) (.frz 3)) (.int 0))) (
    (.cons (.ret (.tup (.cons (.str k_1) (.cons (.mov 3) .nil)))) .nil)) (.nil)) 
  (.cons (.ret (.non)) .nil))))⟩

def f_law_e1 : E := .non
def f_law_b1 : Ss := 
    (.cons (.setF 5 (.blt .len (.cons (.ix (.frz 1) (.int 0)) .nil))) 
    (.cons (.setF 6 (.call "_law_numbers" (.cons (.frz 4) (.cons (.bin .add (.int 1800) (.frz 3)) (.cons (.lst (.cons (.blt .len (.cons (.ix (.frz 1) (.int 1)) .nil)) (.cons (.bin .add (.frz 5) (.int 4)) (.cons (.bin .pow (.int 10) (.int 18)) .nil)))) .nil))))) 
    (.cons (.setF 7 (.ix (.frz 6) (.int 0))) 
    (.cons (.setF 8 (.ix (.bin .add (.lrn (.frz 5)) (.lst (.cons (.non) (.cons (.non) (.cons (.bin .add (.frz 5) (.ix (.frz 6) (.int 2))) (.cons (.bin .sub (.neg (.int 1)) (.ix (.frz 6) (.int 2))) .nil)))))) (.ix (.frz 6) (.int 1)))) 
    (.cons (.setF 9 (.call "counts_of" (.cons (.frz 1) (.cons (.frz 2) .nil)))) 
    (.cons (.setF 10 (.call "copies_left" (.cons (.frz 1) (.cons (.frz 2) .nil)))) 
    (.cons (.setF 11 (.bin .add (.bin .add (.sl (.frz 2) .no (.so (.frz 7))) (.lst (.cons (.frz 8) .nil))) (.sl (.frz 2) (.so (.bin .add (.frz 7) (.int 1))) .no))) 
    (.cons (.setF 12 (.call "_law_due" (.cons (.frz 1) (.cons (.frz 2) (.cons (.frz 7) (.cons (.frz 8) .nil)))))) 
    (.cons (.ife (.cmp .ne (.call "what_is_wrong" (.cons (.frz 1) (.cons (.frz 11) .nil))) (.frz 12)) (
      (.cons (.ret (.bl false)) .nil)) (.nil)) 
    (.cons (.ife (.isN (.frz 12)) (
      (.cons (.setF 14 (.lst (.cons (.call "counts_of" (.cons (.frz 1) (.cons (.frz 11) .nil))) (.cons (.call "copies_left" (.cons (.frz 1) (.cons (.frz 11) .nil))) .nil)))) 
      (.cons (.ife (.cmp .ne (.frz 14) (.call "_law_went_on" (.cons (.frz 1) (.cons (.frz 2) (.cons (.frz 7) (.cons (.frz 8) (.cons (.frz 9) (.cons (.frz 10) .nil)))))))) (
        (.cons (.ret (.bl false)) .nil)) (.nil)) 
      (.cons (.set 2 (.frz 11)) .nil)))) (.nil)) 
    (.cons (.ife (.or (.cmp .ne (.blt .sum (.cons (.frz 9) .nil)) (.blt .len (.cons (.frz 2) .nil))) (.notN (.call "what_is_wrong" (.cons (.frz 1) (.cons (.frz 2) .nil))))) (
      (.cons (.ret (.bl false)) .nil)) (.nil)) .nil)))))))))))
def f_law : Fn := ⟨1, 15, 
  (.cons (.setF 1 (.call "_law_wishes" (.cons (.frz 0) (.cons (.int 0) (.cons (.int 6) (.cons (.int 7) (.cons (.int 5) .nil))))))) 
  (.cons (.setF 2 (.lc [13] (.nm 13) (.seq (.ix (.frz 1) (.int 1))) .no f_law_e1)) 
  (.cons (.for (.tp [3, 4]) (.enum (.bin .add (.lst (.cons (.int 3) .nil)) (.sl (.frz 0) (.so (.int 8)) (.so (.int 40))))) f_law_b1) 
  (.cons (.ret (.bl true)) .nil))))⟩

def top (i : Nat) : Stmt := PySem.Challenge.pw_wishdeal_k19_whole_dealt_step_by_step.main.body.getD i (.Pass ⟨0, 0, 0, 0⟩)
def cs : List (String × D) := [("MOST_THINGS", .int (6)), ("MOST_COPIES", .int (7)), ("MOST_ASKERS", .int (7)), ("MOST_RANKS", .int (5))]
def d_is_whole : Df := ⟨"is_whole", ⟨("is_whole", none), "is_whole", "is_whole", defArgs (top 1), defBody (top 1), defScope (top 1), [], []⟩, f_is_whole, ⟨["thing"], ["thing"]⟩⟩
def d_need_row : Df := ⟨"need_row", ⟨("need_row", none), "need_row", "need_row", defArgs (top 10), defBody (top 10), defScope (top 10), [], []⟩, f_need_row, ⟨["part", "thing", "most"], ["part", "thing", "most"]⟩⟩
def d_is_many : Df := ⟨"is_many", ⟨("is_many", none), "is_many", "is_many", defArgs (top 11), defBody (top 11), defScope (top 11), [], []⟩, f_is_many, ⟨["thing"], ["thing"]⟩⟩
def d_is_thing : Df := ⟨"is_thing", ⟨("is_thing", none), "is_thing", "is_thing", defArgs (top 12), defBody (top 12), defScope (top 12), [], []⟩, f_is_thing, ⟨["thing", "many"], ["thing", "many"]⟩⟩
def d_are_ranks : Df := ⟨"are_ranks", ⟨("are_ranks", none), "are_ranks", "are_ranks", defArgs (top 13), defBody (top 13), defScope (top 13), [], []⟩, f_are_ranks, ⟨["thing", "many", "seen", "rank", "one"], ["thing", "many"]⟩⟩
def d_look_at_wishes : Df := ⟨"look_at_wishes", ⟨("look_at_wishes", none), "look_at_wishes", "look_at_wishes", defArgs (top 14), defBody (top 14), defScope (top 14), [], []⟩, f_look_at_wishes, ⟨["thing", "copies", "lists", "number", "many", "ranks"], ["thing"]⟩⟩
def d_rank_in : Df := ⟨"rank_in", ⟨("rank_in", none), "rank_in", "rank_in", defArgs (top 15), defBody (top 15), defScope (top 15), [], []⟩, f_rank_in, ⟨["ranks", "thing", "number", "rank"], ["ranks", "thing"]⟩⟩
def d_rank_of : Df := ⟨"rank_of", ⟨("rank_of", none), "rank_of", "rank_of", defArgs (top 16), defBody (top 16), defScope (top 16), [], []⟩, f_rank_of, ⟨["wishes", "asker", "thing"], ["wishes", "asker", "thing"]⟩⟩
def d_longest : Df := ⟨"longest", ⟨("longest", none), "longest", "longest", defArgs (top 17), defBody (top 17), defScope (top 17), [], []⟩, f_longest, ⟨["wishes", "ranks"], ["wishes"]⟩⟩
def d_is_row_of : Df := ⟨"is_row_of", ⟨("is_row_of", none), "is_row_of", "is_row_of", defArgs (top 19), defBody (top 19), defScope (top 19), [], []⟩, f_is_row_of, ⟨["thing", "many", "one"], ["thing", "many"]⟩⟩
def d_rank_among : Df := ⟨"rank_among", ⟨("rank_among", none), "rank_among", "rank_among", defArgs (top 20), defBody (top 20), defScope (top 20), [], []⟩, f_rank_among, ⟨["ranks", "thing", "number", "rank"], ["ranks", "thing"]⟩⟩
def d_what_is_wrong : Df := ⟨"what_is_wrong", ⟨("what_is_wrong", none), "what_is_wrong", "what_is_wrong", defArgs (top 21), defBody (top 21), defScope (top 21), [], []⟩, f_what_is_wrong, ⟨["wishes", "thing", "copies", "lists", "asker", "one", "number", "many"], ["wishes", "thing"]⟩⟩
def d_counts_of : Df := ⟨"counts_of", ⟨("counts_of", none), "counts_of", "counts_of", defArgs (top 22), defBody (top 22), defScope (top 22), [], []⟩, f_counts_of, ⟨["wishes", "dealing", "counts", "asker", "one"], ["wishes", "dealing"]⟩⟩
def d_copies_left : Df := ⟨"copies_left", ⟨("copies_left", none), "copies_left", "copies_left", defArgs (top 23), defBody (top 23), defScope (top 23), [], []⟩, f_copies_left, ⟨["wishes", "dealing", "number", "many"], ["wishes", "dealing"]⟩⟩
def d__law_cell_at : Df := ⟨"_law_cell_at", ⟨("_law_cell_at", none), "_law_cell_at", "_law_cell_at", defArgs (top 25), defBody (top 25), defScope (top 25), [], []⟩, f__law_cell_at, ⟨["_law_script", "_law_k"], ["_law_script", "_law_k"]⟩⟩
def d__law_numbers : Df := ⟨"_law_numbers", ⟨("_law_numbers", none), "_law_numbers", "_law_numbers", defArgs (top 26), defBody (top 26), defScope (top 26), [], []⟩, f__law_numbers, ⟨["_law_cell", "_law_salt", "_law_sizes", "_law_number", "_law_left", "_law_found", "_law_k", "_law_one"], ["_law_cell", "_law_salt", "_law_sizes"]⟩⟩
def d__law_wishes : Df := ⟨"_law_wishes", ⟨("_law_wishes", none), "_law_wishes", "_law_wishes", defArgs (top 27), defBody (top 27), defScope (top 27), [], []⟩, f__law_wishes, ⟨["_law_script", "_law_at", "_law_most_things", "_law_most_askers", "_law_most_ranks", "_law_sizes", "_law_digits", "_law_copies", "_law_lists", "_law_asker", "_law_cell", "_law_places", "_law_ranks", "_law_rank", "_law_digit", "_law_row", "_law_thing"], ["_law_script", "_law_at", "_law_most_things", "_law_most_askers", "_law_most_ranks"]⟩⟩
def d__law_place : Df := ⟨"_law_place", ⟨("_law_place", none), "_law_place", "_law_place", defArgs (top 28), defBody (top 28), defScope (top 28), [], []⟩, f__law_place, ⟨["_law_wishes_here", "_law_asker", "_law_thing"], ["_law_wishes_here", "_law_asker", "_law_thing"]⟩⟩
def d__law_went_on : Df := ⟨"_law_went_on", ⟨("_law_went_on", none), "_law_went_on", "_law_went_on", defArgs (top 29), defBody (top 29), defScope (top 29), [], []⟩, f__law_went_on, ⟨["_law_wishes_here", "_law_dealing", "_law_asker", "_law_thing", "_law_counts", "_law_left", "_law_had"], ["_law_wishes_here", "_law_dealing", "_law_asker", "_law_thing", "_law_counts", "_law_left"]⟩⟩
def d__law_due : Df := ⟨"_law_due", ⟨("_law_due", none), "_law_due", "_law_due", defArgs (top 30), defBody (top 30), defScope (top 30), [], []⟩, f__law_due, ⟨["_law_wishes_here", "_law_dealing", "_law_asker", "_law_thing"], ["_law_wishes_here", "_law_dealing", "_law_asker", "_law_thing"]⟩⟩
def d_law : Df := ⟨"law", ⟨("law", none), "law", "law", defArgs (top 31), defBody (top 31), defScope (top 31), [], []⟩, f_law, ⟨["_law_script", "_law_wishes_here", "_law_dealing", "_law_at", "_law_cell", "_law_many", "_law_digits", "_law_asker", "_law_thing", "_law_counts", "_law_left", "_law_behind", "_law_due_here", "_law_ranks", "_law_told"], ["_law_script"]⟩⟩
def ds : List Df := [d_is_whole, d_need_row, d_is_many, d_is_thing, d_are_ranks, d_look_at_wishes, d_rank_in, d_rank_of, d_longest, d_is_row_of, d_rank_among, d_what_is_wrong, d_counts_of, d_copies_left, d__law_cell_at, d__law_numbers, d__law_wishes, d__law_place, d__law_went_on, d__law_due, d_law]
theorem p_is_whole : d_is_whole.plain := ⟨rfl, rfl, rfl, fun _ _ _ _ _ _ us hl => match us, hl with | [_], _ => rfl⟩
theorem g_is_whole : d_is_whole.good (ds.map Df.nm) = true := by kernel_rfl
theorem p_need_row : d_need_row.plain := ⟨rfl, rfl, rfl, fun _ _ _ _ _ _ us hl => match us, hl with | [_, _, _], _ => rfl⟩
theorem g_need_row : d_need_row.good (ds.map Df.nm) = true := by kernel_rfl
theorem p_is_many : d_is_many.plain := ⟨rfl, rfl, rfl, fun _ _ _ _ _ _ us hl => match us, hl with | [_], _ => rfl⟩
theorem g_is_many : d_is_many.good (ds.map Df.nm) = true := by kernel_rfl
theorem p_is_thing : d_is_thing.plain := ⟨rfl, rfl, rfl, fun _ _ _ _ _ _ us hl => match us, hl with | [_, _], _ => rfl⟩
theorem g_is_thing : d_is_thing.good (ds.map Df.nm) = true := by kernel_rfl
theorem p_are_ranks : d_are_ranks.plain := ⟨rfl, rfl, rfl, fun _ _ _ _ _ _ us hl => match us, hl with | [_, _], _ => rfl⟩
theorem g_are_ranks : d_are_ranks.good (ds.map Df.nm) = true := by kernel_rfl
theorem p_look_at_wishes : d_look_at_wishes.plain := ⟨rfl, rfl, rfl, fun _ _ _ _ _ _ us hl => match us, hl with | [_], _ => rfl⟩
theorem g_look_at_wishes : d_look_at_wishes.good (ds.map Df.nm) = true := by kernel_rfl
theorem p_rank_in : d_rank_in.plain := ⟨rfl, rfl, rfl, fun _ _ _ _ _ _ us hl => match us, hl with | [_, _], _ => rfl⟩
theorem g_rank_in : d_rank_in.good (ds.map Df.nm) = true := by kernel_rfl
theorem p_rank_of : d_rank_of.plain := ⟨rfl, rfl, rfl, fun _ _ _ _ _ _ us hl => match us, hl with | [_, _, _], _ => rfl⟩
theorem g_rank_of : d_rank_of.good (ds.map Df.nm) = true := by kernel_rfl
theorem p_longest : d_longest.plain := ⟨rfl, rfl, rfl, fun _ _ _ _ _ _ us hl => match us, hl with | [_], _ => rfl⟩
theorem g_longest : d_longest.good (ds.map Df.nm) = true := by kernel_rfl
theorem p_is_row_of : d_is_row_of.plain := ⟨rfl, rfl, rfl, fun _ _ _ _ _ _ us hl => match us, hl with | [_, _], _ => rfl⟩
theorem g_is_row_of : d_is_row_of.good (ds.map Df.nm) = true := by kernel_rfl
theorem p_rank_among : d_rank_among.plain := ⟨rfl, rfl, rfl, fun _ _ _ _ _ _ us hl => match us, hl with | [_, _], _ => rfl⟩
theorem g_rank_among : d_rank_among.good (ds.map Df.nm) = true := by kernel_rfl
theorem p_what_is_wrong : d_what_is_wrong.plain := ⟨rfl, rfl, rfl, fun _ _ _ _ _ _ us hl => match us, hl with | [_, _], _ => rfl⟩
theorem g_what_is_wrong : d_what_is_wrong.good (ds.map Df.nm) = true := by kernel_rfl
theorem p_counts_of : d_counts_of.plain := ⟨rfl, rfl, rfl, fun _ _ _ _ _ _ us hl => match us, hl with | [_, _], _ => rfl⟩
theorem g_counts_of : d_counts_of.good (ds.map Df.nm) = true := by kernel_rfl
theorem p_copies_left : d_copies_left.plain := ⟨rfl, rfl, rfl, fun _ _ _ _ _ _ us hl => match us, hl with | [_, _], _ => rfl⟩
theorem g_copies_left : d_copies_left.good (ds.map Df.nm) = true := by kernel_rfl
theorem p__law_cell_at : d__law_cell_at.plain := ⟨rfl, rfl, rfl, fun _ _ _ _ _ _ us hl => match us, hl with | [_, _], _ => rfl⟩
theorem g__law_cell_at : d__law_cell_at.good (ds.map Df.nm) = true := by kernel_rfl
theorem p__law_numbers : d__law_numbers.plain := ⟨rfl, rfl, rfl, fun _ _ _ _ _ _ us hl => match us, hl with | [_, _, _], _ => rfl⟩
theorem g__law_numbers : d__law_numbers.good (ds.map Df.nm) = true := by kernel_rfl
theorem p__law_wishes : d__law_wishes.plain := ⟨rfl, rfl, rfl, fun _ _ _ _ _ _ us hl => match us, hl with | [_, _, _, _, _], _ => rfl⟩
theorem g__law_wishes : d__law_wishes.good (ds.map Df.nm) = true := by kernel_rfl
theorem p__law_place : d__law_place.plain := ⟨rfl, rfl, rfl, fun _ _ _ _ _ _ us hl => match us, hl with | [_, _, _], _ => rfl⟩
theorem g__law_place : d__law_place.good (ds.map Df.nm) = true := by kernel_rfl
theorem p__law_went_on : d__law_went_on.plain := ⟨rfl, rfl, rfl, fun _ _ _ _ _ _ us hl => match us, hl with | [_, _, _, _, _, _], _ => rfl⟩
theorem g__law_went_on : d__law_went_on.good (ds.map Df.nm) = true := by kernel_rfl
theorem p__law_due : d__law_due.plain := ⟨rfl, rfl, rfl, fun _ _ _ _ _ _ us hl => match us, hl with | [_, _, _, _], _ => rfl⟩
theorem g__law_due : d__law_due.good (ds.map Df.nm) = true := by kernel_rfl
theorem p_law : d_law.plain := ⟨rfl, rfl, rfl, fun _ _ _ _ _ _ us hl => match us, hl with | [_], _ => rfl⟩
theorem g_law : d_law.good (ds.map Df.nm) = true := by kernel_rfl
theorem txt : Txt ds cs := ⟨fun e he => by
  simp only [ds, List.mem_cons, List.not_mem_nil, or_false] at he
  rcases he with rfl | rfl | rfl | rfl | rfl | rfl | rfl | rfl | rfl | rfl | rfl | rfl | rfl | rfl | rfl | rfl | rfl | rfl | rfl | rfl | rfl
  · exact g_is_whole
  · exact g_need_row
  · exact g_is_many
  · exact g_is_thing
  · exact g_are_ranks
  · exact g_look_at_wishes
  · exact g_rank_in
  · exact g_rank_of
  · exact g_longest
  · exact g_is_row_of
  · exact g_rank_among
  · exact g_what_is_wrong
  · exact g_counts_of
  · exact g_copies_left
  · exact g__law_cell_at
  · exact g__law_numbers
  · exact g__law_wishes
  · exact g__law_place
  · exact g__law_went_on
  · exact g__law_due
  · exact g_law
  , fun e he => by
  simp only [ds, List.mem_cons, List.not_mem_nil, or_false] at he
  rcases he with rfl | rfl | rfl | rfl | rfl | rfl | rfl | rfl | rfl | rfl | rfl | rfl | rfl | rfl | rfl | rfl | rfl | rfl | rfl | rfl | rfl
  · exact p_is_whole
  · exact p_need_row
  · exact p_is_many
  · exact p_is_thing
  · exact p_are_ranks
  · exact p_look_at_wishes
  · exact p_rank_in
  · exact p_rank_of
  · exact p_longest
  · exact p_is_row_of
  · exact p_rank_among
  · exact p_what_is_wrong
  · exact p_counts_of
  · exact p_copies_left
  · exact p__law_cell_at
  · exact p__law_numbers
  · exact p__law_wishes
  · exact p__law_place
  · exact p__law_went_on
  · exact p__law_due
  · exact p_law
  , by decide +kernel⟩
def loose0 : List PySem.Str := ["MOST_THINGS", "MOST_COPIES", "MOST_ASKERS", "MOST_RANKS", "is_whole", "DealError", "NoWishes", "need_row", "is_many", "is_thing", "are_ranks", "look_at_wishes", "rank_in", "rank_of", "longest", "is_row_of", "rank_among", "what_is_wrong", "counts_of", "copies_left", "_law_cell_at", "_law_numbers", "_law_wishes", "_law_place", "_law_went_on", "_law_due"]
def loose : List PySem.Str := loose0
def lawAt : Nat := 31
end Kx

open PySem
namespace Kx
open Tv
theorem lk : PLook (tblP ds) (tblC cs) := ⟨rfl, rfl, rfl, rfl, rfl, rfl, rfl, rfl, rfl, rfl⟩
/-- what is left of each thing -/
def leftOf (cw : List Int) (ws : List (Option Int)) : List Int := (List.range cw.length).map fun (j : Nat) => cw.getD j 0 - (dealt ws (j : Int) : Int)
theorem ev_left {k : Nat} {cw : List Int} {ls : List (List (List Int))} {ws : List (Option Int)} (ok : Okw cw ls) : evF (tblP ds) (tblC cs) (k + 5) "copies_left" [wishD cw ls, dealD ws] = .ret (.l (vis (leftOf cw ws))) := by
  rw [evF_at (fn := f_copies_left) rfl rfl]
  have lw := ev_lookW (k := k) lk ok
  have h6 := ok.c2
  have i0 : ixT (.v (wishD cw ls)) (.v (.int 0)) = some (.v (.lst (cw.map .int))) := rfl
  have hz : ((cw.map D.int).zipIdx.map fun p => D.tup [.int p.2, p.1]) = (List.range cw.length).map fun (j : Nat) => D.tup [.int (j : Int), .int (cw.getD j 0)] := by
    apply List.ext_getElem?
    intro j
    rw [List.getElem?_map, List.getElem?_map, List.getElem?_zipIdx, List.getElem?_map]
    by_cases c : j < cw.length
    · rw [List.getElem?_range c, List.getElem?_eq_getElem c]
      simp [List.getD_eq_getElem?_getD, List.getElem?_eq_getElem c]
    · rw [List.getElem?_eq_none (by omega), List.getElem?_eq_none (by rw [List.length_range]; omega)]; rfl
  have lc : lcL (lcS (evF (tblP ds) (tblC cs) (k + 4)) (tblC cs) [2, 3] (.tp [2, 3]) .no f_copies_left_e1) ((List.range cw.length).map fun (j : Nat) => D.tup [.int (j : Int), .int (cw.getD j 0)]) [some (.v (wishD cw ls)), some (.v (dealD ws)), none, none] [] = .ok (vis (leftOf cw ws)) [some (.v (wishD cw ls)), some (.v (dealD ws)), none, none] := by
    have e : vis (leftOf cw ws) = (List.range cw.length).map fun (j : Nat) => T.v (.int (cw.getD j 0 - (dealt ws (j : Int) : Int))) := by simp [vis, vi, leftOf, List.map_map, Function.comp_def]
    rw [e]
    refine lcL_mapM fun j _ => ?_
    have ct := count_deal (ws := ws) (x := (j : Int))
    obtain ⟨x, hx⟩ : ∃ x, x = cw.getD j 0 := ⟨_, rfl⟩
    obtain ⟨wD, hwD⟩ : ∃ wD, wD = ws.map optD := ⟨_, rfl⟩
    have hwD2 : dealD ws = .lst wD := by rw [hwD]
    rw [hwD2] at ct
    obtain ⟨w, hw⟩ : ∃ w, w = wishD cw ls := ⟨_, rfl⟩
    rw [hwD2, ← hx, ← hw]
    have mt : mTy .count (.v (.lst wD)) = true := rfl
    simp -implicitDefEqProofs [lcS, f_copies_left_e1]
    simp -implicitDefEqProofs [ct, mt]
  have nb := noBs_vis (leftOf cw ws)
  obtain ⟨cD, hcD⟩ : ∃ cD, cD = cw.map D.int := ⟨_, rfl⟩
  rw [← hcD] at i0 hz
  have hl : ((List.range cw.length).map fun (j : Nat) => D.tup [.int (j : Int), .int (cw.getD j 0)]).length ≤ 16777216 := by rw [List.length_map, List.length_range]; omega
  obtain ⟨rs, hrs⟩ : ∃ rs, rs = (List.range cw.length).map fun (j : Nat) => D.tup [.int (j : Int), .int (cw.getD j 0)] := ⟨_, rfl⟩
  rw [← hrs] at hz lc hl
  obtain ⟨v, hv⟩ : ∃ v, v = vis (leftOf cw ws) := ⟨_, rfl⟩
  rw [← hv] at lc nb ⊢
  obtain ⟨w, hw⟩ : ∃ w, w = wishD cw ls := ⟨_, rfl⟩
  obtain ⟨wD, hwD⟩ : ∃ wD, wD = dealD ws := ⟨_, rfl⟩
  rw [← hw] at lw i0 lc ⊢
  rw [← hwD] at lc ⊢
  simp -implicitDefEqProofs [f_copies_left, env0]
  simp -implicitDefEqProofs [lw, i0, hz, hl, lc, nb]
/-- one more at a place -/
def addAt (xs : List Int) (j : Nat) : List Int := xs.set j (xs.getD j 0 + 1)
/-- where an asker's thing is counted -/
def placeIn (m : Nat) (rs : List (List Int)) : Option Int → Nat
  | none => m
  | some t => (rankIn rs t - 1).toNat
theorem cnt_step {k : Nat} {cw : List Int} {ls : List (List (List Int))} {rs : List (List Int)} {xs : List Int} {i : Nat} {t : Int} {a1 a3 a4 : Option T} (hi : ls[i]? = some rs) (h0 : 1 ≤ rankIn rs t) (h1 : rankIn rs t ≤ xs.length) :
    forS (evF (tblP ds) (tblC cs) (k + 1)) (tblC cs) (.tp [3, 4]) f_counts_of_b1 (D.tup [.int (i : Int), .int t]) [some (.v (wishD cw ls)), a1, some (.l (vis xs)), a3, a4] =
      .nx [some (.v (wishD cw ls)), a1, some (.l (vis (addAt xs (placeIn 0 rs (some t))))), some (.v (.int (i : Int))), some (.v (.int t))] := by
  have ra := ev_rank_among (P := tblP ds) (con := tblC cs) (k := k) rfl (rs := rs) (x := t)
  have i1 : ixT (.v (wishD cw ls)) (.v (.int 1)) = some (.v (.lst (ls.map ranksD))) := rfl
  have i2 : ixT (.v (.lst (ls.map ranksD))) (.v (.int (i : Int))) = some (.v (ranksD rs)) := ix_lst (by simp [hi])
  obtain ⟨z, hz⟩ : ∃ z, z = rankIn rs t := ⟨_, rfl⟩
  rw [← hz] at ra h0 h1
  have hj : (z - 1).toNat < xs.length := by omega
  have hx : xs[(z - 1).toNat]? = some (xs.getD (z - 1).toNat 0) := by rw [List.getD_eq_getElem?_getD, List.getElem?_eq_getElem hj]; rfl
  have gi := getI_vis (xs := xs) (j := z - 1) (by omega) hx
  have au := augT_vis (xs := xs) (j := z - 1) (x := xs.getD (z - 1).toNat 0) (d := 1) (by omega) (by omega)
  have e : addAt xs (placeIn 0 rs (some t)) = xs.set (z - 1).toNat (xs.getD (z - 1).toNat 0 + 1) := by rw [hz]; rfl
  rw [e]
  obtain ⟨x, hxx⟩ : ∃ x, x = xs.getD (z - 1).toNat 0 := ⟨_, rfl⟩
  rw [← hxx] at gi au ⊢
  obtain ⟨vx, hvx⟩ : ∃ vx, vx = vis xs := ⟨_, rfl⟩
  obtain ⟨vy, hvy⟩ : ∃ vy, vy = vis (xs.set (z - 1).toNat (x + 1)) := ⟨_, rfl⟩
  rw [← hvx] at gi au ⊢
  rw [← hvy] at au ⊢
  obtain ⟨w, hw⟩ : ∃ w, w = wishD cw ls := ⟨_, rfl⟩
  obtain ⟨rd, hrd⟩ : ∃ rd, rd = ranksD rs := ⟨_, rfl⟩
  rw [← hw] at i1 ⊢
  rw [← hrd] at i2 ra
  simp -implicitDefEqProofs [forS, f_counts_of_b1, D.isNon]
  simp -implicitDefEqProofs [i1, i2, ra, gi, au]
theorem ixN_last {n : Nat} (h : 0 < n) : L2.ixN n (-1) = some (n - 1) := by
  unfold L2.ixN
  rw [if_neg (by omega), if_pos (by omega)]
  congr 1
  omega
theorem cnt_none {cl : Calls} {xs : List Int} {i : Nat} {a0 a1 a3 a4 : Option T} (h : 0 < xs.length) :
    forS cl (tblC cs) (.tp [3, 4]) f_counts_of_b1 (D.tup [.int (i : Int), .non]) [a0, a1, some (.l (vis xs)), a3, a4] =
      .nx [a0, a1, some (.l (vis (addAt xs (xs.length - 1)))), some (.v (.int (i : Int))), some (.v .non)] := by
  have hl : (vis xs).length = xs.length := by unfold vis; rw [List.length_map]
  have e := ixN_last (n := (vis xs).length) (by omega)
  rw [hl] at e
  have hx : xs[xs.length - 1]? = some (xs.getD (xs.length - 1) 0) := by rw [List.getD_eq_getElem?_getD, List.getElem?_eq_getElem (by omega)]; rfl
  have g : (vis xs)[xs.length - 1]? = some (.v (.int (xs.getD (xs.length - 1) 0))) := by unfold vis; rw [List.getElem?_map, hx]; rfl
  have gi : getI (some (some (.l (vis xs)))) (.v (.int (-1))) = some (xs.getD (xs.length - 1) 0) := by
    simp only [getI, ixT1, hl, e, Option.bind_some, g]
  have au : augT .add (some (some (.l (vis xs)))) (.v (.int (-1))) (xs.getD (xs.length - 1) 0) (.v (.int 1)) = some (.l (vis (addAt xs (xs.length - 1)))) := by
    have g2 : augI .add (xs.getD (xs.length - 1) 0) (.v (.int 1)) = some (xs.getD (xs.length - 1) 0 + 1) := rfl
    have s : vis (addAt xs (xs.length - 1)) = (vis xs).set (xs.length - 1) (.v (.int (xs.getD (xs.length - 1) 0 + 1))) := by unfold addAt vis; rw [List.map_set]
    simp only [augT, ixT1, hl, e, Option.bind_some, g2, Option.map_some, s]
  obtain ⟨x, hxx⟩ : ∃ x, x = xs.getD (xs.length - 1) 0 := ⟨_, rfl⟩
  obtain ⟨vx, hvx⟩ : ∃ vx, vx = vis xs := ⟨_, rfl⟩
  obtain ⟨vy, hvy⟩ : ∃ vy, vy = vis (addAt xs (xs.length - 1)) := ⟨_, rfl⟩
  rw [← hxx, ← hvx] at gi au
  rw [← hvy] at au ⊢
  rw [← hvx]
  simp -implicitDefEqProofs [forS, f_counts_of_b1, D.isNon]
  simp -implicitDefEqProofs [gi, au]
theorem rank_in_rg {n : Nat} {rs : List (List Int)} {t : Int} (h : OkR n rs) (ht : t ∈ rs.flatten) : 1 ≤ rankIn rs t ∧ rankIn rs t ≤ rs.length := by
  obtain ⟨row, hm, hx⟩ := List.mem_flatten.mp ht
  obtain ⟨r, hr⟩ := List.mem_iff_getElem?.mp hm
  have e := rankGo_at (n := 0) h.nd r row hr hx
  have hl := (List.getElem?_eq_some_iff.mp hr).1
  unfold rankIn
  rw [e]
  push_cast
  omega
theorem addAt_len (xs : List Int) (j : Nat) : (addAt xs j).length = xs.length := by unfold addAt; rw [List.length_set]
def cntGo (ls : List (List (List Int))) : Nat → List (Option Int) → List Int → List Int
  | _, [], xs => xs
  | i, o :: ws, xs => cntGo ls (i + 1) ws (addAt xs (placeIn (xs.length - 1) (ls.getD i []) o))
theorem cnt_loop {k : Nat} {cw : List Int} {ls : List (List (List Int))} {a1 : Option T} (ok : Okw cw ls) : ∀ (ws : List (Option Int)) (n : Nat) (xs : List Int) (a3 a4 : Option T), n + ws.length ≤ ls.length →
    (∀ (i : Nat) (t : Int) (rs : List (List Int)), ws[i]? = some (some t) → ls[n + i]? = some rs → t ∈ rs.flatten) → 0 < xs.length → (∀ rs ∈ ls, rs.length ≤ xs.length) →
    ∃ b3 b4, forL (forS (evF (tblP ds) (tblC cs) (k + 1)) (tblC cs) (.tp [3, 4]) f_counts_of_b1) (((ws.map optD).zipIdx n).map fun p => D.tup [.int p.2, p.1]) [some (.v (wishD cw ls)), a1, some (.l (vis xs)), a3, a4] =
      .nx [some (.v (wishD cw ls)), a1, some (.l (vis (cntGo ls n ws xs))), b3, b4]
  | [], n, xs, a3, a4, _, _, _, _ => ⟨a3, a4, rfl⟩
  | o :: ws, n, xs, a3, a4, h1, h2, h3, h4 => by
    rw [List.length_cons] at h1
    have hn : n < ls.length := by omega
    rw [List.map_cons, List.zipIdx_cons, List.map_cons]
    have e : ∃ c3 c4, forS (evF (tblP ds) (tblC cs) (k + 1)) (tblC cs) (.tp [3, 4]) f_counts_of_b1 (D.tup [.int (n : Int), optD o]) [some (.v (wishD cw ls)), a1, some (.l (vis xs)), a3, a4] = .nx [some (.v (wishD cw ls)), a1, some (.l (vis (addAt xs (placeIn (xs.length - 1) (ls.getD n []) o)))), c3, c4] := by
      cases o with
      | none => exact ⟨_, _, cnt_none h3⟩
      | some t =>
        have hg : ls.getD n [] = ls[n] := by rw [List.getD_eq_getElem?_getD, List.getElem?_eq_getElem hn]; rfl
        have hm := h2 0 t ls[n] rfl (by rw [Nat.add_zero, List.getElem?_eq_getElem hn])
        have hr := rank_in_rg (ok.lr ls[n] (List.getElem_mem hn)) hm
        have hl := h4 ls[n] (List.getElem_mem hn)
        rw [hg]
        exact ⟨_, _, cnt_step (List.getElem?_eq_getElem hn) hr.1 (by omega)⟩
    obtain ⟨c3, c4, e⟩ := e
    obtain ⟨b3, b4, ih⟩ := cnt_loop (k := k) (a1 := a1) ok ws (n + 1) (addAt xs (placeIn (xs.length - 1) (ls.getD n []) o)) c3 c4 (by omega) (fun i t rs hi hr => h2 (i + 1) t rs (by simpa using hi) (by rw [show n + (i + 1) = n + 1 + i by omega]; exact hr)) (by rw [addAt_len]; exact h3) (fun rs h => by rw [addAt_len]; exact h4 rs h)
    refine ⟨b3, b4, ?_⟩
    show forL _ (D.tup [.int (n : Int), optD o] :: _) _ = _
    rw [forL_nx e, ih]
    rfl
theorem pr : PRank (tblP ds) (tblC cs) := { look := rfl, need := rfl, many := rfl, ranks := rfl, thing := rfl, whole := rfl, mt := rfl, mc := rfl, ma := rfl, mr := rfl, rin := rfl, rof := rfl, lon := rfl }
def longL (ls : List (List (List Int))) : Nat := match ls.map fun rs => ((rs.length : Nat) : Int) with
  | a :: r => (maxL a r).toNat
  | [] => 0
theorem ev_long {k : Nat} {cw : List Int} {ls : List (List (List Int))} (ok : Okw cw ls) : evF (tblP ds) (tblC cs) (k + 5) "longest" [wishD cw ls] = .ret (.v (.int (longL ls : Nat))) ∧ (∀ rs ∈ ls, rs.length ≤ longL ls) ∧ longL ls ≤ 5 := by
  obtain ⟨a, r, h1, h2⟩ := ev_longest (k := k) pr ok
  obtain ⟨m1, m2, m3⟩ := maxL_spec r a
  have hmem : ∀ y ∈ a :: r, 0 ≤ y ∧ y ≤ 5 := fun y hy => by
    rw [← h1] at hy
    obtain ⟨rs, hrs, rfl⟩ := List.mem_map.mp hy
    have := (ok.lr rs hrs).len
    omega
  have hM : maxL a r ∈ a :: r := by
    rcases m1 with e | e
    · rw [e]; simp
    · simp [e]
  have hr := hmem _ hM
  have hl : ((longL ls : Nat) : Int) = maxL a r := by
    unfold longL
    rw [h1]
    show (((maxL a r).toNat : Nat) : Int) = maxL a r
    omega
  refine ⟨by rw [h2, hl], fun rs h => ?_, by omega⟩
  have hy : ((rs.length : Nat) : Int) ∈ a :: r := by rw [← h1]; exact List.mem_map.mpr ⟨rs, h, rfl⟩
  rcases List.mem_cons.mp hy with e | e
  · omega
  · have := m3 _ e; omega
theorem ev_counts {k : Nat} {cw : List Int} {ls : List (List (List Int))} {ws : List (Option Int)} (ok : Okw cw ls) (hl : ws.length ≤ ls.length) (hw : ∀ (i : Nat) (t : Int) (rs : List (List Int)), ws[i]? = some (some t) → ls[i]? = some rs → t ∈ rs.flatten) :
    evF (tblP ds) (tblC cs) (k + 6) "counts_of" [wishD cw ls, dealD ws] = .ret (.l (vis (cntGo ls 0 ws (List.replicate (longL ls + 1) 0)))) := by
  obtain ⟨lg, hm, h5⟩ := ev_long (k := k) ok
  obtain ⟨b3, b4, lp⟩ := cnt_loop (k := k + 4) (a1 := some (.v (dealD ws))) ok ws 0 (List.replicate (longL ls + 1) 0) none none (by omega) (fun i t rs h1 h2 => hw i t rs h1 (by simpa using h2)) (by rw [List.length_replicate]; omega) (fun rs h => by rw [List.length_replicate]; have := hm rs h; omega)
  have mul := mulL_ok (ts := [T.v (.int 0)]) (ds := [.int 0]) (k := longL ls + 1) (by simp [asF, T.ers]) (by simp; omega) (by omega)
  have mul2 : mulT (.l [T.v (.int 0)]) (.v (.int ((longL ls : Int) + 1))) = some (.l (vis (List.replicate (longL ls + 1) 0))) := by
    have e : ((longL ls + 1 : Nat) : Int) = (longL ls : Int) + 1 := by push_cast; rfl
    rw [← e, mul]
    simp [vis, vi]
  have nb := noBs_vis (cntGo ls 0 ws (List.replicate (longL ls + 1) 0))
  have nb2 := noBs_vis (List.replicate (longL ls + 1) 0)
  obtain ⟨v0, hv0⟩ : ∃ v, v = vis (List.replicate (longL ls + 1) 0) := ⟨_, rfl⟩
  obtain ⟨v1, hv1⟩ : ∃ v, v = vis (cntGo ls 0 ws (List.replicate (longL ls + 1) 0)) := ⟨_, rfl⟩
  rw [← hv0] at mul2 lp nb2
  rw [← hv1] at lp nb ⊢
  obtain ⟨w, hww⟩ : ∃ w, w = wishD cw ls := ⟨_, rfl⟩
  obtain ⟨wD, hwD⟩ : ∃ wD, wD = ws.map optD := ⟨_, rfl⟩
  have hwD2 : dealD ws = .lst wD := by rw [hwD]
  rw [← hww] at lg lp ⊢
  rw [← hwD, hwD2] at lp
  rw [hwD2]
  obtain ⟨m, hmm⟩ : ∃ m, m = longL ls := ⟨_, rfl⟩
  rw [← hmm] at lg mul2
  rw [evF_at (fn := f_counts_of) rfl rfl]
  simp -implicitDefEqProofs [f_counts_of, env0]
  simp -implicitDefEqProofs [lg, mul2, nb2, lp, nb]

/-! ### what is wrong, all answers -/
def badAt (rs : List (List Int)) : Option Int → Bool
  | none => false
  | some t => decide (rankIn rs t = 0)
def wishGo (ls : List (List (List Int))) : Nat → List (Option Int) → Option Nat
  | _, [] => none
  | n, o :: ws => if badAt (ls.getD n []) o = true then some n else wishGo ls (n + 1) ws
def overGo (ws : List (Option Int)) : Nat → List Int → Option Nat
  | _, [] => none
  | n, c :: cs => if c < (dealt ws (n : Int) : Int) then some n else overGo ws (n + 1) cs
theorem wish_loop {k : Nat} {ls : List (List (List Int))} {a0 a1 a2 : Option T} : ∀ (ws : List (Option Int)) (n : Nat) (b4 b5 : Option T), n + ws.length ≤ ls.length →
    ∃ c4 c5 Γ, forL (forS (evF (tblP ds) (tblC cs) (k + 1)) (tblC cs) (.tp [4, 5]) c_what_is_wrong_b1) (((ws.map optD).zipIdx n).map fun p => D.tup [.int p.2, p.1]) [a0, a1, a2, some (.v (.lst (ls.map ranksD))), b4, b5, none, none] =
      match wishGo ls n ws with
      | none => .nx [a0, a1, a2, some (.v (.lst (ls.map ranksD))), c4, c5, none, none]
      | some i => .rt (.tp [.v (.str [119, 105, 115, 104]), .v (.int (i : Int))]) Γ
  | [], n, b4, b5, _ => ⟨b4, b5, [], rfl⟩
  | o :: ws, n, b4, b5, h1 => by
    rw [List.length_cons] at h1
    have hn : n < ls.length := by omega
    have hg : ls.getD n [] = ls[n] := by rw [List.getD_eq_getElem?_getD, List.getElem?_eq_getElem hn]; rfl
    rw [List.map_cons, List.zipIdx_cons, List.map_cons]
    have ix : ixT (.v (.lst (ls.map ranksD))) (.v (.int (n : Int))) = some (.v (ranksD ls[n])) := ix_lst (by simp [List.getElem?_eq_getElem hn])
    obtain ⟨c4, c5, Γ, ih⟩ := wish_loop (k := k) (ls := ls) (a0 := a0) (a1 := a1) (a2 := a2) ws (n + 1) (some (.v (.int (n : Int)))) (some (.v (optD o))) (by omega)
    obtain ⟨lD, hlD⟩ : ∃ lD, lD = ls.map ranksD := ⟨_, rfl⟩
    rw [← hlD] at ix ih ⊢
    unfold wishGo
    rw [hg]
    cases o with
    | none =>
      have e : forS (evF (tblP ds) (tblC cs) (k + 1)) (tblC cs) (.tp [4, 5]) c_what_is_wrong_b1 (D.tup [.int (n : Int), optD none]) [a0, a1, a2, some (.v (.lst lD)), b4, b5, none, none] = .nx [a0, a1, a2, some (.v (.lst lD)), some (.v (.int (n : Int))), some (.v (optD none)), none, none] := by
        simp -implicitDefEqProofs [forS, c_what_is_wrong_b1, optD, D.isNon]
      refine ⟨c4, c5, Γ, ?_⟩
      rw [forL_nx e, ih]
      rfl
    | some t =>
      have ra := ev_rank_among (con := tblC cs) (P := tblP ds) (k := k) rfl (rs := ls[n]) (x := t)
      obtain ⟨z, hz⟩ : ∃ z, z = rankIn ls[n] t := ⟨_, rfl⟩
      have hb : badAt ls[n] (some t) = decide (z = 0) := by rw [hz]; rfl
      rw [hb]
      rw [← hz] at ra
      obtain ⟨rd, hrd⟩ : ∃ rd, rd = ranksD ls[n] := ⟨_, rfl⟩
      rw [← hrd] at ra ix
      by_cases c : z = 0
      · have e : forS (evF (tblP ds) (tblC cs) (k + 1)) (tblC cs) (.tp [4, 5]) c_what_is_wrong_b1 (D.tup [.int (n : Int), optD (some t)]) [a0, a1, a2, some (.v (.lst lD)), b4, b5, none, none] = .rt (.tp [.v (.str [119, 105, 115, 104]), .v (.int (n : Int))]) [a0, a1, a2, some (.v (.lst lD)), none, some (.v (.int t)), none, none] := by
          simp -implicitDefEqProofs [forS, c_what_is_wrong_b1, optD, D.isNon]
          simp -implicitDefEqProofs [ix, ra, c]
        refine ⟨c4, c5, [a0, a1, a2, some (.v (.lst lD)), none, some (.v (.int t)), none, none], ?_⟩
        rw [forL_rt e, if_pos (by simp [c])]
      · have e : forS (evF (tblP ds) (tblC cs) (k + 1)) (tblC cs) (.tp [4, 5]) c_what_is_wrong_b1 (D.tup [.int (n : Int), optD (some t)]) [a0, a1, a2, some (.v (.lst lD)), b4, b5, none, none] = .nx [a0, a1, a2, some (.v (.lst lD)), some (.v (.int (n : Int))), some (.v (optD (some t))), none, none] := by
          simp -implicitDefEqProofs [forS, c_what_is_wrong_b1, optD, D.isNon]
          simp -implicitDefEqProofs [ix, ra, c]
        refine ⟨c4, c5, Γ, ?_⟩
        rw [forL_nx e, ih, if_neg (by simp [c])]
theorem over_loop {k : Nat} {ws : List (Option Int)} {a0 a2 a3 a4 a5 : Option T} : ∀ (cw : List Int) (n : Nat) (b6 b7 : Option T),
    ∃ Γ, forL (forS (evF (tblP ds) (tblC cs) k) (tblC cs) (.tp [6, 7]) c_what_is_wrong_b2) (((cw.map D.int).zipIdx n).map fun p => D.tup [.int p.2, p.1]) [a0, some (.v (dealD ws)), a2, a3, a4, a5, b6, b7] =
      match overGo ws n cw with
      | none => .nx Γ
      | some i => .rt (.tp [.v (.str [99, 111, 112, 105, 101, 115]), .v (.int (i : Int))]) Γ
  | [], n, b6, b7 => ⟨_, rfl⟩
  | c :: cw, n, b6, b7 => by
    rw [List.map_cons, List.zipIdx_cons, List.map_cons]
    have ct := count_deal (ws := ws) (x := (n : Int))
    obtain ⟨Γ, ih⟩ := over_loop (k := k) (ws := ws) (a0 := a0) (a2 := a2) (a3 := a3) (a4 := a4) (a5 := a5) cw (n + 1) (some (.v (.int (n : Int)))) (some (.v (.int c)))
    unfold overGo
    obtain ⟨wD, hwD⟩ : ∃ wD, wD = ws.map optD := ⟨_, rfl⟩
    have hwD2 : dealD ws = .lst wD := by rw [hwD]
    rw [hwD2] at ct ih ⊢
    have mt : mTy .count (.v (.lst wD)) = true := rfl
    by_cases h : c < (dealt ws (n : Int) : Int)
    · have e : forS (evF (tblP ds) (tblC cs) k) (tblC cs) (.tp [6, 7]) c_what_is_wrong_b2 (D.tup [.int (n : Int), .int c]) [a0, some (.v (.lst wD)), a2, a3, a4, a5, b6, b7] = .rt (.tp [.v (.str [99, 111, 112, 105, 101, 115]), .v (.int (n : Int))]) [a0, some (.v (.lst wD)), a2, a3, a4, a5, none, some (.v (.int c))] := by
        simp -implicitDefEqProofs [forS, c_what_is_wrong_b2]
        simp -implicitDefEqProofs [ct, mt, h]
      refine ⟨[a0, some (.v (.lst wD)), a2, a3, a4, a5, none, some (.v (.int c))], ?_⟩
      rw [forL_rt e, if_pos h]
    · have e : forS (evF (tblP ds) (tblC cs) k) (tblC cs) (.tp [6, 7]) c_what_is_wrong_b2 (D.tup [.int (n : Int), .int c]) [a0, some (.v (.lst wD)), a2, a3, a4, a5, b6, b7] = .nx [a0, some (.v (.lst wD)), a2, a3, a4, a5, some (.v (.int (n : Int))), some (.v (.int c))] := by
        simp -implicitDefEqProofs [forS, c_what_is_wrong_b2]
        simp -implicitDefEqProofs [ct, mt, h]
      refine ⟨Γ, ?_⟩
      rw [forL_nx e, ih, if_neg h]
def wrongT (cw : List Int) (ls : List (List (List Int))) (ws : List (Option Int)) : T := match wishGo ls 0 ws with
  | some i => .tp [.v (.str [119, 105, 115, 104]), .v (.int (i : Int))]
  | none => match overGo ws 0 cw with
    | some i => .tp [.v (.str [99, 111, 112, 105, 101, 115]), .v (.int (i : Int))]
    | none => .v .non
theorem ev_wrongA {k : Nat} {cw : List Int} {ls : List (List (List Int))} {ws : List (Option Int)} (ok : Okw cw ls) (hl : ws.length = ls.length) :
    evF (tblP ds) (tblC cs) (k + 5) "what_is_wrong" [wishD cw ls, dealD ws] = .ret (wrongT cw ls ws) := by
  have h7 := ok.l2
  have lw := ev_lookW (k := k) lk ok
  have rw1 := ev_is_row_of (P := tblP ds) (con := tblC cs) (k := k + 2) rfl rfl (ws := ws) (n := ls.length) (by omega)
  rw [decide_eq_true hl] at rw1
  obtain ⟨c4, c5, Γ1, l1⟩ := wish_loop (k := k + 3) (ls := ls) (a0 := some (.v (wishD cw ls))) (a1 := some (.v (dealD ws))) (a2 := some (.v (.lst (cw.map .int)))) ws 0 none none (by omega)
  obtain ⟨Γ2, l2⟩ := over_loop (k := k + 4) (ws := ws) (a0 := some (.v (wishD cw ls))) (a2 := some (.v (.lst (cw.map .int)))) (a3 := some (.v (.lst (ls.map ranksD)))) (a4 := c4) (a5 := c5) cw 0 none none
  have sd : seqD (wishD cw ls) = some [.lst (cw.map .int), .lst (ls.map ranksD)] := rfl
  have hll : (ls.map ranksD).length = ls.length := by rw [List.length_map]
  obtain ⟨w, hw⟩ : ∃ w, w = wishD cw ls := ⟨_, rfl⟩
  obtain ⟨lD, hlD⟩ : ∃ lD, lD = ls.map ranksD := ⟨_, rfl⟩
  obtain ⟨cD, hcD⟩ : ∃ cD, cD = cw.map D.int := ⟨_, rfl⟩
  obtain ⟨wD, hwD⟩ : ∃ wD, wD = ws.map optD := ⟨_, rfl⟩
  have hwD2 : dealD ws = .lst wD := by rw [hwD]
  rw [evF_at (fn := f_what_is_wrong) rfl rfl, hwD2]
  rw [hwD2] at rw1 l1 l2
  rw [← hw] at lw l1 l2 sd ⊢
  rw [← hlD] at hll l1 l2 sd
  rw [← hcD] at l1 l2 sd
  rw [← hwD] at l1
  simp -implicitDefEqProofs [c_what_is_wrong, env0]
  simp -implicitDefEqProofs [lw, sd]
  simp -implicitDefEqProofs [hll, rw1]
  unfold wrongT
  cases e1 : wishGo ls 0 ws with
  | some i =>
    rw [e1] at l1
    simp -implicitDefEqProofs at l1
    simp -implicitDefEqProofs [l1]
  | none =>
    rw [e1] at l1
    simp -implicitDefEqProofs at l1
    cases e2 : overGo ws 0 cw with
    | some i =>
      rw [e2] at l2
      simp -implicitDefEqProofs at l2
      simp -implicitDefEqProofs [l1, l2]
    | none =>
      rw [e2] at l2
      simp -implicitDefEqProofs at l2
      simp -implicitDefEqProofs [l1, l2]

/-! ### an asker's thing changed -/
theorem wishGo_one {ls : List (List (List Int))} {a : Nat} : ∀ (ws : List (Option Int)) (n : Nat), (∀ (i : Nat) (o : Option Int), ws[i]? = some o → n + i ≠ a → badAt (ls.getD (n + i) []) o = false) →
    wishGo ls n ws = if n ≤ a ∧ (match ws[a - n]? with | some o => badAt (ls.getD a []) o | none => false) = true then some a else none
  | [], n, _ => by simp [wishGo]
  | o :: ws, n, h => by
    unfold wishGo
    by_cases e : n = a
    · subst e
      have ih := wishGo_one (ls := ls) (a := n) ws (n + 1) fun i o ho hn => by
        have := h (i + 1) o (by simpa using ho) (by omega)
        rw [show n + 1 + i = n + (i + 1) by omega]; exact this
      rw [ih]
      have f : ¬ (n + 1 ≤ n) := by omega
      simp [f]
    · have h0 := h 0 o rfl (by omega)
      rw [Nat.add_zero] at h0
      have ih := wishGo_one (ls := ls) (a := a) ws (n + 1) fun i o ho hn => by
        have := h (i + 1) o (by simpa using ho) (by omega)
        rw [show n + 1 + i = n + (i + 1) by omega]; exact this
      rw [h0, if_neg (by decide), ih]
      by_cases l : n ≤ a
      · have e2 : a - n = (a - (n + 1)) + 1 := by omega
        have l2 : n + 1 ≤ a := by omega
        rw [e2, List.getElem?_cons_succ]
        simp only [l, l2, true_and]
      · have l2 : ¬ n + 1 ≤ a := by omega
        simp [l, l2]
theorem overGo_one {ws : List (Option Int)} {a : Nat} : ∀ (cw : List Int) (n : Nat), (∀ (i : Nat) (c : Int), cw[i]? = some c → n + i ≠ a → ¬ c < (dealt ws ((n + i : Nat) : Int) : Int)) →
    overGo ws n cw = if n ≤ a ∧ (match cw[a - n]? with | some c => decide (c < (dealt ws (a : Int) : Int)) | none => false) = true then some a else none
  | [], n, _ => by simp [overGo]
  | o :: cw, n, h => by
    unfold overGo
    by_cases e : n = a
    · subst e
      have ih := overGo_one (ws := ws) (a := n) cw (n + 1) fun i o ho hn => by
        have := h (i + 1) o (by simpa using ho) (by omega)
        rw [show n + 1 + i = n + (i + 1) by omega]; exact this
      rw [ih]
      have f : ¬ (n + 1 ≤ n) := by omega
      simp [f]
    · have h0 := h 0 o rfl (by omega)
      rw [Nat.add_zero] at h0
      have ih := overGo_one (ws := ws) (a := a) cw (n + 1) fun i o ho hn => by
        have := h (i + 1) o (by simpa using ho) (by omega)
        rw [show n + 1 + i = n + (i + 1) by omega]; exact this
      rw [if_neg h0, ih]
      by_cases l : n ≤ a
      · have e2 : a - n = (a - (n + 1)) + 1 := by omega
        have l2 : n + 1 ≤ a := by omega
        rw [e2, List.getElem?_cons_succ]
        simp only [l, l2, true_and]
      · have l2 : ¬ n + 1 ≤ a := by omega
        simp [l, l2]
theorem dealt_set {ws : List (Option Int)} {a : Nat} {had : Option Int} (y : Option Int) (x : Int) (h : ws[a]? = some had) : (dealt (ws.set a y) x : Int) = dealt ws x - (if had = some x then 1 else 0) + (if y = some x then 1 else 0) := by
  obtain ⟨hl, he⟩ := List.getElem?_eq_some_iff.mp h
  unfold dealt
  rw [List.count_set hl, he]
  have : had = some x → 1 ≤ ws.count (some x) := fun e => by
    rw [← e, ← he]
    exact List.one_le_count_iff.mpr (List.getElem_mem hl)
  by_cases c1 : had = some x
  · have := this c1
    by_cases c2 : y = some x <;> simp [c1, c2] <;> omega
  · by_cases c2 : y = some x <;> simp [c1, c2]
def leftAt (cw : List Int) (ws : List (Option Int)) (t : Int) : Int := cw.getD t.toNat 0 - (dealt ws t : Int)
def dueT (cw : List Int) (ls : List (List (List Int))) (ws : List (Option Int)) (a : Nat) : Option Int → T
  | none => .v .non
  | some t => if rankIn (ls.getD a []) t = 0 then .tp [.v (.str [119, 105, 115, 104]), .v (.int (a : Int))]
    else if ws[a]? ≠ some (some t) ∧ leftAt cw ws t = 0 then .tp [.v (.str [99, 111, 112, 105, 101, 115]), .v (.int t)] else .v .non
theorem dueT_some (cw : List Int) (ls : List (List (List Int))) (ws : List (Option Int)) (a : Nat) (t : Int) : dueT cw ls ws a (some t) = if rankIn (ls.getD a []) t = 0 then .tp [.v (.str [119, 105, 115, 104]), .v (.int (a : Int))]
    else if ws[a]? ≠ some (some t) ∧ leftAt cw ws t = 0 then .tp [.v (.str [99, 111, 112, 105, 101, 115]), .v (.int t)] else .v .non := rfl
theorem rank_zero_iff {n : Nat} {rs : List (List Int)} {t : Int} : rankIn rs t = 0 ↔ t ∉ rs.flatten := ⟨fun h m => rankGo_pos (n := 0) m h, fun h => rankGo_zero h⟩
theorem due_ok {cw : List Int} {ls : List (List (List Int))} {ws : List (Option Int)} {a : Nat} {y : Option Int} (ok : Okw cw ls) (od : OkDeal cw ls ws) (ha : a < ws.length) : wrongT cw ls (ws.set a y) = dueT cw ls ws a y ∧ (dueT cw ls ws a y = .v .non → OkDeal cw ls (ws.set a y)) := by
  have hl := od.len
  obtain ⟨had, hh⟩ : ∃ o, ws[a]? = some o := ⟨_, List.getElem?_eq_getElem ha⟩
  have hal : a < ls.length := by omega
  have hga : ls.getD a [] = ls[a] := by rw [List.getD_eq_getElem?_getD, List.getElem?_eq_getElem hal]; rfl
  have okr := ok.lr ls[a] (List.getElem_mem hal)
  have w1 := wishGo_one (ls := ls) (a := a) (ws.set a y) 0 fun i o ho hn => by
    rw [Nat.zero_add] at hn ⊢
    rw [List.getElem?_set_ne (by omega)] at ho
    cases o with
    | none => rfl
    | some t =>
      have hi : i < ls.length := by rw [← hl]; exact (List.getElem?_eq_some_iff.mp ho).1
      have hm := od.wish i t ls[i] ho (List.getElem?_eq_getElem hi)
      have hg : ls.getD i [] = ls[i] := by rw [List.getD_eq_getElem?_getD, List.getElem?_eq_getElem hi]; rfl
      rw [hg]
      show decide _ = false
      exact decide_eq_false (rankGo_pos (n := 0) hm)
  rw [Nat.sub_zero, List.getElem?_set_self ha] at w1
  have w2 : wishGo ls 0 (ws.set a y) = if badAt (ls.getD a []) y = true then some a else none := by rw [w1]; simp
  -- no thing but y's may be over
  have most : ∀ (j : Nat) (c : Int), cw[j]? = some c → (y = some (j : Int) → had = some (j : Int)) → (dealt (ws.set a y) (j : Int) : Int) ≤ c := fun j c hc hy => by
    have := od.most j c hc
    rw [dealt_set y (j : Int) hh]
    by_cases e : y = some (j : Int)
    · rw [if_pos e, if_pos (hy e)]; omega
    · rw [if_neg e]
      split <;> omega
  have wishS : badAt (ls.getD a []) y = false → ∀ (i : Nat) (t : Int) (rs : List (List Int)), (ws.set a y)[i]? = some (some t) → ls[i]? = some rs → t ∈ rs.flatten := fun hb i t rs hi hr => by
    by_cases e : i = a
    · subst e
      rw [List.getElem?_set_self ha] at hi
      cases hi
      rw [hga] at hb
      rw [List.getElem?_eq_getElem hal] at hr
      cases hr
      have : ¬ rankIn ls[i] t = 0 := of_decide_eq_false hb
      rw [rank_zero_iff (n := 0)] at this
      exact Classical.not_not.mp this
    · rw [List.getElem?_set_ne (by omega)] at hi
      exact od.wish i t rs hi hr
  have free : (∀ t, y = some t → had = some t) → badAt (ls.getD a []) y = false → wrongT cw ls (ws.set a y) = .v .non ∧ OkDeal cw ls (ws.set a y) := fun hy hb => by
    have m : ∀ (j : Nat) (c : Int), cw[j]? = some c → (dealt (ws.set a y) (j : Int) : Int) ≤ c := fun j c hc => most j c hc (hy _)
    have o1 := overGo_one (ws := ws.set a y) (a := 0) cw 0 fun i c hc _ => by have := m i c hc; rw [Nat.zero_add]; omega
    have o2 : overGo (ws.set a y) 0 cw = none := by
      rw [o1, if_neg]
      rintro ⟨_, q⟩
      rw [Nat.sub_zero] at q
      split at q
      · rename_i c hc
        have := m 0 c hc
        have := of_decide_eq_true q
        omega
      · cases q
    refine ⟨?_, ⟨by rw [List.length_set]; exact hl, wishS hb, m⟩⟩
    unfold wrongT
    rw [w2, hb, if_neg (by decide), o2]
  cases y with
  | none =>
    obtain ⟨f1, f2⟩ := free (fun t e => by cases e) rfl
    exact ⟨f1, fun _ => f2⟩
  | some t =>
    by_cases c1 : rankIn (ls.getD a []) t = 0
    · have e1 : dueT cw ls ws a (some t) = .tp [.v (.str [119, 105, 115, 104]), .v (.int (a : Int))] := by rw [dueT_some, if_pos c1]
      have hb : badAt (ls.getD a []) (some t) = true := decide_eq_true c1
      refine ⟨?_, fun h => by rw [e1] at h; cases h⟩
      rw [e1]
      unfold wrongT
      rw [w2, hb, if_pos rfl]
    · have hb : badAt (ls.getD a []) (some t) = false := decide_eq_false c1
      have hm : t ∈ ls[a].flatten := by
        rw [hga, rank_zero_iff (n := 0)] at c1
        exact Classical.not_not.mp c1
      have hrg := okr.rg t hm
      by_cases c2 : had = some t
      · obtain ⟨f1, f2⟩ := free (fun t' e => by cases e; exact c2) hb
        have e1 : dueT cw ls ws a (some t) = .v .non := by
          rw [dueT_some, if_neg c1, if_neg]
          rintro ⟨q, _⟩
          exact q (by rw [hh, c2])
        rw [e1]
        exact ⟨f1, fun _ => f2⟩
      · have hj : t.toNat < cw.length := by omega
        have ht : ((t.toNat : Nat) : Int) = t := by omega
        have hc : cw[t.toNat]? = some (cw.getD t.toNat 0) := by rw [List.getD_eq_getElem?_getD, List.getElem?_eq_getElem hj]; rfl
        have hmo := od.most t.toNat _ hc
        rw [ht] at hmo
        have o1 := overGo_one (ws := ws.set a (some t)) (a := t.toNat) cw 0 fun i c hc hn => by
          have := most i c hc (fun e => by exfalso; apply hn; cases e; omega)
          rw [Nat.zero_add]; omega
        rw [Nat.sub_zero, hc, ht] at o1
        have hds := dealt_set (some t) t hh
        rw [if_neg c2, if_pos rfl] at hds
        by_cases c3 : leftAt cw ws t = 0
        · have e1 : dueT cw ls ws a (some t) = .tp [.v (.str [99, 111, 112, 105, 101, 115]), .v (.int t)] := by
            rw [dueT_some, if_neg c1, if_pos ⟨by rw [hh]; simpa using c2, c3⟩]
          have o2 : overGo (ws.set a (some t)) 0 cw = some t.toNat := by
            rw [o1, if_pos]
            refine ⟨Nat.zero_le _, decide_eq_true ?_⟩
            unfold leftAt at c3
            omega
          refine ⟨?_, fun h => by rw [e1] at h; cases h⟩
          rw [e1]
          unfold wrongT
          rw [w2, hb, if_neg (by decide), o2]
          dsimp only
          rw [ht]
        · have e1 : dueT cw ls ws a (some t) = .v .non := by
            rw [dueT_some, if_neg c1, if_neg (fun q => c3 q.2)]
          have hlt : (dealt (ws.set a (some t)) t : Int) ≤ cw.getD t.toNat 0 := by unfold leftAt at c3; omega
          have o2 : overGo (ws.set a (some t)) 0 cw = none := by
            rw [o1, if_neg]
            rintro ⟨_, q⟩
            have := of_decide_eq_true q
            omega
          refine ⟨?_, fun _ => ⟨by rw [List.length_set]; exact hl, wishS hb, fun j c hcj => ?_⟩⟩
          · rw [e1]
            unfold wrongT
            rw [w2, hb, if_neg (by decide), o2]
          · by_cases e : some t = some (j : Int)
            · have : t = (j : Int) := by cases e; rfl
              have hj2 : t.toNat = j := by omega
              rw [hj2] at hc hlt
              rw [hc] at hcj
              cases hcj
              rw [this] at hlt ⊢
              exact hlt
            · exact most j c hcj (fun q => absurd q e)

/-! ### counts and copies behind a change -/
def bump (xs : List Int) (j : Nat) (d : Int) : List Int := xs.set j (xs.getD j 0 + d)
theorem bump_len (xs : List Int) (j : Nat) (d : Int) : (bump xs j d).length = xs.length := by unfold bump; rw [List.length_set]
theorem getD_set {xs : List Int} {j i : Nat} {v : Int} (hj : j < xs.length) : (xs.set j v).getD i 0 = if j = i then v else xs.getD i 0 := by
  rw [List.getD_eq_getElem?_getD, List.getD_eq_getElem?_getD, List.getElem?_set]
  by_cases e : j = i
  · subst e; simp [hj]
  · simp [e]
theorem bump_get {xs : List Int} {j i : Nat} {d : Int} (hj : j < xs.length) : (bump xs j d).getD i 0 = xs.getD i 0 + if j = i then d else 0 := by
  unfold bump
  rw [getD_set hj]
  by_cases e : j = i
  · subst e; simp
  · simp [e]
theorem ext_getD {xs ys : List Int} (hl : xs.length = ys.length) (h : ∀ i, i < xs.length → xs.getD i 0 = ys.getD i 0) : xs = ys := by
  apply List.ext_getElem?
  intro i
  by_cases c : i < xs.length
  · have := h i c
    rw [List.getD_eq_getElem?_getD, List.getD_eq_getElem?_getD, List.getElem?_eq_getElem c, List.getElem?_eq_getElem (by omega)] at this
    rw [List.getElem?_eq_getElem c, List.getElem?_eq_getElem (by omega)]
    simpa using this
  · rw [List.getElem?_eq_none (by omega), List.getElem?_eq_none (by omega)]
def plcGo (ls : List (List (List Int))) (L : Nat) : Nat → List (Option Int) → List Nat
  | _, [] => []
  | n, o :: ws => placeIn L (ls.getD n []) o :: plcGo ls L (n + 1) ws
theorem cntGo_fold {ls : List (List (List Int))} : ∀ (ws : List (Option Int)) (n : Nat) (xs : List Int), cntGo ls n ws xs = (plcGo ls (xs.length - 1) n ws).foldl addAt xs
  | [], _, _ => rfl
  | o :: ws, n, xs => by
    unfold cntGo plcGo
    rw [cntGo_fold ws, addAt_len, List.foldl_cons]
theorem fold_len : ∀ (ps : List Nat) (xs : List Int), (ps.foldl addAt xs).length = xs.length
  | [], _ => rfl
  | p :: ps, xs => by rw [List.foldl_cons, fold_len ps, addAt_len]
theorem fold_get {i : Nat} : ∀ (ps : List Nat) (xs : List Int), (∀ p ∈ ps, p < xs.length) → (ps.foldl addAt xs).getD i 0 = xs.getD i 0 + (ps.count i : Nat)
  | [], xs, _ => by simp
  | p :: ps, xs, h => by
    rw [List.foldl_cons, fold_get ps _ fun q hq => by rw [addAt_len]; exact h q (by simp [hq])]
    have : (addAt xs p).getD i 0 = xs.getD i 0 + if p = i then 1 else 0 := bump_get (h p (by simp))
    rw [this, List.count_cons]
    by_cases e : p = i
    · simp [e]; omega
    · simp [e]
theorem sum_set : ∀ (xs : List Int) (j : Nat) (v : Int), j < xs.length → (xs.set j v).sum = xs.sum - xs.getD j 0 + v
  | [], _, _, h => by simp at h
  | x :: xs, 0, v, _ => by simp; omega
  | x :: xs, j + 1, v, h => by
    rw [List.set_cons_succ, List.sum_cons, List.sum_cons, sum_set xs j v (by simpa using h)]
    simp; omega
theorem fold_sum : ∀ (ps : List Nat) (xs : List Int), (∀ p ∈ ps, p < xs.length) → (ps.foldl addAt xs).sum = xs.sum + (ps.length : Nat)
  | [], xs, _ => by simp
  | p :: ps, xs, h => by
    rw [List.foldl_cons, fold_sum ps _ fun q hq => by rw [addAt_len]; exact h q (by simp [hq])]
    unfold addAt
    rw [sum_set _ _ _ (h p (by simp))]
    simp; omega
theorem plc_len {ls : List (List (List Int))} {L : Nat} : ∀ (ws : List (Option Int)) (n : Nat), (plcGo ls L n ws).length = ws.length
  | [], _ => rfl
  | o :: ws, n => by unfold plcGo; simp [plc_len ws]
theorem plc_get {ls : List (List (List Int))} {L : Nat} : ∀ (ws : List (Option Int)) (n a : Nat) (o : Option Int), ws[a]? = some o → (plcGo ls L n ws)[a]? = some (placeIn L (ls.getD (n + a) []) o)
  | [], _, _, _, h => by simp at h
  | o :: ws, n, 0, o', h => by simp at h; subst h; rfl
  | o :: ws, n, a + 1, o', h => by
    have := plc_get (ls := ls) (L := L) ws (n + 1) a o' (by simpa using h)
    unfold plcGo
    rw [List.getElem?_cons_succ, this, show n + 1 + a = n + (a + 1) by omega]
theorem plc_set {ls : List (List (List Int))} {L : Nat} : ∀ (ws : List (Option Int)) (n a : Nat) (o : Option Int), plcGo ls L n (ws.set a o) = (plcGo ls L n ws).set a (placeIn L (ls.getD (n + a) []) o)
  | [], _, _, _ => rfl
  | o :: ws, n, 0, o' => rfl
  | o :: ws, n, a + 1, o' => by
    have := plc_set (ls := ls) (L := L) ws (n + 1) a o'
    rw [List.set_cons_succ]
    unfold plcGo
    rw [List.set_cons_succ, this, show n + 1 + a = n + (a + 1) by omega]
def zers (ls : List (List (List Int))) : List Int := List.replicate (longL ls + 1) 0
def cnts (ls : List (List (List Int))) (ws : List (Option Int)) : List Int := cntGo ls 0 ws (zers ls)
theorem zers_len (ls : List (List (List Int))) : (zers ls).length = longL ls + 1 := by simp [zers]
theorem zers_get (ls : List (List (List Int))) (i : Nat) : (zers ls).getD i 0 = 0 := by
  unfold zers
  rw [List.getD_eq_getElem?_getD, List.getElem?_replicate]
  split <;> rfl
theorem place_lt {cw : List Int} {ls : List (List (List Int))} {a : Nat} {o : Option Int} (ok : Okw cw ls) (ha : a < ls.length) (ho : ∀ t, o = some t → t ∈ (ls.getD a []).flatten) : placeIn (longL ls) (ls.getD a []) o < longL ls + 1 := by
  have hga : ls.getD a [] = ls[a] := by rw [List.getD_eq_getElem?_getD, List.getElem?_eq_getElem ha]; rfl
  rw [hga] at ho ⊢
  cases o with
  | none => show longL ls < _; omega
  | some t =>
    obtain ⟨_, h2, _⟩ := ev_long (k := 0) ok
    have h2 := h2 ls[a] (List.getElem_mem ha)
    have := rank_in_rg (ok.lr ls[a] (List.getElem_mem ha)) (ho t rfl)
    show (rankIn ls[a] t - 1).toNat < _
    omega
theorem plc_lt {cw : List Int} {ls : List (List (List Int))} {ws : List (Option Int)} (ok : Okw cw ls) (od : OkDeal cw ls ws) : ∀ p ∈ plcGo ls (longL ls) 0 ws, p < longL ls + 1 := fun p hp => by
  obtain ⟨a, ha⟩ := List.mem_iff_getElem?.mp hp
  have hl := (List.getElem?_eq_some_iff.mp ha).1
  rw [plc_len] at hl
  have := plc_get (ls := ls) (L := longL ls) ws 0 a _ (List.getElem?_eq_getElem hl)
  rw [ha, Nat.zero_add] at this
  cases this
  have hal : a < ls.length := by rw [← od.len]; exact hl
  refine place_lt ok hal fun t ht => ?_
  have hga : ls.getD a [] = ls[a] := by rw [List.getD_eq_getElem?_getD, List.getElem?_eq_getElem hal]; rfl
  rw [hga]
  exact od.wish a t ls[a] (by rw [List.getElem?_eq_getElem hl, ht]) (List.getElem?_eq_getElem hal)
theorem cnts_fold (ls : List (List (List Int))) (ws : List (Option Int)) : cnts ls ws = (plcGo ls (longL ls) 0 ws).foldl addAt (zers ls) := by
  unfold cnts
  rw [cntGo_fold, zers_len]
  rfl
theorem cnts_len (ls : List (List (List Int))) (ws : List (Option Int)) : (cnts ls ws).length = longL ls + 1 := by rw [cnts_fold, fold_len, zers_len]
theorem cnts_sum {cw : List Int} {ls : List (List (List Int))} {ws : List (Option Int)} (ok : Okw cw ls) (od : OkDeal cw ls ws) : (cnts ls ws).sum = (ws.length : Nat) := by
  rw [cnts_fold, fold_sum _ _ (by rw [zers_len]; exact plc_lt ok od), plc_len]
  have : (zers ls).sum = 0 := by
    unfold zers
    generalize longL ls + 1 = m
    induction m with
    | zero => rfl
    | succ m ih => rw [List.replicate_succ, List.sum_cons, ih]; rfl
  omega
theorem cnts_went {cw : List Int} {ls : List (List (List Int))} {ws : List (Option Int)} {a : Nat} {had y : Option Int} (ok : Okw cw ls) (od : OkDeal cw ls ws) (od2 : OkDeal cw ls (ws.set a y)) (hh : ws[a]? = some had) :
    cnts ls (ws.set a y) = bump (bump (cnts ls ws) (placeIn (longL ls) (ls.getD a []) had) (-1)) (placeIn (longL ls) (ls.getD a []) y) 1 := by
  have hl := (List.getElem?_eq_some_iff.mp hh).1
  have p1 := plc_lt ok od
  have p2 := plc_lt ok od2
  have g1 := plc_get (ls := ls) (L := longL ls) ws 0 a had hh
  have s1 := plc_set (ls := ls) (L := longL ls) ws 0 a y
  have g2 := plc_get (ls := ls) (L := longL ls) (ws.set a y) 0 a y (List.getElem?_set_self hl)
  rw [Nat.zero_add] at g1 s1 g2
  have q1 := p1 _ (List.mem_of_getElem? g1)
  have q2 := p2 _ (List.mem_of_getElem? g2)
  rw [cnts_fold, cnts_fold]
  apply ext_getD
  · rw [bump_len, bump_len, fold_len, fold_len]
  · intro i _
    rw [bump_get (by rw [bump_len, fold_len, zers_len]; exact q2), bump_get (by rw [fold_len, zers_len]; exact q1), fold_get _ _ (by rw [zers_len]; exact p2), fold_get _ _ (by rw [zers_len]; exact p1), s1]
    have hl2 : a < (plcGo ls (longL ls) 0 ws).length := by rw [plc_len]; exact hl
    rw [List.count_set hl2]
    rw [List.getElem?_eq_getElem hl2] at g1
    rw [Option.some.inj g1]
    generalize hp : placeIn (longL ls) (ls.getD a []) had = p at *
    generalize hq : placeIn (longL ls) (ls.getD a []) y = q at *
    have : p = i → 1 ≤ (plcGo ls (longL ls) 0 ws).count i := fun e => by
      rw [← e, ← Option.some.inj g1]
      exact List.one_le_count_iff.mpr (List.getElem_mem hl2)
    by_cases c1 : p = i
    · have := this c1
      by_cases c2 : q = i <;> simp [c1, c2] <;> omega
    · by_cases c2 : q = i <;> simp [c1, c2] <;> omega
def bumpO (xs : List Int) (o : Option Int) (d : Int) : List Int := match o with
  | none => xs
  | some t => bump xs t.toNat d
theorem leftOf_len (cw : List Int) (ws : List (Option Int)) : (leftOf cw ws).length = cw.length := by simp [leftOf]
theorem leftOf_get {cw : List Int} {ws : List (Option Int)} {i : Nat} (h : i < cw.length) : (leftOf cw ws).getD i 0 = cw.getD i 0 - (dealt ws (i : Int) : Int) := by
  unfold leftOf
  rw [List.getD_eq_getElem?_getD, List.getElem?_map, List.getElem?_range h]
  rfl
theorem bumpO_len (xs : List Int) (o : Option Int) (d : Int) : (bumpO xs o d).length = xs.length := by cases o with
  | none => rfl
  | some t => exact bump_len _ _ _
theorem bumpO_get {xs : List Int} {o : Option Int} {i : Nat} {d : Int} (h : ∀ t, o = some t → 0 ≤ t ∧ t < xs.length) : (bumpO xs o d).getD i 0 = xs.getD i 0 + if o = some (i : Int) then d else 0 := by
  cases o with
  | none => simp [bumpO]
  | some t =>
    have := h t rfl
    show (bump xs t.toNat d).getD i 0 = _
    rw [bump_get (by omega)]
    by_cases e : t.toNat = i
    · have : t = (i : Int) := by omega
      simp [e, this]
    · have : ¬ t = (i : Int) := by omega
      simp [e, this]
theorem deal_rg {cw : List Int} {ls : List (List (List Int))} {ws : List (Option Int)} {a : Nat} {t : Int} (ok : Okw cw ls) (od : OkDeal cw ls ws) (h : ws[a]? = some (some t)) : 0 ≤ t ∧ t < cw.length := by
  have hl := (List.getElem?_eq_some_iff.mp h).1
  have hal : a < ls.length := by rw [← od.len]; exact hl
  exact (ok.lr ls[a] (List.getElem_mem hal)).rg t (od.wish a t ls[a] h (List.getElem?_eq_getElem hal))
theorem left_went {cw : List Int} {ls : List (List (List Int))} {ws : List (Option Int)} {a : Nat} {had y : Option Int} (ok : Okw cw ls) (od : OkDeal cw ls ws) (od2 : OkDeal cw ls (ws.set a y)) (hh : ws[a]? = some had) :
    leftOf cw (ws.set a y) = bumpO (bumpO (leftOf cw ws) had 1) y (-1) := by
  have hl := (List.getElem?_eq_some_iff.mp hh).1
  have r1 : ∀ t, had = some t → 0 ≤ t ∧ t < (leftOf cw ws).length := fun t e => by rw [leftOf_len]; exact deal_rg ok od (by rw [hh, e])
  have r2 : ∀ t, y = some t → 0 ≤ t ∧ t < (bumpO (leftOf cw ws) had 1).length := fun t e => by rw [bumpO_len, leftOf_len]; exact deal_rg (a := a) ok od2 (by rw [List.getElem?_set_self hl, e])
  apply ext_getD
  · rw [bumpO_len, bumpO_len, leftOf_len, leftOf_len]
  · intro i hi
    rw [leftOf_len] at hi
    rw [bumpO_get r2, bumpO_get r1, leftOf_get hi, leftOf_get hi, dealt_set y (i : Int) hh]
    by_cases c1 : had = some (i : Int) <;> by_cases c2 : y = some (i : Int) <;> simp [c1, c2] <;> omega

/-! ### the law's own walks -/
def placeI (ls : List (List (List Int))) (a : Nat) : Option Int → Int
  | none => (longL ls : Nat)
  | some t => rankIn (ls.getD a []) t - 1
theorem placeI_nat {cw : List Int} {ls : List (List (List Int))} {a : Nat} {o : Option Int} (ok : Okw cw ls) (ha : a < ls.length) (ho : ∀ t, o = some t → t ∈ (ls.getD a []).flatten) : placeI ls a o = ((placeIn (longL ls) (ls.getD a []) o : Nat) : Int) := by
  cases o with
  | none => rfl
  | some t =>
    have hga : ls.getD a [] = ls[a] := by rw [List.getD_eq_getElem?_getD, List.getElem?_eq_getElem ha]; rfl
    have hm := ho t rfl
    have : rankIn (ls.getD a []) t ≠ 0 := rankGo_pos (n := 0) hm
    rw [hga] at hm
    have := rank_in_rg (ok.lr ls[a] (List.getElem_mem ha)) hm
    show rankIn (ls.getD a []) t - 1 = (((rankIn (ls.getD a []) t - 1).toNat : Nat) : Int)
    rw [hga]
    omega
theorem ev_place {k : Nat} {cw : List Int} {ls : List (List (List Int))} {a : Nat} {o : Option Int} (ok : Okw cw ls) (ha : a < ls.length) : evF (tblP ds) (tblC cs) (k + 6) "_law_place" [wishD cw ls, .int (a : Int), optD o] = .ret (.v (.int (placeI ls a o))) := by
  rw [evF_at (fn := f__law_place) rfl rfl]
  obtain ⟨lg, _, _⟩ := ev_long (k := k) ok
  have hga : ls.getD a [] = ls[a] := by rw [List.getD_eq_getElem?_getD, List.getElem?_eq_getElem ha]; rfl
  cases o with
  | none =>
    obtain ⟨w, hw⟩ : ∃ w, w = wishD cw ls := ⟨_, rfl⟩
    rw [← hw] at lg ⊢
    have e : placeI ls a none = (longL ls : Nat) := rfl
    rw [e]
    obtain ⟨m, hm⟩ : ∃ m, m = longL ls := ⟨_, rfl⟩
    rw [← hm] at lg ⊢
    simp -implicitDefEqProofs [f__law_place, env0, optD, D.isNon]
    simp -implicitDefEqProofs [lg]
  | some t =>
    have ro := ev_rank_of (k := k) pr ok (x := t) (List.getElem?_eq_getElem ha)
    have e : placeI ls a (some t) = rankIn ls[a] t - 1 := by rw [← hga]; rfl
    rw [e]
    obtain ⟨w, hw⟩ : ∃ w, w = wishD cw ls := ⟨_, rfl⟩
    rw [← hw] at ro ⊢
    obtain ⟨z, hz⟩ : ∃ z, z = rankIn ls[a] t := ⟨_, rfl⟩
    rw [← hz] at ro ⊢
    simp -implicitDefEqProofs [f__law_place, env0, optD, D.isNon]
    simp -implicitDefEqProofs [ro]
theorem augS_vis {xs : List Int} {j d : Int} (h0 : 0 ≤ j) (h1 : j < xs.length) : augT .sub (some (some (.l (vis xs)))) (.v (.int j)) (xs.getD j.toNat 0) (.v (.int d)) = some (.l (vis (bump xs j.toNat (-d)))) := by
  have e := ixN_in (n := (vis xs).length) h0 (by unfold vis; rw [List.length_map]; omega)
  have g : augI .sub (xs.getD j.toNat 0) (.v (.int d)) = some (xs.getD j.toNat 0 + -d) := congrArg some (Int.sub_eq_add_neg)
  have s : vis (bump xs j.toNat (-d)) = (vis xs).set j.toNat (.v (.int (xs.getD j.toNat 0 + -d))) := by unfold vis bump; rw [List.map_set]
  simp only [augT, ixT1, e, Option.bind_some, g, Option.map_some, s]
theorem augA_vis {xs : List Int} {j d : Int} (h0 : 0 ≤ j) (h1 : j < xs.length) : augT .add (some (some (.l (vis xs)))) (.v (.int j)) (xs.getD j.toNat 0) (.v (.int d)) = some (.l (vis (bump xs j.toNat d))) := augT_vis h0 h1
theorem getI_vis' {xs : List Int} {j : Int} (h0 : 0 ≤ j) (h1 : j < xs.length) : getI (some (some (.l (vis xs)))) (.v (.int j)) = some (xs.getD j.toNat 0) := getI_vis h0 (by rw [List.getD_eq_getElem?_getD, List.getElem?_eq_getElem (by omega)]; rfl)
theorem ev_went {k : Nat} {cw : List Int} {ls : List (List (List Int))} {ws : List (Option Int)} {a : Nat} {had y : Option Int} {cv lv : List Int} (ok : Okw cw ls) (ha : a < ls.length) (hh : ws[a]? = some had)
    (h1 : ∀ t, had = some t → t ∈ (ls.getD a []).flatten) (h2 : ∀ t, y = some t → t ∈ (ls.getD a []).flatten) (hc : cv.length = longL ls + 1) (hl : lv.length = cw.length) :
    evF (tblP ds) (tblC cs) (k + 7) "_law_went_on" [wishD cw ls, dealD ws, .int (a : Int), optD y, .lst (cv.map .int), .lst (lv.map .int)] =
      .ret (.l [.l (vis (bump (bump cv (placeIn (longL ls) (ls.getD a []) had) (-1)) (placeIn (longL ls) (ls.getD a []) y) 1)), .l (vis (bumpO (bumpO lv had 1) y (-1)))]) := by
  rw [evF_at (fn := f__law_went_on) rfl rfl]
  have hga : ls.getD a [] = ls[a] := by rw [List.getD_eq_getElem?_getD, List.getElem?_eq_getElem ha]; rfl
  have pl1 := ev_place (k := k) (o := had) ok ha
  have pl2 := ev_place (k := k) (o := y) ok ha
  have n1 := placeI_nat ok ha h1
  have n2 := placeI_nat ok ha h2
  have b1 := place_lt ok ha h1
  have b2 := place_lt ok ha h2
  rw [n1] at pl1
  rw [n2] at pl2
  have rg : ∀ t, t ∈ (ls.getD a []).flatten → 0 ≤ t ∧ t < cw.length := fun t h => by rw [hga] at h; exact (ok.lr ls[a] (List.getElem_mem ha)).rg t h
  generalize hp : placeIn (longL ls) (ls.getD a []) had = p at *
  generalize hq : placeIn (longL ls) (ls.getD a []) y = q at *
  have i0 : ixT (.v (dealD ws)) (.v (.int (a : Int))) = some (.v (optD had)) := ix_lst (by rw [List.getElem?_map, hh]; rfl)
  have hln : cv.length ≤ 1000 ∧ lv.length ≤ 1000 := by
    obtain ⟨_, _, h5⟩ := ev_long (k := 0) ok
    have := ok.c2
    omega
  have s1g := getI_vis' (xs := cv) (j := (p : Int)) (by omega) (by omega)
  have s1a := augS_vis (xs := cv) (j := (p : Int)) (d := 1) (by omega) (by omega)
  rw [Int.toNat_natCast] at s1g s1a
  have s2g := getI_vis' (xs := bump cv p (-1)) (j := (q : Int)) (by omega) (by rw [bump_len]; omega)
  have s2a := augA_vis (xs := bump cv p (-1)) (j := (q : Int)) (d := 1) (by omega) (by rw [bump_len]; omega)
  rw [Int.toNat_natCast] at s2g s2a
  have e1 : ((cv.map D.int).map T.v) = vis cv := by simp [vis]
  have e2 : ((lv.map D.int).map T.v) = vis lv := by simp [vis]
  have q1 : ∃ x, getI (some (some (.l (vis cv)))) (.v (.int (p : Int))) = some x ∧ augT .sub (some (some (.l (vis cv)))) (.v (.int (p : Int))) x (.v (.int 1)) = some (.l (vis (bump cv p (-1)))) := ⟨_, s1g, s1a⟩
  have q2 : ∃ x, getI (some (some (.l (vis (bump cv p (-1)))))) (.v (.int (q : Int))) = some x ∧ augT .add (some (some (.l (vis (bump cv p (-1)))))) (.v (.int (q : Int))) x (.v (.int 1)) = some (.l (vis (bump (bump cv p (-1)) q 1))) := ⟨_, s2g, s2a⟩
  obtain ⟨x1, s1g, s1a⟩ := q1
  obtain ⟨x2, s2g, s2a⟩ := q2
  have nb1 := noBs_vis (bump (bump cv p (-1)) q 1)
  have nb3 := noBs_vis cv
  have nb4 := noBs_vis lv
  have nb2 := noBs_vis (bumpO (bumpO lv had 1) y (-1))
  have q3 : ∀ t, had = some t → ∃ x, getI (some (some (.l (vis lv)))) (.v (.int t)) = some x ∧ augT .add (some (some (.l (vis lv)))) (.v (.int t)) x (.v (.int 1)) = some (.l (vis (bumpO lv had 1))) := fun t e => by
    subst e
    have r := rg t (h1 t rfl)
    exact ⟨_, getI_vis' r.1 (by omega), augA_vis r.1 (by omega)⟩
  have q4 : ∀ t, y = some t → ∃ x, getI (some (some (.l (vis (bumpO lv had 1))))) (.v (.int t)) = some x ∧ augT .sub (some (some (.l (vis (bumpO lv had 1))))) (.v (.int t)) x (.v (.int 1)) = some (.l (vis (bumpO (bumpO lv had 1) y (-1)))) := fun t e => by
    subst e
    have r := rg t (h2 t rfl)
    exact ⟨_, getI_vis' r.1 (by rw [bumpO_len]; omega), augS_vis r.1 (by rw [bumpO_len]; omega)⟩
  have f1 : had = none → bumpO lv had 1 = lv := fun e => by subst e; rfl
  have f2 : y = none → bumpO (bumpO lv had 1) y (-1) = bumpO lv had 1 := fun e => by subst e; rfl
  obtain ⟨w, hw⟩ : ∃ w, w = wishD cw ls := ⟨_, rfl⟩
  obtain ⟨wD, hwD⟩ : ∃ wD, wD = dealD ws := ⟨_, rfl⟩
  obtain ⟨cD, hcD⟩ : ∃ cD, cD = cv.map D.int := ⟨_, rfl⟩
  obtain ⟨lD, hlD⟩ : ∃ lD, lD = lv.map D.int := ⟨_, rfl⟩
  rw [← hw] at pl1 pl2 ⊢
  rw [← hwD] at i0 ⊢
  rw [← hcD] at e1 ⊢
  rw [← hlD] at e2 ⊢
  generalize hv1 : vis cv = v1 at *
  generalize hv2 : vis (bump cv p (-1)) = v2 at *
  generalize hv3 : vis (bump (bump cv p (-1)) q 1) = v3 at *
  generalize hu1 : vis lv = u1 at *
  generalize hu2 : vis (bumpO lv had 1) = u2 at *
  generalize hu3 : vis (bumpO (bumpO lv had 1) y (-1)) = u3 at *
  have bl1 : bltT .list [.v (.lst cD)] = some (.l v1) := by rw [← e1]; rfl
  have bl2 : bltT .list [.v (.lst lD)] = some (.l u1) := by rw [← e2]; rfl
  cases had with
  | none =>
    have g1 : u2 = u1 := by rw [← hu2, ← hu1]; rfl
    cases y with
    | none =>
      have g2 : u3 = u2 := by rw [← hu3, ← hu2]; rfl
      rw [g2, g1] at nb2
      obtain rfl : p = q := hp.symm.trans hq
      simp -implicitDefEqProofs [optD] at i0 pl1 pl2
      simp -implicitDefEqProofs [f__law_went_on, env0, optD, D.isNon]
      simp -implicitDefEqProofs [i0, bl1, bl2, pl1, pl2, s1g, s1a, s2g, s2a, g1, g2, nb1, nb2, nb3, nb4, D.isNon]
    | some t =>
      obtain ⟨x4, s4g, s4a⟩ := q4 t rfl
      rw [g1] at s4g s4a
      simp -implicitDefEqProofs [optD] at i0 pl1 pl2
      simp -implicitDefEqProofs [f__law_went_on, env0, optD, D.isNon]
      simp -implicitDefEqProofs [i0, bl1, bl2, pl1, pl2, s1g, s1a, s2g, s2a, s4g, s4a, nb1, nb2, nb3, nb4, D.isNon]
  | some t0 =>
    obtain ⟨x3, s3g, s3a⟩ := q3 t0 rfl
    cases y with
    | none =>
      have g2 : u3 = u2 := by rw [← hu3, ← hu2]; rfl
      rw [g2] at nb2
      simp -implicitDefEqProofs [optD] at i0 pl1 pl2
      simp -implicitDefEqProofs [f__law_went_on, env0, optD, D.isNon]
      simp -implicitDefEqProofs [i0, bl1, bl2, pl1, pl2, s1g, s1a, s2g, s2a, s3g, s3a, g2, nb1, nb2, nb3, nb4, D.isNon]
    | some t =>
      obtain ⟨x4, s4g, s4a⟩ := q4 t rfl
      simp -implicitDefEqProofs [optD] at i0 pl1 pl2
      simp -implicitDefEqProofs [f__law_went_on, env0, optD, D.isNon]
      simp -implicitDefEqProofs [i0, bl1, bl2, pl1, pl2, s1g, s1a, s2g, s2a, s3g, s3a, s4g, s4a, nb1, nb2, nb3, nb4, D.isNon]

theorem eq_opt (o : Option Int) (t : Int) : eqT (.v (optD o)) (.v (.int t)) = some (decide (o = some t)) := by
  have f1 : (optD o).okD 60 = true := by cases o <;> simp [optD, D.okD]
  have f2 : (D.int t).okD 60 = true := by simp [D.okD]
  unfold Tv.eqT
  rw [er_v, er_v, f1, f2, eqD_opt]
  rfl
theorem ev_due {k : Nat} {cw : List Int} {ls : List (List (List Int))} {ws : List (Option Int)} {a : Nat} {had y : Option Int} (ok : Okw cw ls) (ha : a < ls.length) (hh : ws[a]? = some had) :
    evF (tblP ds) (tblC cs) (k + 7) "_law_due" [wishD cw ls, dealD ws, .int (a : Int), optD y] = .ret (dueT cw ls ws a y) := by
  rw [evF_at (fn := f__law_due) rfl rfl]
  have hga : ls.getD a [] = ls[a] := by rw [List.getD_eq_getElem?_getD, List.getElem?_eq_getElem ha]; rfl
  cases y with
  | none =>
    obtain ⟨w, hw⟩ : ∃ w, w = wishD cw ls := ⟨_, rfl⟩
    rw [← hw]
    obtain ⟨wD, hwD⟩ : ∃ wD, wD = dealD ws := ⟨_, rfl⟩
    rw [← hwD]
    have e : dueT cw ls ws a none = .v .non := rfl
    rw [e]
    simp -implicitDefEqProofs [f__law_due, env0, optD, D.isNon]
  | some t =>
    rw [dueT_some]
    have ro := ev_rank_of (k := k + 1) pr ok (x := t) (List.getElem?_eq_getElem ha)
    rw [← hga] at ro
    have okr := ok.lr ls[a] (List.getElem_mem ha)
    have out : ¬ (0 ≤ t ∧ t < cw.length) → rankIn (ls.getD a []) t = 0 := fun n => by
      rw [hga]
      refine rankGo_zero fun m => n (okr.rg t m)
    have i0 : ixT (.v (wishD cw ls)) (.v (.int 0)) = some (.v (.lst (cw.map .int))) := rfl
    have i1 : ixT (.v (dealD ws)) (.v (.int (a : Int))) = some (.v (optD had)) := ix_lst (by rw [List.getElem?_map, hh]; rfl)
    have eo := eq_opt had t
    have el := ev_left (k := k + 1) (ws := ws) ok
    have ixl : 0 ≤ t ∧ t < cw.length → ixT (.l (vis (leftOf cw ws))) (.v (.int t)) = some (.v (.int (leftAt cw ws t))) := fun r => by
      refine ix_l r.1 ?_
      unfold vis leftOf leftAt
      rw [List.getElem?_map, List.getElem?_map, List.getElem?_range (by omega)]
      simp only [Option.map_some]
      rw [show ((t.toNat : Nat) : Int) = t by omega]
    have hcl : (cw.map D.int).length = cw.length := by rw [List.length_map]
    have hne : (ws[a]? ≠ some (some t)) ↔ ¬ had = some t := by rw [hh]; simp
    generalize leftAt cw ws t = lt at *
    generalize hv : vis (leftOf cw ws) = v at *
    obtain ⟨w, hw⟩ : ∃ w, w = wishD cw ls := ⟨_, rfl⟩
    rw [← hw] at ro i0 el ⊢
    obtain ⟨wD, hwD⟩ : ∃ wD, wD = dealD ws := ⟨_, rfl⟩
    rw [← hwD] at el i1 ⊢
    generalize hz : rankIn (ls.getD a []) t = z at *
    generalize hcD : cw.map D.int = cD at *
    generalize hoh : optD had = oh at *
    by_cases c1 : t < 0
    · have z0 := out (by omega)
      simp -implicitDefEqProofs [f__law_due, env0, optD, D.isNon, c1, z0]
    · by_cases c2 : (cw.length : Int) ≤ t
      · have z0 := out (by omega)
        simp -implicitDefEqProofs [f__law_due, env0, optD, D.isNon, c1]
        simp -implicitDefEqProofs [i0, hcl, c2, z0]
      · have ixl := ixl (by omega)
        by_cases c3 : z = 0
        · simp -implicitDefEqProofs [f__law_due, env0, optD, D.isNon, c1]
          simp -implicitDefEqProofs [i0, hcl, c2, ro, c3]
        · by_cases c4 : had = some t
          · rw [if_neg c3, if_neg (fun q => hne.mp q.1 c4)]
            rw [decide_eq_true c4] at eo
            simp -implicitDefEqProofs [f__law_due, env0, optD, D.isNon, c1]
            simp -implicitDefEqProofs [i0, hcl, c2, ro, c3, i1, eo]
          · rw [decide_eq_false c4] at eo
            by_cases c5 : lt = 0
            · rw [if_neg c3, if_pos ⟨hne.mpr c4, c5⟩]
              simp -implicitDefEqProofs [f__law_due, env0, optD, D.isNon, c1]
              simp -implicitDefEqProofs [i0, hcl, c2, ro, c3, i1, eo, el, ixl, c5]
              try rfl
            · rw [if_neg c3, if_neg (fun q => c5 q.2)]
              simp -implicitDefEqProofs [f__law_due, env0, optD, D.isNon, c1]
              simp -implicitDefEqProofs [i0, hcl, c2, ro, c3, i1, eo, el, ixl, c5]

theorem pd : PDeal (tblP ds) (tblC cs) := { lk with wrong := rfl, among := rfl, row := rfl }
/-- what is drawn for an asker -/
def drawY (many : Nat) (d1 d2 : Int) : Option Int := if d1 < many then some d1 else if d1 < (many : Int) + 2 then none else if d1 = (many : Int) + 2 then some ((many : Int) + d2) else some (-1 - d2)
theorem drawY_ix {many : Nat} {d1 d2 : Int} (h0 : 0 ≤ d1) (h1 : d1 < (many : Int) + 4) : ixT (.l ((List.range many).map (fun (i : Nat) => T.v (.int (i : Int))) ++ [.v .non, .v .non, .v (.int ((many : Int) + d2)), .v (.int (-1 - d2))])) (.v (.int d1)) = some (.v (optD (drawY many d1 d2))) := by
  refine ix_l h0 ?_
  have hl : ((List.range many).map (fun (i : Nat) => T.v (.int (i : Int)))).length = many := by simp
  unfold drawY
  by_cases c1 : d1 < many
  · rw [List.getElem?_append_left (by rw [hl]; omega), List.getElem?_map, List.getElem?_range (by omega), if_pos c1]
    show some (T.v (.int ((d1.toNat : Nat) : Int))) = some (T.v (.int d1))
    rw [show ((d1.toNat : Nat) : Int) = d1 by omega]
  · rw [List.getElem?_append_right (by rw [hl]; omega), hl, if_neg c1]
    by_cases c2 : d1 < (many : Int) + 2
    · rw [if_pos c2]
      have : d1.toNat - many = 0 ∨ d1.toNat - many = 1 := by omega
      rcases this with e | e <;> rw [e] <;> rfl
    · rw [if_neg c2]
      by_cases c3 : d1 = (many : Int) + 2
      · rw [if_pos c3, show d1.toNat - many = 2 by omega]; rfl
      · rw [if_neg c3, show d1.toNat - many = 3 by omega]; rfl
theorem sumT_ints (xs : List Int) : bltT .sum [.v (.lst (xs.map .int))] = some (.v (.int xs.sum)) := by
  have : lOnly (.v (.lst (xs.map .int))) = some (vis xs) := by simp [lOnly, vis]
  simp only [bltT, this, Option.bind_some, intsT_vis, Option.map_some]
theorem deal_set {ws : List (Option Int)} {a : Nat} {y : Option Int} (h : a < ws.length) : dealD (ws.set a y) = .lst (((ws.map optD).take a) ++ [optD y] ++ ((ws.map optD).drop (a + 1))) := by
  show D.lst _ = _
  rw [List.set_eq_take_append_cons_drop, if_pos h]
  simp
theorem lstep {ns : List Int} {cw : List Int} {ls : List (List (List Int))} {ws : List (Option Int)} {i : Nat} {cell : Int} {j3 j4 j5 j6 j7 j8 j9 j10 j11 j12 j14 : Option T} (ok : Okw cw ls) (od : OkDeal cw ls ws) (hi : i < 1000) :
    ∃ ws' c5 c6 c7 c8 c9 c10 c11 c12 c14, forS (evF (tblP ds) (tblC cs) 8) (tblC cs) (.tp [3, 4]) f_law_b1 (D.tup [.int (i : Int), .int cell]) [some (.v (.scr ns)), some (.v (wishD cw ls)), some (.v (dealD ws)), j3, j4, j5, j6, j7, j8, j9, j10, j11, j12, none, j14] =
      .nx [some (.v (.scr ns)), some (.v (wishD cw ls)), some (.v (dealD ws')), some (.v (.int (i : Int))), some (.v (.int cell)), c5, c6, c7, c8, c9, c10, c11, c12, none, c14] ∧ OkDeal cw ls ws' := by
  have h6 := ok.c2
  have h7 := ok.l2
  have h71 := ok.l1
  have hlen := od.len
  have hz : Sizes [(ls.length : Int), (cw.length : Int) + 4, 1000000000000000000] := ⟨fun z h => by simp at h; omega, fun z h => by rw [show (2 : Int) ^ 64 = 18446744073709551616 by decide]; simp at h; omega, by simp⟩
  have en := ev_numbers (P := tblP ds) (con := tblC cs) (k := 7) (c := cell) (s := 1800 + (i : Int)) rfl hz (by omega)
  have hget : ∀ (j : Nat) (z : Int), [(ls.length : Int), (cw.length : Int) + 4, 1000000000000000000][j]? = some z → ∃ d, (nums cell (1800 + (i : Int)) [(ls.length : Int), (cw.length : Int) + 4, 1000000000000000000])[j]? = some d ∧ 0 ≤ d ∧ d < z := fun j z h => nums_get hz.pos h
  have hnl : (nums cell (1800 + (i : Int)) [(ls.length : Int), (cw.length : Int) + 4, 1000000000000000000]).length = 3 := by rw [nums_length]; rfl
  obtain ⟨d0, g0, p0, q0⟩ := hget 0 _ rfl
  obtain ⟨d1, g1, p1, q1⟩ := hget 1 _ rfl
  obtain ⟨d2, g2, p2, q2⟩ := hget 2 _ rfl
  have hdg : nums cell (1800 + (i : Int)) [(ls.length : Int), (cw.length : Int) + 4, 1000000000000000000] = [d0, d1, d2] := by
    apply List.ext_getElem?
    intro j
    match j with
    | 0 => exact g0
    | 1 => exact g1
    | 2 => exact g2
    | j + 3 => rw [List.getElem?_eq_none (by omega), List.getElem?_eq_none (by simp)]
  rw [hdg] at en
  clear hget hnl g0 g1 g2 hdg
  obtain ⟨a, rfl⟩ : ∃ a : Nat, d0 = a := ⟨d0.toNat, by omega⟩
  have hal : a < ls.length := by omega
  have haw : a < ws.length := by omega
  obtain ⟨had, hh⟩ : ∃ o, ws[a]? = some o := ⟨_, List.getElem?_eq_getElem haw⟩
  have hga : ls.getD a [] = ls[a] := by rw [List.getD_eq_getElem?_getD, List.getElem?_eq_getElem hal]; rfl
  have ty := drawY_ix (many := cw.length) (d2 := d2) p1 q1
  obtain ⟨y, hy⟩ : ∃ y, y = drawY cw.length d1 d2 := ⟨_, rfl⟩
  rw [← hy] at ty
  have ath : addT (.l ((List.range cw.length).map (fun (i : Nat) => T.v (.int (i : Int))))) (.l [.v .non, .v .non, .v (.int ((cw.length : Int) + d2)), .v (.int (-1 - d2))]) = some (.l ((List.range cw.length).map (fun (i : Nat) => T.v (.int (i : Int))) ++ [.v .non, .v .non, .v (.int ((cw.length : Int) + d2)), .v (.int (-1 - d2))])) := addT_ll (by simp; omega)
  obtain ⟨due1, due2⟩ := due_ok (y := y) ok od haw
  have ed := ev_due (k := 1) (y := y) ok hal hh
  have ew := ev_wrongA (k := 3) (ws := ws.set a y) ok (by rw [List.length_set]; exact hlen)
  rw [due1] at ew
  have ew0 := ev_wrong (k := 3) pd ok od
  have ec := ev_counts (k := 2) (ws := ws) ok (by omega) od.wish
  have el := ev_left (k := 3) (ws := ws) ok
  change _ = CR.ret (.l (vis (cnts ls ws))) at ec
  have csum := cnts_sum ok od
  have st := sumT_ints (cnts ls ws)
  rw [csum] at st
  have er1 : (vis (cnts ls ws)).map T.er = (cnts ls ws).map .int := by simp [vis]
  have er2 : (vis (leftOf cw ws)).map T.er = (leftOf cw ws).map .int := by simp [vis]
  have nb1 := noBs_vis (cnts ls ws)
  have nb2 := noBs_vis (leftOf cw ws)
  have i0 : ixT (.v (wishD cw ls)) (.v (.int 0)) = some (.v (.lst (cw.map .int))) := rfl
  have i1 : ixT (.v (wishD cw ls)) (.v (.int 1)) = some (.v (.lst (ls.map ranksD))) := rfl
  have z0 : sizeT (.v (.lst (cw.map .int))) = some cw.length := by simp
  have z1 : sizeT (.v (.lst (ls.map ranksD))) = some ls.length := by simp
  have zw : sizeT (.v (dealD ws)) = some ls.length := by simp [hlen]
  have zb : sizeT (.v (dealD (ws.set a y))) = some ls.length := by simp [hlen]
  have lo : (-(2 : Int) ^ 62 ≤ (cw.length : Int) ∧ (cw.length : Int) < 2 ^ 62) := by omega
  have s62 := sm62' (n := cw.length) (by omega)
  have sl1 : slT (.v (dealD ws)) none (some (a : Int)) = some (.l (((ws.map optD).take a).map .v)) := by
    rw [slT_vl, cutL_to (by omega)]; rfl
  have sl2 : slT (.v (dealD ws)) (some ((a : Int) + 1)) none = some (.l (((ws.map optD).drop (a + 1)).map .v)) := by
    rw [slT_vl, cutL_from (by omega)]; rfl
  have ad1 : addT (.l (((ws.map optD).take a).map .v)) (.l [.v (optD y)]) = some (.l (((ws.map optD).take a).map .v ++ [.v (optD y)])) := addT_ll (by simp; omega)
  have ad2 : addT (.l (((ws.map optD).take a).map .v ++ [.v (optD y)])) (.l (((ws.map optD).drop (a + 1)).map .v)) = some (.l (((ws.map optD).take a).map .v ++ [.v (optD y)] ++ ((ws.map optD).drop (a + 1)).map .v)) := addT_ll (by simp; omega)
  have er3 : D.lst ((((ws.map optD).take a).map T.v ++ [T.v (optD y)] ++ ((ws.map optD).drop (a + 1)).map T.v).map T.er) = dealD (ws.set a y) := by rw [deal_set haw]; simp
  have nb3 : T.noBs (((ws.map optD).take a).map T.v ++ [T.v (optD y)] ++ ((ws.map optD).drop (a + 1)).map T.v) = true := by rw [noBs_append, noBs_append, noBs_mapv', noBs_mapv']; simp
  have p18 : binT .pow (.v (.int 10)) (.v (.int 18)) = some (.v (.int 1000000000000000000)) := by rw [powT_i, if_pos (by decide)]; rfl
  have m1 : ∀ t, had = some t → t ∈ (ls.getD a []).flatten := fun t e => by rw [hga]; exact od.wish a t ls[a] (by rw [hh, e]) (List.getElem?_eq_getElem hal)
  have x0 : ixT (.v (.lst [.int (a : Int), .int d1, .int d2])) (.v (.int 0)) = some (.v (.int (a : Int))) := rfl
  have x1 : ixT (.v (.lst [.int (a : Int), .int d1, .int d2])) (.v (.int 1)) = some (.v (.int d1)) := rfl
  have x2 : ixT (.v (.lst [.int (a : Int), .int d1, .int d2])) (.v (.int 2)) = some (.v (.int d2)) := rfl
  -- the case that all is well
  have good : dueT cw ls ws a y = .v .non → evF (tblP ds) (tblC cs) 8 "counts_of" [wishD cw ls, dealD (ws.set a y)] = .ret (.l (vis (cnts ls (ws.set a y)))) ∧ evF (tblP ds) (tblC cs) 8 "copies_left" [wishD cw ls, dealD (ws.set a y)] = .ret (.l (vis (leftOf cw (ws.set a y)))) ∧
      evF (tblP ds) (tblC cs) 8 "_law_went_on" [wishD cw ls, dealD ws, .int (a : Int), optD y, .lst ((cnts ls ws).map .int), .lst ((leftOf cw ws).map .int)] = .ret (.l [.l (vis (cnts ls (ws.set a y))), .l (vis (leftOf cw (ws.set a y)))]) := fun e => by
    have od2 := due2 e
    have m2 : ∀ t, y = some t → t ∈ (ls.getD a []).flatten := fun t e => by rw [hga]; exact od2.wish a t ls[a] (by rw [List.getElem?_set_self haw, e]) (List.getElem?_eq_getElem hal)
    refine ⟨ev_counts (k := 2) ok (by rw [List.length_set]; omega) od2.wish, ev_left (k := 3) ok, ?_⟩
    rw [cnts_went ok od od2 hh, left_went ok od od2 hh]
    exact ev_went (k := 1) ok hal hh m1 m2 (cnts_len ls ws) (leftOf_len cw ws)
  have nb4 := noBs_vis (cnts ls (ws.set a y))
  have nb5 := noBs_vis (leftOf cw (ws.set a y))
  have eqq : ∀ (u v : List Int), eqT (.v (.lst [.lst ((vis u).map T.er), .lst ((vis v).map T.er)])) (.l [.l (vis u), .l (vis v)]) = some true := fun u v => by
    refine eqT_self (d := .lst [rowD u, rowD v]) ?_ ?_ ?_
    · simp [vis, rowD]
    · simp [vis, rowD]
    · have a1 := okD_row u 58
      have a2 := okD_row v 58
      simp only [D.okD, D.okDs, Bool.and_eq_true] at a1 a2 ⊢
      exact ⟨a1, a2, trivial⟩
  have eqq := eqq (cnts ls (ws.set a y)) (leftOf cw (ws.set a y))
  have e00 : eqT (.v .non) (.v .non) = some true := eqT_self (d := .non) (by simp) (by simp) (by simp [D.okD])
  generalize hV : vis (cnts ls ws) = V at *
  generalize hU : vis (leftOf cw ws) = U at *
  generalize hV2 : vis (cnts ls (ws.set a y)) = V2 at *
  generalize hU2 : vis (leftOf cw (ws.set a y)) = U2 at *
  generalize hcD : (cnts ls ws).map D.int = cD at *
  generalize hlD : (leftOf cw ws).map D.int = lD at *
  generalize hA : ((ws.map optD).take a).map T.v = A at *
  generalize hB : ((ws.map optD).drop (a + 1)).map T.v = Bb at *
  generalize hrl : (List.range cw.length).map (fun (i : Nat) => T.v (.int (i : Int))) = rl at *
  generalize hth : rl ++ [T.v .non, T.v .non, T.v (.int ((cw.length : Int) + d2)), T.v (.int (-1 - d2))] = th at *
  generalize hC : A ++ [T.v (optD y)] = Cc at *
  generalize hD : Cc ++ Bb = Dd at *
  have nonIs : dueT cw ls ws a y = .v .non ∨ ∃ xs, dueT cw ls ws a y = .tp xs ∧ T.noBs xs = true ∧ (T.tp xs).er.okD 60 = true := by
    cases y with
    | none => exact .inl rfl
    | some t =>
      rw [dueT_some]
      split
      · exact .inr ⟨_, rfl, by simp, by simp [D.okD, D.okDs]⟩
      · split
        · exact .inr ⟨_, rfl, by simp, by simp [D.okD, D.okDs]⟩
        · exact .inl rfl
  generalize hoy : optD y = oy at *
  rcases nonIs with e | ⟨xs, e, nx, okx⟩
  · obtain ⟨gc, gl2, gw⟩ := good e
    have od2 := due2 e
    rw [e] at ed ew
    clear good due1 due2
    refine ⟨ws.set a y, some (.v (.int (cw.length : Int))), some (.v (.lst [.int (a : Int), .int d1, .int d2])), some (.v (.int (a : Int))), some (.v oy), some (.v (.lst cD)), some (.v (.lst lD)), some (.v (dealD (ws.set a y))), some (.v .non), some (.v (.lst [.lst (V2.map T.er), .lst (U2.map T.er)])), ?_, od2⟩
    generalize hw : wishD cw ls = w at *
    generalize hwd : dealD ws = wd at *
    generalize hbd : dealD (ws.set a y) = bd at *
    simp -implicitDefEqProofs at en
    simp -implicitDefEqProofs [forS, f_law_b1]
    simp -implicitDefEqProofs [i0, i1, z0, z1, p18, en]
    simp -implicitDefEqProofs [x0, x1, x2, s62, hrl, ath, ty, ec, nb1, er1, el, nb2, er2, sl1, sl2, ad1, ad2, nb3, er3, ed, ew, D.isNon, gc, gl2, gw, nb4, nb5, eqq, st, zw, zb, hlen, e00]
  · rw [e] at ed ew
    have etp : eqT (.tp xs) (.v (.tup (xs.map T.er))) = some true := eqT_self (d := .tup (xs.map T.er)) (by simp) (by simp) (by rw [er_tp] at okx; exact okx)
    clear good due1 due2
    refine ⟨ws, some (.v (.int (cw.length : Int))), some (.v (.lst [.int (a : Int), .int d1, .int d2])), some (.v (.int (a : Int))), some (.v oy), some (.v (.lst cD)), some (.v (.lst lD)), some (.v (dealD (ws.set a y))), some (.v (.tup (xs.map T.er))), j14, ?_, od⟩
    generalize hw : wishD cw ls = w at *
    generalize hwd : dealD ws = wd at *
    generalize hbd : dealD (ws.set a y) = bd at *
    simp -implicitDefEqProofs at en
    simp -implicitDefEqProofs [forS, f_law_b1]
    simp -implicitDefEqProofs [i0, i1, z0, z1, p18, en]
    simp -implicitDefEqProofs [x0, x1, x2, s62, hrl, ath, ty, ec, nb1, er1, el, nb2, er2, sl1, sl2, ad1, ad2, nb3, er3, ed, ew, D.isNon, st, zw, zb, hlen, e00, nx, etp, ew0]
theorem none_ok {cw : List Int} {ls : List (List (List Int))} (ok : Okw cw ls) : OkDeal cw ls (ls.map fun _ => none) where
  len := by rw [List.length_map]
  wish := fun i t rs h => by rw [List.getElem?_map] at h; cases e : ls[i]? <;> rw [e] at h <;> cases h
  most := fun j c hc => by
    have : dealt (ls.map fun _ => none) (j : Int) = 0 := by
      unfold dealt
      rw [List.count_eq_zero]
      intro h
      obtain ⟨_, _, e⟩ := List.mem_map.mp h
      cases e
    rw [this]
    exact (ok.cb c (List.mem_of_getElem? hc)).1
theorem law_ok : ∀ ns : List Int, ns.length ≤ 63 → evF (tblP ds) (tblC cs) 9 "law" [.scr ns] = .ret (.v (.bl true)) := by
  intro ns hn
  rw [evF_at (fn := f_law) rfl rfl]
  obtain ⟨cw, ls, tw, e1, fz, _, ok, _, _⟩ := ev_drawn (P := tblP ds) (con := tblC cs) (k := 6) (ns := ns) (at_ := 0) (mt := 6) (ma := 7) (mr := 5) rfl rfl rfl (by omega) (by omega) (by omega) (by omega) (by omega) (by omega)
  have i1 : ixT (.v (wishD cw ls)) (.v (.int 1)) = some (.v (.lst (ls.map ranksD))) := rfl
  have lc : ∀ a0 a1 a2 a3 a4 a5 a6 a7 a8 a9 a10 a11 a12 a14, lcL (lcS (evF (tblP ds) (tblC cs) 8) (tblC cs) [13] (.nm 13) .no f_law_e1) (ls.map ranksD) [a0, a1, a2, a3, a4, a5, a6, a7, a8, a9, a10, a11, a12, none, a14] [] = .ok (ls.map fun _ => T.v .non) [a0, a1, a2, a3, a4, a5, a6, a7, a8, a9, a10, a11, a12, none, a14] := fun a0 a1 a2 a3 a4 a5 a6 a7 a8 a9 a10 a11 a12 a14 => lcL_mapM fun r _ => by
    obtain ⟨rd, hrd⟩ : ∃ rd, rd = ranksD r := ⟨_, rfl⟩
    rw [← hrd]
    simp -implicitDefEqProofs [lcS, f_law_e1]
  have od : OkDeal cw ls (ls.map fun _ => none) := none_ok ok
  obtain ⟨cells, hcl⟩ : ∃ cells, cells = 3 :: cutL ns (some 8) (some 40) := ⟨_, rfl⟩
  have hcll : cells.length ≤ 64 := by rw [hcl, List.length_cons]; have := cutL_len ns (some 8) (some 40); omega
  have loop : ∀ (cells : List Int) (n : Nat) (ws : List (Option Int)) (j3 j4 j5 j6 j7 j8 j9 j10 j11 j12 j14 : Option T), n + cells.length ≤ 100 → OkDeal cw ls ws → ∃ Γ, forL (forS (evF (tblP ds) (tblC cs) 8) (tblC cs) (.tp [3, 4]) f_law_b1) (((cells.map D.int).zipIdx n).map fun p => D.tup [.int p.2, p.1]) [some (.v (.scr ns)), some (.v (wishD cw ls)), some (.v (dealD ws)), j3, j4, j5, j6, j7, j8, j9, j10, j11, j12, none, j14] = .nx Γ := by
    intro cells
    induction cells with
    | nil => intro n ws j3 j4 j5 j6 j7 j8 j9 j10 j11 j12 j14 _ _; exact ⟨_, rfl⟩
    | cons c cells ih =>
      intro n ws j3 j4 j5 j6 j7 j8 j9 j10 j11 j12 j14 hl od
      rw [List.length_cons] at hl
      obtain ⟨ws', c5, c6, c7, c8, c9, c10, c11, c12, c14, e, od'⟩ := lstep (ns := ns) (i := n) (cell := c) (j3 := j3) (j4 := j4) (j5 := j5) (j6 := j6) (j7 := j7) (j8 := j8) (j9 := j9) (j10 := j10) (j11 := j11) (j12 := j12) (j14 := j14) ok od (by omega)
      obtain ⟨Γ, ih⟩ := ih (n + 1) ws' (some (.v (.int (n : Int)))) (some (.v (.int c))) c5 c6 c7 c8 c9 c10 c11 c12 c14 (by omega) od'
      rw [List.map_cons, List.zipIdx_cons, List.map_cons, forL_nx e]
      exact ⟨Γ, ih⟩
  obtain ⟨Γ, loop⟩ := loop cells 0 (ls.map fun _ => none) none none none none none none none none none none none (by omega) od
  have ad : addT (.l [.v (.int 3)]) (.l ((cutL ns (some 8) (some 40)).map fun n => T.v (.int n))) = some (.l (vis cells)) := by
    rw [addT_ll (by have := cutL_len ns (some 8) (some 40); rw [List.length_map, List.length_cons, List.length_nil]; omega), hcl]; rfl
  have er : (vis cells).map T.er = cells.map D.int := by simp [vis]
  have nb := noBs_vis cells
  have dn : dealD (ls.map fun _ => (none : Option Int)) = .lst (ls.map fun _ => D.non) := by simp [optD]
  rw [dn] at loop
  have hll : ls.length ≤ 16777216 := by have := ok.l2; omega
  generalize hv : vis cells = v at *
  generalize hcc : cells.map D.int = cc at *
  generalize hw : wishD cw ls = w at *
  simp -implicitDefEqProofs at e1 loop
  simp -implicitDefEqProofs [f_law, env0]
  simp -implicitDefEqProofs [e1, fz, i1, lc, hll]
  simp -implicitDefEqProofs [ad, nb, er, loop]
end Kx
open PySem PySem.Spec PyProof.Rows L2
namespace Kx
open Tv
abbrev RR : PySem.W.OpenRow := PySem.W.OpenLaw.row PySem.Challenge.rw_wishdeal_k19_whole_dealt_step_by_step
abbrev pp : W.Frag → Bool := tvB (ds.map Df.nm) cs
abbrev fnl : List He.DefD := ds.map Df.d
theorem run (w : World) : HandSHeadRun.RunEq RR (PySem.W.view RR.prog [lawAt]) (hookV 4 pp fnl) (obV 4 pp fnl) 4000 loose w := by
  intro os
  kernel_rfl
theorem fin (hw : RR.toRowW.promised) : RR.Holds :=
  HandSHeadRun.head_any (r := RR) (q := PySem.W.view RR.prog [lawAt]) (H := hookV 4 pp fnl) (ob := obV 4 pp fnl) (M := 4000) (loose := loose) (d := HandSHeadRun.topDef RR.prog lawAt) (kwd := []) obV_eq (by kernel_rfl) (fun s => by kernel_rfl) run
    (by kernel_rfl) (by kernel_rfl) (by kernel_rfl) (by rfl) (by first | assumption | decide +kernel) (by decide +kernel) ⟨rfl, rfl, rfl, rfl, rfl, by decide +kernel⟩ hw
    (law_end (l := PySem.Challenge.rw_wishdeal_k19_whole_dealt_step_by_step) (n := 63) (k := 9) (x := "_law_script") (el := d_law) txt (by simp [ds]) rfl rfl (by decide) (by kernel_rfl) ⟨rfl, by decide, by decide⟩ (by kernel_rfl) law_ok)
end Kx
open PySem PySem.W PyProof.Rows
set_option maxRecDepth 100000 in
set_option maxHeartbeats 0 in
theorem PySem.Challenge.cw_wishdeal_k19_whole_dealt_step_by_step_holds : PySem.Challenge.rw_wishdeal_k19_whole_dealt_step_by_step.Holds := by
  w_on; o_law
  refine Kx.fin ?hw
  case hw => w_witness2
