import PyProof.Rows.All
import Wide.All
import OpenK.AllK
import Wide.FinOn
import HandS.ForMost
import HandS.ForExc
import HandS.IsInst
import HandS.Wide
import HandS.Walk
import HandS.Flow
import HandS.Style
import HandS.CallSlots
import HandS.ExcInit
import HandS.HeadHook2
import PyProof.SumWalkG
import PyProof.WalkInts
import PyProof.ListOps
import KE.DataCmp
import HandS.SortInts
import HandS.SortRule
import HandS.Deep
import HandS.CallRecv
import HandS.SetFor
import HandS.Conv
import HandS.TryOnly
import HandS.Codes
import HandS.Defaults
import HandS.More
import HandS.HeadEnd
import HandS.Head2
import HandS.Ends
import KE.KStateDown
import PySem.Challenge.RW_wishdeal_k09_longest_and_all
set_option Elab.async false
set_option linter.all false
set_option maxRecDepth 100000
set_option maxHeartbeats 0
namespace Tv
open PySem PySem.Spec PyProof.Rows L2

/-! ### data -/
inductive D where
  | non | bl (b : Bool) | int (i : Int) | str (s : List Nat)
  | lst (xs : List D) | tup (xs : List D) | ktp (xs : List D) | scr (xs : List Int)
  | dct (t : Bool) (ks vs : List D) | obj (c : String) (ns : List String) (vs : List D) | exc (c : String) (ns : List String) (vs : List D)

/-- v: frozen, w: frozen and made in this def, b: read only until something is written; the rest is owned -/
inductive T where
  | v (d : D) | w (d : D) | b (d : D) | l (ts : List T) | tp (ts : List T) | dc (t : Bool) (ks : List D) (ts : List T) | ob (c : String) (ns : List String) (ts : List T)

def D.flat : D → Bool
  | .non | .bl _ | .int _ | .str _ => true
  | _ => false
mutual
/-- never written by anybody -/
def D.imm : D → Bool
  | .non | .bl _ | .int _ | .str _ => true
  | .tup xs => D.imms xs
  | .ktp xs => D.imms xs
  | .exc _ _ vs => D.imms vs
  | _ => false
def D.imms : List D → Bool
  | [] => true
  | d :: ds => d.imm && D.imms ds
end
theorem imms_all (ds : List D) : D.imms ds = ds.all D.imm := by
  induction ds with
  | nil => rfl
  | cons t ts ih => simp [D.imms, ih]

mutual
def T.er : T → D
  | .v d => d
  | .w d => d
  | .b d => d
  | .l ts => .lst (T.ers ts)
  | .tp ts => .tup (T.ers ts)
  | .dc t ks ts => .dct t ks (T.ers ts)
  | .ob c ns ts => .obj c ns (T.ers ts)
def T.ers : List T → List D
  | [] => []
  | t :: ts => t.er :: T.ers ts
end
mutual
def T.noB : T → Bool
  | .v _ => true
  | .w _ => true
  | .b _ => false
  | .l ts => T.noBs ts
  | .tp ts => T.noBs ts
  | .dc _ _ ts => T.noBs ts
  | .ob _ _ ts => T.noBs ts
def T.noBs : List T → Bool
  | [] => true
  | t :: ts => t.noB && T.noBs ts
end
mutual
/-- nothing in it but what is new or never written -/
def T.cl : T → Bool
  | .v d => d.imm
  | .w _ => true
  | .b _ => false
  | .l ts => T.cls ts
  | .tp ts => T.cls ts
  | .dc _ _ ts => T.cls ts
  | .ob _ _ ts => T.cls ts
def T.cls : List T → Bool
  | [] => true
  | t :: ts => t.cl && T.cls ts
end
theorem ers_map (ts : List T) : T.ers ts = ts.map T.er := by
  induction ts with
  | nil => rfl
  | cons t ts ih => simp [T.ers, ih]
theorem noBs_all (ts : List T) : T.noBs ts = ts.all T.noB := by
  induction ts with
  | nil => rfl
  | cons t ts ih => simp [T.noBs, ih]
theorem cls_all (ts : List T) : T.cls ts = ts.all T.cl := by
  induction ts with
  | nil => rfl
  | cons t ts ih => simp [T.cls, ih]
mutual
theorem T.noB_of_cl : ∀ {t : T}, t.cl = true → t.noB = true
  | .v _, _ => rfl
  | .w _, _ => rfl
  | .b _, h => by simp [T.cl] at h
  | .l ts, h => by simp only [T.cl] at h; simp only [T.noB]; exact T.noBs_of_cls h
  | .tp ts, h => by simp only [T.cl] at h; simp only [T.noB]; exact T.noBs_of_cls h
  | .dc _ _ ts, h => by simp only [T.cl] at h; simp only [T.noB]; exact T.noBs_of_cls h
  | .ob _ _ ts, h => by simp only [T.cl] at h; simp only [T.noB]; exact T.noBs_of_cls h
theorem T.noBs_of_cls : ∀ {ts : List T}, T.cls ts = true → T.noBs ts = true
  | [], _ => rfl
  | t :: ts, h => by
    simp only [T.cls, Bool.and_eq_true] at h
    simp only [T.noBs, Bool.and_eq_true]
    exact ⟨T.noB_of_cl h.1, T.noBs_of_cls h.2⟩
end

def okS (s : List Nat) : Bool := decide (s.length ≤ sizeLine) && s.all (fun c => decide (c < 0x110000))

/-! ### heaps -/
def isDic : HO → Bool
  | .dK _ | .dT _ => true
  | _ => false
/-- more stands there; a dict may be locked -/
def Sub (F F' : Hp) : Prop := ∀ a o, F a = some o → F' a = some o ∨ (isDic o = true ∧ ∃ ob, F' a = some (.frz ob o))
theorem Sub.refl {F : Hp} : Sub F F := fun _ _ h => .inl h
theorem Sub.trans {F F' F'' : Hp} (a : Sub F F') (b : Sub F' F'') : Sub F F'' := fun x o h => by
  rcases a x o h with h | ⟨d, ob, h⟩
  · exact b x o h
  · rcases b x _ h with h | ⟨d', _⟩
    · exact .inr ⟨d, ob, h⟩
    · cases d'
theorem Sub.eq {F F' : Hp} (h : Sub F F') {a : Addr} {o : HO} (e : F a = some o) (d : isDic o = false) : F' a = some o := by
  rcases h a o e with h | ⟨d', _⟩
  · exact h
  · rw [d] at d'; cases d'
theorem Sub.rd {F F' : Hp} (h : Sub F F') {a : Addr} {u : HO} (e : Rd F a u) : Rd F' a u := by
  rcases e with e | ⟨o, e⟩
  · rcases h a u e with h | ⟨_, ob, h⟩
    · exact .inl h
    · exact .inr ⟨ob, h⟩
  · exact .inr ⟨o, h.eq e rfl⟩
theorem Sub.ne {F F' : Hp} (h : Sub F F') {a : Addr} (e : F a ≠ none) : F' a ≠ none := by
  cases q : F a with
  | none => exact absurd q e
  | some o =>
    rcases h a o q with h | ⟨_, ob, h⟩ <;> rw [h] <;> simp
theorem Sub.none {F F' : Hp} (h : Sub F F') {a : Addr} (e : F' a = none) : F a = none := by
  cases q : F a with
  | none => rfl
  | some o => exact absurd e (h.ne (by rw [q]; simp))
theorem Sub.of {F F' : Hp} (h : ∀ a o, F a = some o → F' a = some o) : Sub F F' := fun a o e => .inl (h a o e)
theorem Sub.sqT {K : W.Frag} {F F' : Hp} (h : Sub F F') {a xs} (s : SqT K F a xs) : SqT K F' a xs := by
  rcases s with (s | ⟨o, s⟩) | s
  · exact .inl (.inl (h.eq s rfl))
  · exact .inl (.inr ⟨o, h.eq s rfl⟩)
  · exact .inr s
theorem Sub.sqL {K : W.Frag} {F F' : Hp} (h : Sub F F') {a xs} (s : SqL K F a xs) : SqL K F' a xs := by
  rcases s with (s | ⟨o, s⟩) | s
  · exact .inl (.inl (h.eq s rfl))
  · exact .inl (.inr ⟨o, h.eq s rfl⟩)
  · exact .inr s
theorem upd_sub {H : Hp} {p : Addr} {o : HO} (hp : H p = none) : Sub H (upd H p o) := fun a u e => by
  rw [upd_ne (fun q => by subst q; rw [hp] at e; cases e)]; exact .inl e
/-- for good, by their kind -/
def stab : HO → Bool
  | .tup _ => true
  | .frz _ (.tup _) => true
  | .ext _ => true
  | .xd _ => true
  | _ => false
theorem stab_dic {o : HO} (h : stab o = true) : isDic o = false := by
  cases o <;> first | rfl | cases h

/-! ### frozen data -/
def keyD1 : Key → D
  | .inl i => .int i
  | .inr x => .str x.cps.toList
def keyOk : Key → Bool
  | .inl _ => true
  | .inr x => okS x.cps.toList
/-- what a dict's object holds: keys, values -/
inductive DH : Bool → HO → List D → List V → Prop
  | k (kvs : List (Key × V)) (h : (kvs.all fun p => keyOk p.1) = true) (nd : (kvs.map Prod.fst).Nodup) : DH false (.dK kvs) (kvs.map fun p => keyD1 p.1) (kvs.map Prod.snd)
  | t (kvs : List (List Key × V)) (h : (kvs.all fun p => p.1.all keyOk) = true) (nd : (kvs.map Prod.fst).Nodup) : DH true (.dT kvs) (kvs.map fun p => .tup (p.1.map keyD1)) (kvs.map Prod.snd)
theorem DH.dic {t : Bool} {u : HO} {ks : List D} {vs : List V} (h : DH t u ks vs) : isDic u = true := by cases h <;> rfl
/-- an own class's place -/
abbrev clsA (K : W.Frag) (c : String) : Addr := He.ga K (Str.ofString c)
structure ObjC (K : W.Frag) (c : String) (ns : List String) : Prop where
  cls : Cls K (clsA K c)
  no : ∀ f ∈ ns, NoAttr K (clsA K c) (Str.ofString f)
def excAt (a C : Addr) (dopt : Option Addr) : HO := .ext fun h => ∃ o vs, h.get? a = some o ∧ o.cls = .ref C ∧ o.dict = dopt ∧ o.data = .fields vs
mutual
inductive RpD (K : W.Frag) (F : Hp) : V → D → Prop
  | non : RpD K F .non .non
  | bl (b : Bool) : RpD K F (.bl b) (.bl b)
  | int (i : Int) : RpD K F (.int i) (.int i)
  | str (x : Str) (h : okS x.cps.toList = true) : RpD K F (.str x) (.str x.cps.toList)
  | lst {a : Addr} {xs : List V} {ds : List D} (h : F a = some (.lst xs)) (r : RpDs K F xs ds) : RpD K F (.ref a) (.lst ds)
  | tup {a : Addr} {xs : List V} {ds : List D} (h : F a = some (.tup xs)) (r : RpDs K F xs ds) : RpD K F (.ref a) (.tup ds)
  | ktp {a : Addr} {xs : List V} {ds : List D} (h : SqT K F a xs) (r : RpDs K F xs ds) : RpD K F (.ref a) (.ktp ds)
  | scr {a : Addr} {ns : List Int} (h : SqL K F a (ns.map V.int)) : RpD K F (.ref a) (.scr ns)
  | dct {a : Addr} {t : Bool} {u : HO} {ks : List D} {xs : List V} {ds : List D} (h : Rd F a u) (q : DH t u ks xs) (r : RpDs K F xs ds) : RpD K F (.ref a) (.dct t ks ds)
  | obj {a dx : Addr} {fs : List (Str × V)} {c : String} {ns : List String} {xs : List V} {ds : List D} (hc : ObjC K c ns) (h : F a = some (.ins (clsA K c) dx fs)) (hn : fs.map Prod.fst = ns.map Str.ofString) (hx : fs.map Prod.snd = xs) (r : RpDs K F xs ds) : RpD K F (.ref a) (.obj c ns ds)
  | exc {a : Addr} {dopt : Option Addr} {fs : List (Str × V)} {c : String} {ns : List String} {xs : List V} {ds : List D} (h : F a = some (excAt a (clsA K c) dopt)) (hd : (dopt = none ∧ fs = []) ∨ ∃ d, dopt = some d ∧ F d = some (.xd fs))
      (hn : fs.map Prod.fst = ns.map Str.ofString) (hx : fs.map Prod.snd = xs) (r : RpDs K F xs ds) : RpD K F (.ref a) (.exc c ns ds)
inductive RpDs (K : W.Frag) (F : Hp) : List V → List D → Prop
  | nil : RpDs K F [] []
  | cons {x : V} {xs : List V} {d : D} {ds : List D} (r : RpD K F x d) (rs : RpDs K F xs ds) : RpDs K F (x :: xs) (d :: ds)
end
mutual
theorem RpD.mono {K : W.Frag} {F F' : Hp} (h : Sub F F') : ∀ {x : V} {d : D}, RpD K F x d → RpD K F' x d
  | _, _, .non => .non
  | _, _, .bl b => .bl b
  | _, _, .int i => .int i
  | _, _, .str x e => .str x e
  | _, _, .lst e r => .lst (h.eq e rfl) (RpDs.mono h r)
  | _, _, .tup e r => .tup (h.eq e rfl) (RpDs.mono h r)
  | _, _, .ktp e r => .ktp (h.sqT e) (RpDs.mono h r)
  | _, _, .scr e => .scr (h.sqL e)
  | _, _, .dct e q r => .dct (h.rd e) q (RpDs.mono h r)
  | _, _, .obj c e n x r => .obj c (h.eq e rfl) n x (RpDs.mono h r)
  | _, _, .exc e d n x r => .exc (h.eq e rfl) (d.elim .inl fun ⟨d, e1, e2⟩ => .inr ⟨d, e1, h.eq e2 rfl⟩) n x (RpDs.mono h r)
theorem RpDs.mono {K : W.Frag} {F F' : Hp} (h : Sub F F') : ∀ {x : List V} {d : List D}, RpDs K F x d → RpDs K F' x d
  | _, _, .nil => .nil
  | _, _, .cons a b => .cons (RpD.mono h a) (RpDs.mono h b)
end
/-- F' has what F has for good -/
def Stb (F F' : Hp) : Prop := ∀ a o, F a = some o → stab o = true → F' a = some o
theorem Stb.sqT {K : W.Frag} {F F' : Hp} (h : Stb F F') {a xs} (s : SqT K F a xs) : SqT K F' a xs := by
  rcases s with (s | ⟨o, s⟩) | s
  · exact .inl (.inl (h _ _ s rfl))
  · exact .inl (.inr ⟨o, h _ _ s rfl⟩)
  · exact .inr s
mutual
theorem RpD.imm {K : W.Frag} {F F' : Hp} (h : Stb F F') : ∀ {x : V} {d : D}, RpD K F x d → d.imm = true → RpD K F' x d
  | _, _, .non, _ => .non
  | _, _, .bl b, _ => .bl b
  | _, _, .int i, _ => .int i
  | _, _, .str x e, _ => .str x e
  | _, _, .lst e r, i => by simp [D.imm] at i
  | _, _, .tup e r, i => .tup (h _ _ e rfl) (RpDs.imm h r (by simpa [D.imm] using i))
  | _, _, .ktp e r, i => .ktp (h.sqT e) (RpDs.imm h r (by simpa [D.imm] using i))
  | _, _, .scr e, i => by simp [D.imm] at i
  | _, _, .dct e q r, i => by simp [D.imm] at i
  | _, _, .obj c e n x r, i => by simp [D.imm] at i
  | _, _, .exc e d n x r, i => .exc (h _ _ e rfl) (d.elim .inl fun ⟨d, e1, e2⟩ => .inr ⟨d, e1, h _ _ e2 rfl⟩) n x (RpDs.imm h r (by simpa [D.imm] using i))
theorem RpDs.imm {K : W.Frag} {F F' : Hp} (h : Stb F F') : ∀ {x : List V} {d : List D}, RpDs K F x d → D.imms d = true → RpDs K F' x d
  | _, _, .nil, _ => .nil
  | _, _, .cons a b, i => by
    simp only [D.imms, Bool.and_eq_true] at i
    exact .cons (RpD.imm h a i.1) (RpDs.imm h b i.2)
end
theorem RpDs.length {K : W.Frag} {F : Hp} : ∀ {x : List V} {d : List D}, RpDs K F x d → x.length = d.length
  | _, _, .nil => rfl
  | _, _, .cons _ r => by simp [RpDs.length r]
theorem RpDs.get {K : W.Frag} {F : Hp} : ∀ {xs : List V} {ds : List D} (i : Nat) {d : D}, RpDs K F xs ds → ds[i]? = some d → ∃ x, xs[i]? = some x ∧ RpD K F x d
  | _, _, _, _, .nil, e => by simp at e
  | _, _, 0, _, .cons r _, e => by simp at e; subst e; exact ⟨_, rfl, r⟩
  | _, _, i + 1, d, .cons _ t, e => by
    obtain ⟨u, h1, h2⟩ := RpDs.get (d := d) i t (by simpa using e)
    exact ⟨u, by simpa using h1, h2⟩
theorem RpDs.getV {K : W.Frag} {F : Hp} : ∀ {xs : List V} {ds : List D} (i : Nat) {x : V}, RpDs K F xs ds → xs[i]? = some x → ∃ d, ds[i]? = some d ∧ RpD K F x d
  | _, _, _, _, .nil, e => by simp at e
  | _, _, 0, _, .cons r _, e => by simp at e; subst e; exact ⟨_, rfl, r⟩
  | _, _, i + 1, d, .cons _ t, e => by
    obtain ⟨u, h1, h2⟩ := RpDs.getV (x := d) i t (by simpa using e)
    exact ⟨u, by simpa using h1, h2⟩
theorem RpDs.append {K : W.Frag} {F : Hp} : ∀ {xs ys : List V} {ds es : List D}, RpDs K F xs ds → RpDs K F ys es → RpDs K F (xs ++ ys) (ds ++ es)
  | _, _, _, _, .nil, r => r
  | _, _, _, _, .cons a b, r => .cons a (RpDs.append b r)
theorem RpDs.take {K : W.Frag} {F : Hp} : ∀ (n : Nat) {xs : List V} {ds : List D}, RpDs K F xs ds → RpDs K F (xs.take n) (ds.take n)
  | 0, _, _, _ => .nil
  | _ + 1, _, _, .nil => .nil
  | n + 1, _, _, .cons a b => .cons a (RpDs.take n b)
theorem RpDs.drop {K : W.Frag} {F : Hp} : ∀ (n : Nat) {xs : List V} {ds : List D}, RpDs K F xs ds → RpDs K F (xs.drop n) (ds.drop n)
  | 0, _, _, r => r
  | _ + 1, _, _, .nil => .nil
  | n + 1, _, _, .cons _ b => RpDs.drop n b

/-! ### what is frozen: f all, n what this def made (and what is never written) -/
structure FF where
  f : Hp
  n : Hp
instance : Coe FF Hp := ⟨FF.f⟩
instance : CoeFun FF fun _ => Hp := ⟨FF.f⟩
structure SubF (F F' : FF) : Prop where
  f : Sub F.f F'.f
  n : Sub F.n F'.n
theorem SubF.refl {F : FF} : SubF F F := ⟨Sub.refl, Sub.refl⟩
theorem SubF.trans {F F' F'' : FF} (a : SubF F F') (b : SubF F' F'') : SubF F F'' := ⟨a.f.trans b.f, a.n.trans b.n⟩
def FF.add (F : FF) (p : Addr) (o : HO) : FF := ⟨upd F.f p o, upd F.n p o⟩

/-! ### owned data -/
mutual
inductive RpT (K : W.Frag) (F : FF) (H : Hp) : V → T → List Addr → Prop
  | v {x : V} {d : D} (r : RpD K F.f x d) : RpT K F H x (.v d) []
  | w {x : V} {d : D} (r : RpD K F.n x d) : RpT K F H x (.w d) []
  | b {x : V} {d : D} (r : RpD K H x d) : RpT K F H x (.b d) []
  | l {a : Addr} {xs : List V} {ts : List T} {f : List Addr} (h : H a = some (.lst xs)) (r : RpTs K F H xs ts f) : RpT K F H (.ref a) (.l ts) (a :: f)
  | tp {a : Addr} {xs : List V} {ts : List T} {f : List Addr} (h : F.n a = some (.tup xs)) (r : RpTs K F H xs ts f) : RpT K F H (.ref a) (.tp ts) f
  | dc {a : Addr} {t : Bool} {u : HO} {ks : List D} {xs : List V} {ts : List T} {f : List Addr} (h : Rd H a u) (q : DH t u ks xs) (r : RpTs K F H xs ts f) : RpT K F H (.ref a) (.dc t ks ts) (a :: f)
  | ob {a dx : Addr} {fs : List (Str × V)} {c : String} {ns : List String} {xs : List V} {ts : List T} {f : List Addr} (hc : ObjC K c ns) (h : H a = some (.ins (clsA K c) dx fs)) (hn : fs.map Prod.fst = ns.map Str.ofString) (hx : fs.map Prod.snd = xs) (r : RpTs K F H xs ts f) :
      RpT K F H (.ref a) (.ob c ns ts) (a :: f)
inductive RpTs (K : W.Frag) (F : FF) (H : Hp) : List V → List T → List Addr → Prop
  | nil : RpTs K F H [] [] []
  | cons {x : V} {xs : List V} {t : T} {ts : List T} {f g : List Addr} (r : RpT K F H x t f) (rs : RpTs K F H xs ts g) : RpTs K F H (x :: xs) (t :: ts) (f ++ g)
end
mutual
/-- nothing borrowed: only the footprint is asked -/
theorem RpT.frame {K : W.Frag} {F F' : FF} {H H' : Hp} (hF : SubF F F') : ∀ {x : V} {t : T} {f : List Addr}, RpT K F H x t f → t.noB = true → (∀ a ∈ f, H' a = H a) → RpT K F' H' x t f
  | _, _, _, .v r, _, _ => .v (r.mono hF.f)
  | _, _, _, .w r, _, _ => .w (r.mono hF.n)
  | _, _, _, .b r, e, _ => by simp [T.noB] at e
  | _, _, _, .l h r, e, k => .l ((k _ (by simp)).trans h) (RpTs.frame hF r (by simpa [T.noB] using e) fun a ha => k a (by simp [ha]))
  | _, _, _, .tp h r, e, k => .tp (hF.n.eq h rfl) (RpTs.frame hF r (by simpa [T.noB] using e) k)
  | _, _, _, .dc (a := a) h q r, e, k => .dc (by unfold Rd at h ⊢; rw [k a (by simp)]; exact h) q (RpTs.frame hF r (by simpa [T.noB] using e) fun a ha => k a (by simp [ha]))
  | _, _, _, .ob c h n x r, e, k => .ob c ((k _ (by simp)).trans h) n x (RpTs.frame hF r (by simpa [T.noB] using e) fun a ha => k a (by simp [ha]))
theorem RpTs.frame {K : W.Frag} {F F' : FF} {H H' : Hp} (hF : SubF F F') : ∀ {x : List V} {t : List T} {f : List Addr}, RpTs K F H x t f → T.noBs t = true → (∀ a ∈ f, H' a = H a) → RpTs K F' H' x t f
  | _, _, _, .nil, _, _ => .nil
  | _, _, _, .cons a b, e, k => by
    simp [T.noBs] at e
    exact .cons (RpT.frame hF a e.1 fun y hy => k y (by simp [hy])) (RpTs.frame hF b e.2 fun y hy => k y (by simp [hy]))
end
mutual
/-- all stays -/
theorem RpT.grow {K : W.Frag} {F F' : FF} {H H' : Hp} (hF : SubF F F') (hH : Sub H H') : ∀ {x : V} {t : T} {f : List Addr}, RpT K F H x t f → RpT K F' H' x t f
  | _, _, _, .v r => .v (r.mono hF.f)
  | _, _, _, .w r => .w (r.mono hF.n)
  | _, _, _, .b r => .b (r.mono hH)
  | _, _, _, .l h r => .l (hH.eq h rfl) (RpTs.grow hF hH r)
  | _, _, _, .tp h r => .tp (hF.n.eq h rfl) (RpTs.grow hF hH r)
  | _, _, _, .dc h q r => .dc (hH.rd h) q (RpTs.grow hF hH r)
  | _, _, _, .ob c h n x r => .ob c (hH.eq h rfl) n x (RpTs.grow hF hH r)
theorem RpTs.grow {K : W.Frag} {F F' : FF} {H H' : Hp} (hF : SubF F F') (hH : Sub H H') : ∀ {x : List V} {t : List T} {f : List Addr}, RpTs K F H x t f → RpTs K F' H' x t f
  | _, _, _, .nil => .nil
  | _, _, _, .cons a b => .cons (RpT.grow hF hH a) (RpTs.grow hF hH b)
end
mutual
/-- as it may be read -/
theorem RpT.read {K : W.Frag} {F : FF} {H : Hp} (hF : Sub F.f H) (hN : Sub F.n F.f) : ∀ {x : V} {t : T} {f : List Addr}, RpT K F H x t f → RpD K H x t.er
  | _, _, _, .v r => r.mono hF
  | _, _, _, .w r => r.mono (hN.trans hF)
  | _, _, _, .b r => r
  | _, _, _, .l h r => .lst h (RpTs.read hF hN r)
  | _, _, _, .tp h r => .tup ((hN.trans hF).eq h rfl) (RpTs.read hF hN r)
  | _, _, _, .dc h q r => .dct h q (RpTs.read hF hN r)
  | _, _, _, .ob c h n x r => .obj c h n x (RpTs.read hF hN r)
theorem RpTs.read {K : W.Frag} {F : FF} {H : Hp} (hF : Sub F.f H) (hN : Sub F.n F.f) : ∀ {x : List V} {t : List T} {f : List Addr}, RpTs K F H x t f → RpDs K H x (T.ers t)
  | _, _, _, .nil => .nil
  | _, _, _, .cons a b => .cons (RpT.read hF hN a) (RpTs.read hF hN b)
end
/-- F with what stands at fp -/
def addH (F H : Hp) (f : List Addr) : Hp := fun a => if a ∈ f then H a else F a
theorem addH_sub {F H : Hp} {f : List Addr} (h : Sub F H) : Sub F (addH F H f) := fun a o e => by
  unfold addH; split
  · exact h a o e
  · exact .inl e
theorem addH_in {F H : Hp} {f : List Addr} (h : Sub F H) : Sub (addH F H f) H := fun a o e => by
  unfold addH at e; split at e
  · exact .inl e
  · exact h a o e
theorem addH_more {F H : Hp} {f g : List Addr} (h : Sub F H) (k : ∀ a ∈ f, a ∈ g) : Sub (addH F H f) (addH F H g) := fun a o e => by
  unfold addH at e ⊢; split at e
  · rename_i hm; rw [if_pos (k a hm)]; exact .inl e
  · split
    · exact h a o e
    · exact .inl e
theorem addH_mono {F F' H : Hp} {f : List Addr} (h : Sub F F') : Sub (addH F H f) (addH F' H f) := fun a o e => by
  unfold addH at e ⊢; split at e
  · rename_i hm; rw [if_pos hm]; exact .inl e
  · rename_i hm; rw [if_neg hm]; exact h a o e
def FF.addF (F : FF) (H : Hp) (f : List Addr) : FF := ⟨addH F.f H f, addH F.n H f⟩
theorem addF_sub {F : FF} {H : Hp} {f : List Addr} (hF : Sub F.f H) (hN : Sub F.n F.f) : SubF F (F.addF H f) := ⟨addH_sub hF, addH_sub (hN.trans hF)⟩
theorem addF_more {F : FF} {H : Hp} {f g : List Addr} (hF : Sub F.f H) (hN : Sub F.n F.f) (k : ∀ a ∈ f, a ∈ g) : SubF (F.addF H f) (F.addF H g) := ⟨addH_more hF k, addH_more (hN.trans hF) k⟩
mutual
/-- frozen -/
theorem RpT.freeze {K : W.Frag} {F : FF} {H : Hp} (hF : Sub F.f H) (hN : Sub F.n F.f) : ∀ {x : V} {t : T} {f : List Addr}, RpT K F H x t f → t.noB = true → RpD K (addH F.f H f) x t.er
  | _, _, _, .v r, _ => r.mono (addH_sub hF)
  | _, _, _, .w r, _ => r.mono (hN.trans (addH_sub hF))
  | _, _, _, .b r, e => by simp [T.noB] at e
  | _, _, _, .l h r, e => .lst (by unfold addH; rw [if_pos (by simp)]; exact h) ((RpTs.freeze hF hN r (by simpa [T.noB] using e)).mono (addH_more hF fun a ha => by simp [ha]))
  | _, _, _, .tp h r, e => .tup ((addH_sub hF).eq (hN.eq h rfl) rfl) (RpTs.freeze hF hN r (by simpa [T.noB] using e))
  | _, _, _, .dc (a := a) (f := f) h q r, e => .dct (by unfold Rd at h ⊢; unfold addH; rw [if_pos (by simp)]; exact h) q ((RpTs.freeze hF hN r (by simpa [T.noB] using e)).mono (addH_more hF fun a ha => by simp [ha]))
  | _, _, _, .ob c h n x r, e => .obj c (by unfold addH; rw [if_pos (by simp)]; exact h) n x ((RpTs.freeze hF hN r (by simpa [T.noB] using e)).mono (addH_more hF fun a ha => by simp [ha]))
theorem RpTs.freeze {K : W.Frag} {F : FF} {H : Hp} (hF : Sub F.f H) (hN : Sub F.n F.f) : ∀ {x : List V} {t : List T} {f : List Addr}, RpTs K F H x t f → T.noBs t = true → RpDs K (addH F.f H f) x (T.ers t)
  | _, _, _, .nil, _ => .nil
  | _, _, _, .cons a b, e => by
    simp [T.noBs] at e
    exact .cons ((RpT.freeze hF hN a e.1).mono (addH_more hF fun y hy => by simp [hy])) ((RpTs.freeze hF hN b e.2).mono (addH_more hF fun y hy => by simp [hy]))
end
mutual
/-- frozen, and new -/
theorem RpT.freezeN {K : W.Frag} {F : FF} {H : Hp} (hF : Sub F.n H) (hS : Stb F.f F.n) : ∀ {x : V} {t : T} {f : List Addr}, RpT K F H x t f → t.cl = true → RpD K (addH F.n H f) x t.er
  | _, _, _, .v r, e => (r.imm hS (by simpa [T.cl] using e)).mono (addH_sub hF)
  | _, _, _, .w r, _ => r.mono (addH_sub hF)
  | _, _, _, .b r, e => by simp [T.cl] at e
  | _, _, _, .l h r, e => .lst (by unfold addH; rw [if_pos (by simp)]; exact h) ((RpTs.freezeN hF hS r (by simpa [T.cl] using e)).mono (addH_more hF fun a ha => by simp [ha]))
  | _, _, _, .tp h r, e => .tup ((addH_sub hF).eq h rfl) (RpTs.freezeN hF hS r (by simpa [T.cl] using e))
  | _, _, _, .dc (a := a) (f := f) h q r, e => .dct (by unfold Rd at h ⊢; unfold addH; rw [if_pos (by simp)]; exact h) q ((RpTs.freezeN hF hS r (by simpa [T.cl] using e)).mono (addH_more hF fun a ha => by simp [ha]))
  | _, _, _, .ob c h n x r, e => .obj c (by unfold addH; rw [if_pos (by simp)]; exact h) n x ((RpTs.freezeN hF hS r (by simpa [T.cl] using e)).mono (addH_more hF fun a ha => by simp [ha]))
theorem RpTs.freezeN {K : W.Frag} {F : FF} {H : Hp} (hF : Sub F.n H) (hS : Stb F.f F.n) : ∀ {x : List V} {t : List T} {f : List Addr}, RpTs K F H x t f → T.cls t = true → RpDs K (addH F.n H f) x (T.ers t)
  | _, _, _, .nil, _ => .nil
  | _, _, _, .cons a b, e => by
    simp [T.cls] at e
    exact .cons ((RpT.freezeN hF hS a e.1).mono (addH_more hF fun y hy => by simp [hy])) ((RpTs.freezeN hF hS b e.2).mono (addH_more hF fun y hy => by simp [hy]))
end
mutual
/-- a closed thing, seen from another def -/
theorem RpT.move {K : W.Frag} {F F' : FF} {H : Hp} (hf : Stb F.f F'.f) (hn : ∀ a o, F.n a = some o → F'.n a = some o) : ∀ {x : V} {t : T} {f : List Addr}, RpT K F H x t f → t.cl = true → RpT K F' H x t f
  | _, _, _, .v r, e => .v (r.imm hf (by simpa [T.cl] using e))
  | _, _, _, .w r, _ => .w (r.mono (Sub.of hn))
  | _, _, _, .b r, e => by simp [T.cl] at e
  | _, _, _, .l h r, e => .l h (RpTs.move hf hn r (by simpa [T.cl] using e))
  | _, _, _, .tp h r, e => .tp (hn _ _ h) (RpTs.move hf hn r (by simpa [T.cl] using e))
  | _, _, _, .dc h q r, e => .dc h q (RpTs.move hf hn r (by simpa [T.cl] using e))
  | _, _, _, .ob c h n x r, e => .ob c h n x (RpTs.move hf hn r (by simpa [T.cl] using e))
theorem RpTs.move {K : W.Frag} {F F' : FF} {H : Hp} (hf : Stb F.f F'.f) (hn : ∀ a o, F.n a = some o → F'.n a = some o) : ∀ {x : List V} {t : List T} {f : List Addr}, RpTs K F H x t f → T.cls t = true → RpTs K F' H x t f
  | _, _, _, .nil, _ => .nil
  | _, _, _, .cons a b, e => by
    simp [T.cls] at e
    exact .cons (RpT.move hf hn a e.1) (RpTs.move hf hn b e.2)
end
end Tv

namespace Tv
open PySem PySem.Spec PyProof.Rows L2

/-! ### the slots -/
abbrev Env := List (Option T)
inductive RpE (K : W.Frag) (F : FF) (H : Hp) : L2.St → Env → List Addr → Prop
  | nil : RpE K F H [] [] []
  | emp {o : Option V} {σ : L2.St} {Γ : Env} {f : List Addr} (r : RpE K F H σ Γ f) : RpE K F H (o :: σ) (none :: Γ) f
  | fil {x : V} {t : T} {σ : L2.St} {Γ : Env} {f g : List Addr} (h : RpT K F H x t f) (n : t.noB = true) (r : RpE K F H σ Γ g) : RpE K F H (some x :: σ) (some t :: Γ) (f ++ g)
section
variable {K : W.Frag} {F F' : FF} {H H' : Hp} {σ : L2.St} {Γ : Env} {f : List Addr}
theorem RpE.length (r : RpE K F H σ Γ f) : σ.length = Γ.length := by
  induction r with
  | nil => rfl
  | emp _ ih => simp [ih]
  | fil _ _ _ ih => simp [ih]
theorem RpE.frame (hF : SubF F F') (r : RpE K F H σ Γ f) (k : ∀ a ∈ f, H' a = H a) : RpE K F' H' σ Γ f := by
  induction r with
  | nil => exact .nil
  | emp _ ih => exact .emp (ih k)
  | fil h n _ ih => exact .fil (h.frame hF n fun a ha => k a (by simp [ha])) n (ih fun a ha => k a (by simp [ha]))
theorem RpE.grow (hF : SubF F F') (hH : Sub H H') (r : RpE K F H σ Γ f) : RpE K F' H' σ Γ f := by
  induction r with
  | nil => exact .nil
  | emp _ ih => exact .emp ih
  | fil h n _ ih => exact .fil (h.grow hF hH) n ih
/-- a slot taken out -/
theorem RpE.out (r : RpE K F H σ Γ f) : ∀ {i : Nat} {t : T}, Γ[i]? = some (some t) →
    ∃ x f1 g, σ[i]? = some (some x) ∧ RpT K F H x t f1 ∧ t.noB = true ∧ RpE K F H σ (Γ.set i none) g ∧ ∀ a, f.count a = f1.count a + g.count a := by
  induction r with
  | nil => intro i t e; simp at e
  | @emp o σ Γ f r ih =>
    intro i t e
    cases i with
    | zero => simp at e
    | succ i =>
      obtain ⟨x, f1, g, h1, h2, h3, h4, h5⟩ := ih (i := i) (t := t) (by simpa using e)
      exact ⟨x, f1, g, by simpa using h1, h2, h3, .emp h4, h5⟩
  | @fil x t' σ Γ f g h n r ih =>
    intro i t e
    cases i with
    | zero =>
      simp at e; subst e
      exact ⟨x, f, g, rfl, h, n, .emp r, fun a => by rw [List.count_append]⟩
    | succ i =>
      obtain ⟨y, f1, g', h1, h2, h3, h4, h5⟩ := ih (i := i) (t := t) (by simpa using e)
      exact ⟨y, f1, f ++ g', by simpa using h1, h2, h3, .fil h n h4, fun a => by rw [List.count_append, List.count_append, h5]; omega⟩
/-- a slot forgotten (and its value any) -/
theorem RpE.drop (r : RpE K F H σ Γ f) : ∀ (i : Nat) (o : Option V), ∃ g, RpE K F H (σ.set i o) (Γ.set i none) g ∧ ∀ a, g.count a ≤ f.count a := by
  induction r with
  | nil => intro i o; exact ⟨[], .nil, fun a => Nat.le_refl _⟩
  | @emp o' σ Γ f r ih =>
    intro i o
    cases i with
    | zero => exact ⟨f, .emp r, fun a => Nat.le_refl _⟩
    | succ i => obtain ⟨g, h1, h2⟩ := ih i o; exact ⟨g, .emp h1, h2⟩
  | @fil x t' σ Γ f g h n r ih =>
    intro i o
    cases i with
    | zero => exact ⟨g, .emp r, fun a => by rw [List.count_append]; omega⟩
    | succ i => obtain ⟨g', h1, h2⟩ := ih i o; exact ⟨f ++ g', .fil h n h1, fun a => by rw [List.count_append, List.count_append]; have := h2 a; omega⟩
/-- a slot forgotten, its value as it is -/
theorem RpE.drop0 (r : RpE K F H σ Γ f) : ∀ (i : Nat), ∃ g, RpE K F H σ (Γ.set i none) g ∧ ∀ a, g.count a ≤ f.count a := by
  induction r with
  | nil => intro i; exact ⟨[], .nil, fun a => Nat.le_refl _⟩
  | @emp o' σ Γ f r ih =>
    intro i
    cases i with
    | zero => exact ⟨f, .emp r, fun a => Nat.le_refl _⟩
    | succ i => obtain ⟨g, h1, h2⟩ := ih i; exact ⟨g, .emp h1, h2⟩
  | @fil x t' σ Γ f g h n r ih =>
    intro i
    cases i with
    | zero => exact ⟨g, .emp r, fun a => by rw [List.count_append]; omega⟩
    | succ i => obtain ⟨g', h1, h2⟩ := ih i; exact ⟨f ++ g', .fil h n h1, fun a => by rw [List.count_append, List.count_append]; have := h2 a; omega⟩
/-- a slot filled -/
theorem RpE.put (r : RpE K F H σ Γ f) {x : V} {t : T} {f1 : List Addr} (h : RpT K F H x t f1) (n : t.noB = true) :
    ∀ {i : Nat}, i < Γ.length → ∃ g, RpE K F H (σ.set i (some x)) (Γ.set i (some t)) g ∧ ∀ a, g.count a ≤ f1.count a + f.count a := by
  induction r with
  | nil => intro i hi; simp at hi
  | @emp o' σ Γ f r ih =>
    intro i hi
    cases i with
    | zero => exact ⟨f1 ++ f, .fil h n r, fun a => by rw [List.count_append]; omega⟩
    | succ i => obtain ⟨g, h1, h2⟩ := ih (i := i) (by simpa using hi); exact ⟨g, .emp h1, h2⟩
  | @fil y t' σ Γ f g h' n' r ih =>
    intro i hi
    cases i with
    | zero => exact ⟨f1 ++ g, .fil h n r, fun a => by rw [List.count_append, List.count_append]; omega⟩
    | succ i => obtain ⟨g', h1, h2⟩ := ih (i := i) (by simpa using hi); exact ⟨f ++ g', .fil h' n' h1, fun a => by rw [List.count_append, List.count_append]; have := h2 a; omega⟩
end

/-! ### the state -/
structure Base where
  H0 : Hp
  F0 : Hp
structure Rel (K : W.Frag) (B : Base) (F : FF) (H : Hp) (σ : L2.St) (Γ : Env) (tmp : List Addr) : Prop where
  env : ∃ f, RpE K F H σ Γ f ∧ (∀ a, f.count a + tmp.count a ≤ 1) ∧ ∀ a, a ∈ f ∨ a ∈ tmp → F.f a = none ∧ B.H0 a = none ∧ H a ≠ none
  sub : Sub F.f H
  subn : ∀ a o, F.n a = some o → F.f a = some o
  stf : Stb H F.f
  stn : Stb F.f F.n
  keep : Sub B.H0 H
  keepF : Sub B.F0 F.f
  newF : ∀ a, B.H0 a ≠ none → F.f a = B.F0 a
  newN : ∀ a o, B.H0 a ≠ none → F.n a = some o → stab o = true
theorem mem_of_count {a : Addr} {f g : List Addr} (h : f.count a ≤ g.count a) (m : a ∈ f) : a ∈ g := by
  have := List.count_pos_iff.mpr m
  exact List.count_pos_iff.mp (by omega)
section
variable {K : W.Frag} {B : Base} {F : FF} {H : Hp} {σ : L2.St} {Γ : Env} {tmp tmp' : List Addr}
theorem Rel.length (r : Rel K B F H σ Γ tmp) : σ.length = Γ.length := by
  obtain ⟨f, h, _⟩ := r.env; exact h.length
theorem Rel.nsub (r : Rel K B F H σ Γ tmp) : Sub F.n F.f := Sub.of r.subn
theorem Rel.rd (r : Rel K B F H σ Γ tmp) {x : V} {t : T} {f : List Addr} (h : RpT K F H x t f) : RpD K H x t.er := h.read r.sub r.nsub
theorem Rel.rds (r : Rel K B F H σ Γ tmp) {x : List V} {t : List T} {f : List Addr} (h : RpTs K F H x t f) : RpDs K H x (T.ers t) := h.read r.sub r.nsub
/-- what is never written is frozen -/
theorem Rel.im (r : Rel K B F H σ Γ tmp) {x : V} {d : D} (h : RpD K H x d) (i : d.imm = true) : RpD K F.f x d := h.imm r.stf i
theorem Rel.imn (r : Rel K B F H σ Γ tmp) {x : V} {d : D} (h : RpD K H x d) (i : d.imm = true) : RpD K F.n x d := (h.imm r.stf i).imm r.stn i
/-- fewer footprints in hand -/
theorem Rel.less (r : Rel K B F H σ Γ tmp) (h : ∀ a, tmp'.count a ≤ tmp.count a) : Rel K B F H σ Γ tmp' := by
  obtain ⟨f, h1, h2, h3⟩ := r.env
  exact { r with env := ⟨f, h1, fun a => by have := h a; have := h2 a; omega, fun a ha => h3 a (ha.elim .inl fun m => .inr (mem_of_count (h a) m))⟩ }
theorem Rel.nil (r : Rel K B F H σ Γ tmp) : Rel K B F H σ Γ [] := r.less fun c => by simp
theorem Rel.cnt (r : Rel K B F H σ Γ tmp) (a : Addr) : tmp.count a ≤ 1 := by
  obtain ⟨f, h1, h2, h3⟩ := r.env
  have := h2 a; omega
theorem Rel.get (r : Rel K B F H σ Γ tmp) {i : Nat} {t : T} (e : Γ[i]? = some (some t)) :
    ∃ x f, σ[i]? = some (some x) ∧ RpT K F H x t f ∧ t.noB = true := by
  obtain ⟨f, h1, h2, h3⟩ := r.env
  obtain ⟨x, f1, g, a1, a2, a3, a4, a5⟩ := h1.out e
  exact ⟨x, f1, a1, a2, a3⟩
theorem Rel.fNone (r : Rel K B F H σ Γ tmp) {p : Addr} (hp : H p = none) : F.f p = none := r.sub.none hp
theorem Rel.h0None (r : Rel K B F H σ Γ tmp) {p : Addr} (hp : H p = none) : B.H0 p = none := r.keep.none hp
theorem Rel.nNone (r : Rel K B F H σ Γ tmp) {p : Addr} (hp : F.f p = none) : F.n p = none := by
  cases q : F.n p with
  | none => rfl
  | some o => have := r.subn p o q; rw [hp] at this; cases this
/-- a new thing in hand -/
theorem Rel.alloc (r : Rel K B F H σ Γ tmp) {p : Addr} {o : HO} (hp : H p = none) (ho : stab o = false) : Rel K B F (upd H p o) σ Γ (p :: tmp) := by
  obtain ⟨f, h1, h2, h3⟩ := r.env
  have ne : ∀ a, a ∈ f ∨ a ∈ tmp → a ≠ p := fun a ha e => (h3 a ha).2.2 (e ▸ hp)
  have nf : p ∉ f := fun m => ne p (.inl m) rfl
  have nt : p ∉ tmp := fun m => ne p (.inr m) rfl
  have hF : F.f p = none := r.fNone hp
  have h0 : B.H0 p = none := r.h0None hp
  refine { r with env := ⟨f, h1.frame SubF.refl fun a ha => upd_ne (ne a (.inl ha)), fun a => ?_, fun a ha => ?_⟩, sub := r.sub.trans (upd_sub hp), stf := fun a u e s => ?_, keep := r.keep.trans (upd_sub hp) }
  · by_cases e : a = p
    · subst e
      rw [List.count_cons_self, List.count_eq_zero.mpr nf, List.count_eq_zero.mpr nt]
      exact Nat.le_refl _
    · rw [List.count_cons_of_ne (Ne.symm e)]; exact h2 a
  · by_cases e : a = p
    · subst e; exact ⟨hF, h0, by rw [upd_same]; simp⟩
    · have m : a ∈ f ∨ a ∈ tmp := by
        rcases ha with m | m
        · exact .inl m
        · exact .inr ((List.mem_cons.mp m).resolve_left e)
      rw [upd_ne e]
      exact h3 a m
  · by_cases e' : a = p
    · subst e'; rw [upd_same] at e; cases e; rw [ho] at s; cases s
    · rw [upd_ne e'] at e; exact r.stf a u e s
/-- a new thing that is never written -/
theorem Rel.allocS (r : Rel K B F H σ Γ tmp) {p : Addr} {o : HO} (hp : H p = none) (ho : stab o = true) : Rel K B (F.add p o) (upd H p o) σ Γ tmp ∧ SubF F (F.add p o) := by
  obtain ⟨f, h1, h2, h3⟩ := r.env
  have ne : ∀ a, a ∈ f ∨ a ∈ tmp → a ≠ p := fun a ha e => (h3 a ha).2.2 (e ▸ hp)
  have hF : F.f p = none := r.fNone hp
  have hN : F.n p = none := r.nNone hF
  have h0 : B.H0 p = none := r.h0None hp
  have sF : SubF F (F.add p o) := ⟨upd_sub hF, upd_sub hN⟩
  refine ⟨⟨⟨f, h1.frame sF fun a ha => upd_ne (ne a (.inl ha)), h2, fun a ha => ?_⟩, fun a u e => ?_, fun a u e => ?_, fun a u e s => ?_, fun a u e s => ?_, r.keep.trans (upd_sub hp), r.keepF.trans sF.f, fun a ha => ?_, fun a u ha e => ?_⟩, sF⟩
  · show upd F.f p o a = none ∧ _
    rw [upd_ne (ne a ha), upd_ne (ne a ha)]; exact h3 a ha
  · by_cases e' : a = p
    · subst e'; exact .inl (by rw [upd_same]; exact (by rw [← e]; exact upd_same.symm))
    · have e : F.f a = some u := by rw [← e]; exact (upd_ne e').symm
      rw [upd_ne e']; exact r.sub a u e
  · by_cases e' : a = p
    · subst e'
      have e : upd F.n a o a = some u := e
      show upd F.f a o a = _
      rw [upd_same] at e ⊢; exact e
    · have e : F.n a = some u := by rw [← e]; exact (upd_ne e').symm
      show upd F.f p o a = _
      rw [upd_ne e']; exact r.subn a u e
  · show upd F.f p o a = _
    by_cases e' : a = p
    · subst e'; rw [upd_same] at e ⊢; exact e
    · rw [upd_ne e'] at e ⊢; exact r.stf a u e s
  · have e : upd F.f p o a = some u := e
    show upd F.n p o a = _
    by_cases e' : a = p
    · subst e'; rw [upd_same] at e ⊢; exact e
    · rw [upd_ne e'] at e ⊢; exact r.stn a u e s
  · show upd F.f p o a = _
    rw [upd_ne (fun e => ha (by rw [e]; exact h0))]; exact r.newF a ha
  · have e : upd F.n p o a = some u := e
    rw [upd_ne (fun e => ha (by rw [e]; exact h0))] at e; exact r.newN a u ha e
/-- what is in hand is frozen -/
theorem Rel.freezeTmp {f1 g : List Addr} (r : Rel K B F H σ Γ tmp) (hc : ∀ a, f1.count a + g.count a ≤ tmp.count a) :
    Rel K B (F.addF H f1) H σ Γ g := by
  obtain ⟨f, h1, h2, h3⟩ := r.env
  have inT : ∀ a, a ∈ f1 → a ∈ tmp := fun a m => mem_of_count (f := f1) (by have := hc a; omega) m
  have dis : ∀ a, a ∈ f ∨ a ∈ g → a ∉ f1 := fun a ha m => by
    have e1 := List.count_pos_iff.mpr m
    have e2 := hc a
    have e3 := h2 a
    rcases ha with m' | m'
    · have := List.count_pos_iff.mpr m'; omega
    · have := List.count_pos_iff.mpr m'; omega
  have sF := addF_sub (f := f1) r.sub r.nsub
  refine ⟨⟨f, h1.frame sF fun _ _ => rfl, fun a => by have := hc a; have := h2 a; omega, fun a ha => ?_⟩, addH_in r.sub, fun a o e => ?_, fun a o e s => ?_, fun a o e s => ?_, r.keep, r.keepF.trans sF.f, fun a ha => ?_, fun a o ha e => ?_⟩
  · have q := h3 a (ha.elim .inl fun m => .inr (mem_of_count (f := g) (by have := hc a; omega) m))
    refine ⟨?_, q.2⟩
    show addH F.f H f1 a = none
    unfold addH; rw [if_neg (dis a ha)]; exact q.1
  · have e : addH F.n H f1 a = some o := e
    show addH F.f H f1 a = some o
    unfold addH at e ⊢
    split at e
    · rename_i m; rw [if_pos m]; exact e
    · rename_i m; rw [if_neg m]; exact r.subn a o e
  · show addH F.f H f1 a = some o
    unfold addH
    split
    · exact e
    · exact r.stf a o e s
  · have e : addH F.f H f1 a = some o := e
    show addH F.n H f1 a = some o
    unfold addH at e ⊢
    split at e
    · rename_i m; rw [if_pos m]; exact e
    · rename_i m; rw [if_neg m]; exact r.stn a o e s
  · show addH F.f H f1 a = _
    unfold addH
    rw [if_neg fun m => ha (h3 a (.inr (inT a m))).2.1]
    exact r.newF a ha
  · have e : addH F.n H f1 a = some o := e
    unfold addH at e
    rw [if_neg fun m => ha (h3 a (.inr (inT a m))).2.1] at e
    exact r.newN a o ha e
/-- a slot's thing taken in hand -/
theorem Rel.take (r : Rel K B F H σ Γ tmp) {i : Nat} {t : T} (e : Γ[i]? = some (some t)) :
    ∃ x f, σ[i]? = some (some x) ∧ RpT K F H x t f ∧ t.noB = true ∧ Rel K B F H σ (Γ.set i none) (f ++ tmp) := by
  obtain ⟨f, h1, h2, h3⟩ := r.env
  obtain ⟨x, f1, g, a1, a2, a3, a4, a5⟩ := h1.out e
  refine ⟨x, f1, a1, a2, a3, { r with env := ⟨g, a4, fun a => ?_, fun a ha => h3 a ?_⟩ }⟩
  · rw [List.count_append]; have := h2 a; have := a5 a; omega
  · rcases ha with m | m
    · exact .inl (mem_of_count (f := g) (by have := a5 a; omega) m)
    · rcases List.mem_append.mp m with m | m
      · exact .inl (mem_of_count (f := f1) (by have := a5 a; omega) m)
      · exact .inr m
/-- the thing in hand goes into a slot -/
theorem Rel.store {f1 : List Addr} {x : V} {t : T} (r : Rel K B F H σ Γ (f1 ++ tmp)) (h : RpT K F H x t f1) (n : t.noB = true) {i : Nat} (hi : i < Γ.length) :
    Rel K B F H (σ.set i (some x)) (Γ.set i (some t)) tmp := by
  obtain ⟨f, h1, h2, h3⟩ := r.env
  obtain ⟨g, a1, a2⟩ := h1.put h n hi
  refine { r with env := ⟨g, a1, fun a => ?_, fun a ha => h3 a ?_⟩ }
  · have q := h2 a; rw [List.count_append] at q; have := a2 a; omega
  · rcases ha with m | m
    · have := List.count_pos_iff.mpr m
      have := a2 a
      by_cases z : 0 < f.count a
      · exact .inl (List.count_pos_iff.mp z)
      · exact .inr (List.mem_append_left _ (List.count_pos_iff.mp (by omega)))
    · exact .inr (List.mem_append_right _ m)
theorem fix_σ {σ : L2.St} {x : V} {i : Nat} (hx : σ[i]? = some (some x)) : σ.set i (some x) = σ := by
  have hi : i < σ.length := (List.getElem?_eq_some_iff.mp hx).1
  apply List.ext_getElem?
  intro j
  by_cases hj : i = j
  · subst hj; rw [List.getElem?_set_self hi, hx]
  · rw [List.getElem?_set_ne hj]
theorem Rel.putBack {f1 : List Addr} {x : V} {t : T} (r : Rel K B F H σ Γ (f1 ++ tmp)) (h : RpT K F H x t f1) (n : t.noB = true) {i : Nat} (hx : σ[i]? = some (some x)) :
    Rel K B F H σ (Γ.set i (some t)) tmp := by
  have hi : i < σ.length := (List.getElem?_eq_some_iff.mp hx).1
  have := r.store h n (i := i) (by rw [← r.length]; exact hi)
  rw [fix_σ hx] at this
  exact this
theorem Rel.forget (r : Rel K B F H σ Γ tmp) (i : Nat) (o : Option V) : Rel K B F H (σ.set i o) (Γ.set i none) tmp := by
  obtain ⟨f, h1, h2, h3⟩ := r.env
  obtain ⟨g, a1, a2⟩ := h1.drop i o
  exact { r with env := ⟨g, a1, fun a => by have := h2 a; have := a2 a; omega, fun a ha => h3 a (ha.elim (fun m => .inl (mem_of_count (a2 a) m)) .inr)⟩ }
theorem Rel.kill (r : Rel K B F H σ Γ tmp) (i : Nat) : Rel K B F H σ (Γ.set i none) tmp := by
  obtain ⟨f, h1, h2, h3⟩ := r.env
  obtain ⟨g, a1, a2⟩ := h1.drop0 i
  exact { r with env := ⟨g, a1, fun a => by have := h2 a; have := a2 a; omega, fun a ha => h3 a (ha.elim (fun m => .inl (mem_of_count (a2 a) m)) .inr)⟩ }
/-- a thing in hand is written -/
theorem Rel.mut (r : Rel K B F H σ Γ tmp) {a : Addr} {o : HO} (m : a ∈ tmp) (ho : stab o = false) : Rel K B F (upd H a o) σ Γ tmp := by
  obtain ⟨f, h1, h2, h3⟩ := r.env
  have hm := h3 a (.inr m)
  have nf : a ∉ f := fun q => by
    have e1 := List.count_pos_iff.mpr q
    have e2 := List.count_pos_iff.mpr m
    have := h2 a; omega
  have ok : ∀ {G : Hp}, Sub G H → G a = none → Sub G (upd H a o) := fun {G} s n b u e => by
    rw [upd_ne fun q => by subst q; rw [n] at e; cases e]; exact s b u e
  refine { r with env := ⟨f, h1.frame SubF.refl fun b hb => upd_ne fun e => nf (e ▸ hb), h2, fun b hb => ?_⟩, sub := ok r.sub hm.1, stf := fun b u e s => ?_, keep := ok r.keep hm.2.1 }
  · obtain ⟨q1, q2, q3⟩ := h3 b hb
    refine ⟨q1, q2, ?_⟩
    by_cases e : b = a
    · subst e; rw [upd_same]; simp
    · rw [upd_ne e]; exact q3
  · by_cases e' : b = a
    · subst e'; rw [upd_same] at e; cases e; rw [ho] at s; cases s
    · rw [upd_ne e'] at e; exact r.stf b u e s
/-- the heap has grown, nothing else -/
theorem Rel.later {F' : FF} {H' : Hp} (r : Rel K B F H σ Γ tmp) (hH : Sub H H') (hs : Sub F.f H') (st : Stb H' F.f) : Rel K B F H' σ Γ tmp := by
  obtain ⟨f, h1, h2, h3⟩ := r.env
  exact { r with env := ⟨f, h1.grow SubF.refl hH, h2, fun a ha => ⟨(h3 a ha).1, (h3 a ha).2.1, hH.ne (h3 a ha).2.2⟩⟩, sub := hs, stf := st, keep := r.keep.trans hH }
end

/-! ### behind a call -/
/-- what a call leaves: H, F0 the heap and what was frozen ahead of it -/
structure CallEnd (H F0 : Hp) (F' : FF) (H' : Hp) : Prop where
  sub : Sub F'.f H'
  subn : ∀ a o, F'.n a = some o → F'.f a = some o
  stf : Stb H' F'.f
  stn : Stb F'.f F'.n
  keepF : Sub F0 F'.f
  newF : ∀ a, H a ≠ none → F'.f a = F0 a
  newN : ∀ a o, H a ≠ none → F'.n a = some o → stab o = true
theorem Rel.callEnd {K : W.Frag} {H F0 : Hp} {F' : FF} {H' : Hp} {σ : L2.St} {Γ : Env} {tmp : List Addr} (r : Rel K ⟨H, F0⟩ F' H' σ Γ tmp) : CallEnd H F0 F' H' := ⟨r.sub, r.subn, r.stf, r.stn, r.keepF, r.newF, r.newN⟩
/-- the caller's frozen part behind the call: of the old what was frozen, of the new what the call froze -/
def FF.behind (F : FF) (H : Hp) (F' : FF) : FF := ⟨fun a => match H a with
  | none => F'.f a
  | some _ => F.f a, fun a => match H a with
  | none => F'.n a
  | some _ => F.n a⟩
section
variable {K : W.Frag} {B : Base} {F F' : FF} {H H' F0 : Hp} {σ : L2.St} {Γ : Env} {tmp f1 : List Addr}
theorem behind_f_old {a : Addr} (h : H a ≠ none) : (F.behind H F').f a = F.f a := by
  unfold FF.behind; dsimp only
  cases q : H a with
  | none => exact absurd q h
  | some o => rfl
theorem behind_f_new {a : Addr} (h : H a = none) : (F.behind H F').f a = F'.f a := by
  unfold FF.behind; dsimp only; rw [h]
theorem behind_n_old {a : Addr} (h : H a ≠ none) : (F.behind H F').n a = F.n a := by
  unfold FF.behind; dsimp only
  cases q : H a with
  | none => exact absurd q h
  | some o => rfl
theorem behind_n_new {a : Addr} (h : H a = none) : (F.behind H F').n a = F'.n a := by
  unfold FF.behind; dsimp only; rw [h]
theorem behind_sub (r : Rel K B F H σ Γ tmp) : SubF F (F.behind H F') := ⟨fun a o e => .inl (by rw [behind_f_old (r.sub.ne (by rw [e]; simp)), e]), fun a o e => .inl (by
  have := r.subn a o e
  rw [behind_n_old (r.sub.ne (by rw [this]; simp)), e])⟩
/-- all frozen things of the call's end that are for good are the caller's, too -/
theorem behind_stb (r : Rel K B F H σ Γ tmp) (h0 : ∀ a o, H a = some o → stab o = true → F0 a = some o) (hF0 : Sub F0 H) (c : CallEnd H F0 F' H') : Stb F'.f (F.behind H F').f := fun a o e s => by
  by_cases q : H a = none
  · rw [behind_f_new q]; exact e
  · rw [behind_f_old q]
    have e2 : F0 a = some o := by rw [← c.newF a q]; exact e
    exact r.stf a o (hF0.eq e2 (stab_dic s)) s
theorem behind_n (r : Rel K B F H σ Γ tmp) (hF0 : Sub F0 H) (c : CallEnd H F0 F' H') : ∀ a o, F'.n a = some o → (F.behind H F').n a = some o := fun a o e => by
  by_cases q : H a = none
  · rw [behind_n_new q]; exact e
  · rw [behind_n_old q]
    have s := c.newN a o q e
    have e2 : F0 a = some o := by rw [← c.newF a q]; exact c.subn a o e
    exact r.stn a o (r.stf a o (hF0.eq e2 (stab_dic s)) s) s
theorem Rel.called (r : Rel K B F H σ Γ tmp) (hH : Sub H H') (hF0 : Sub F0 H) (c : CallEnd H F0 F' H')
    (hc : ∀ a, f1.count a ≤ 1) (hf : ∀ a ∈ f1, F'.f a = none ∧ H a = none ∧ H' a ≠ none) : Rel K B (F.behind H F') H' σ Γ (f1 ++ tmp) := by
  obtain ⟨f, h1, h2, h3⟩ := r.env
  have sF := behind_sub (F' := F') r
  refine ⟨⟨f, h1.grow sF hH, fun a => ?_, fun a ha => ?_⟩, fun a o e => ?_, fun a o e => ?_, fun a o e s => ?_, fun a o e s => ?_, r.keep.trans hH, r.keepF.trans sF.f, fun a ha => ?_, fun a o ha e => ?_⟩
  · rw [List.count_append]
    by_cases m : a ∈ f1
    · have e := (hf a m).2.1
      have n1 : a ∉ f := fun q => (h3 a (.inl q)).2.2 e
      have n2 : a ∉ tmp := fun q => (h3 a (.inr q)).2.2 e
      rw [List.count_eq_zero.mpr n1, List.count_eq_zero.mpr n2]
      have := hc a; omega
    · rw [List.count_eq_zero.mpr m]; have := h2 a; omega
  · have old : a ∈ f ∨ a ∈ tmp → (F.behind H F').f a = none ∧ B.H0 a = none ∧ H' a ≠ none := fun m => by
      obtain ⟨q1, q2, q3⟩ := h3 a m
      exact ⟨(behind_f_old q3).trans q1, q2, hH.ne q3⟩
    rcases ha with m | m
    · exact old (.inl m)
    · rcases List.mem_append.mp m with m | m
      · exact ⟨(behind_f_new (hf a m).2.1).trans (hf a m).1, r.h0None (hf a m).2.1, (hf a m).2.2⟩
      · exact old (.inr m)
  · by_cases q : H a = none
    · rw [behind_f_new q] at e; exact c.sub a o e
    · rw [behind_f_old q] at e; exact (r.sub.trans hH) a o e
  · by_cases q : H a = none
    · rw [behind_n_new q] at e; rw [behind_f_new q]; exact c.subn a o e
    · rw [behind_n_old q] at e; rw [behind_f_old q]; exact r.subn a o e
  · by_cases q : H a = none
    · rw [behind_f_new q]; exact c.stf a o e s
    · rw [behind_f_old q]
      have e1 := c.stf a o e s
      rw [c.newF a q] at e1
      exact r.stf a o (hF0.eq e1 (stab_dic s)) s
  · by_cases q : H a = none
    · rw [behind_f_new q] at e; rw [behind_n_new q]; exact c.stn a o e s
    · rw [behind_f_old q] at e; rw [behind_n_old q]; exact r.stn a o e s
  · rw [behind_f_old (r.keep.ne ha)]; exact r.newF a ha
  · rw [behind_n_old (r.keep.ne ha)] at e; exact r.newN a o ha e
end
mutual
/-- where nothing was borrowed: all that the call tells is the caller's -/
theorem RpT.moveA {K : W.Frag} {F F' : FF} {H : Hp} (hf : Sub F.f F'.f) (hn : Sub F.n F'.n) : ∀ {x : V} {t : T} {f : List Addr}, RpT K F H x t f → RpT K F' H x t f
  | _, _, _, .v r => .v (r.mono hf)
  | _, _, _, .w r => .w (r.mono hn)
  | _, _, _, .b r => .b r
  | _, _, _, .l h r => .l h (RpTs.moveA hf hn r)
  | _, _, _, .tp h r => .tp (hn.eq h rfl) (RpTs.moveA hf hn r)
  | _, _, _, .dc h q r => .dc h q (RpTs.moveA hf hn r)
  | _, _, _, .ob c h n x r => .ob c h n x (RpTs.moveA hf hn r)
theorem RpTs.moveA {K : W.Frag} {F F' : FF} {H : Hp} (hf : Sub F.f F'.f) (hn : Sub F.n F'.n) : ∀ {x : List V} {t : List T} {f : List Addr}, RpTs K F H x t f → RpTs K F' H x t f
  | _, _, _, .nil => .nil
  | _, _, _, .cons a b => .cons (RpT.moveA hf hn a) (RpTs.moveA hf hn b)
end
end Tv

namespace Tv
open PySem PySem.Spec PyProof.Rows L2

abbrev LIM : Nat := 16777216

inductive BOp where | add | sub | mul | mod | fdiv | pow
  deriving DecidableEq
inductive COp where | eq | ne | lt | le | gt | ge | isIn | notIn
  deriving DecidableEq
inductive Ty where | int | bool | str | list | tuple | dict
  deriving DecidableEq
inductive BF where | len | max | min | sum | all | list | tuple | str | int | abs | sorted
  deriving DecidableEq
inductive MF where | join | find | count | index
  deriving DecidableEq
/-- what is done to a list in its place -/
inductive MO where | append | extend | reverse | clear | insert
  deriving DecidableEq
inductive Tg where | nm (i : Nat) | tp (is : List Nat)
  deriving DecidableEq

mutual
inductive E where
  | var (i : Nat) | frz (i : Nat) | mov (i : Nat)
  | int (i : Int) | str (s : List Nat) | non | bl (b : Bool)
  | glb (x : String)
  | bin (o : BOp) (a b : E) | neg (a : E) | not (a : E)
  | cmp (o : COp) (a b : E) | isN (a : E) | notN (a : E) | cmp2 (o p : COp) (a b c : E)
  | and (a b : E) | or (a b : E)
  | call (f : String) (as : Es)
  | cme (c m : String) (o : E) (as : Es)
  | new (c : String) (as : Es)
  | lrn (a : E)
  | blt (f : BF) (as : Es)
  | meth (m : MF) (a b : E)
  | get (d k : E) (x : OE)
  | isi (a : E) (t : Ty)
  | ix (a i : E) | dix (a i : E) | din (n : Bool) (k d : E) | fld (a : E) (f : String) | sl (a : E) (lo hi : OE) | rev (a : E)
  | lst (es : Es) | tup (es : Es) | dic0 (t : Bool)
  | lc (own : List Nat) (tg : Tg) (it : I) (c : OE) (e : E)
inductive OE where
  | no | so (e : E)
inductive Es where
  | nil | cons (e : E) (es : Es)
inductive I where
  | seq (e : E) | rng1 (a : E) | rng2 (a b : E) | rng3 (a b c : E) | enum (e : E) | zip (a b : E) | rvd (a : E)
end
/-- a place: a slot, an item of a place, an attribute of a place -/
inductive Pl where
  | nm (i : Nat) | ix (p : Pl) (e : E) | fl (p : Pl) (f : String)

mutual
inductive S where
  | set (i : Nat) (e : E)
  | setF (i : Nat) (e : E)
  | setT (is : List Nat) (e : E)
  | sto (p : Pl) (ix e : E)
  | dsto (p : Pl) (ix e : E)
  | stf (c : String) (p : Pl) (f : String) (e : E)
  | augV (i : Nat) (o : BOp) (e : E)
  | augS (i : Nat) (o : BOp) (ix e : E)
  | mut (m : MO) (p : Pl) (as : Es)
  | pop (i : Nat) (p : Pl) (as : Es)
  | ex (e : E)
  | ife (c : E) (a b : Ss)
  | for (tg : Tg) (it : I) (body : Ss)
  | whl (fuel : Nat) (c : E) (body : Ss)
  | ret (io : List Nat) (e : E) | retN (io : List Nat) | pass | brk | cnt
  | dead
inductive Ss where
  | nil | cons (s : S) (ss : Ss) | kill (is : List Nat) (ss : Ss)
end

/-- an own exception: its class, its fields -/
structure Exn where
  cls : String
  ns : List String
  vs : List D

inductive R (α : Type) where
  | bad | ok (a : α) (Γ : Env) | ex (x : Exn) (Γ : Env)
inductive SR where
  | bad | nx (Γ : Env) | rt (t : T) (Γ : Env) | bk (Γ : Env) | ct (Γ : Env) | ex (x : Exn) (Γ : Env)
inductive CR where
  | bad | ret (t : T) (os : List T) | ex (x : Exn) (os : List T)
abbrev Calls := String → List T → CR

@[inline] def R.bind {α β : Type} (r : R α) (f : α → Env → R β) : R β :=
  match r with
  | .bad => .bad
  | .ok a Γ => f a Γ
  | .ex x Γ => .ex x Γ
def R.op {α : Type} (o : Option α) (Γ : Env) : R α :=
  match o with
  | none => .bad
  | some a => .ok a Γ

/-! ### things by value -/
def subW (d : D) : T := if d.imm then .v d else .w d
def subB (d : D) : T := if d.imm then .v d else .b d
/-- a list that may be joined -/
def asL : T → Option (List T)
  | .v (.lst ds) => some (ds.map .v)
  | .w (.lst ds) => some (ds.map subW)
  | .b (.lst ds) => some (ds.map subB)
  | .l ts => some ts
  | _ => none
/-- anything with items -/
def asQ : T → Option (List T)
  | .v (.lst ds) => some (ds.map .v)
  | .w (.lst ds) => some (ds.map subW)
  | .b (.lst ds) => some (ds.map subB)
  | .l ts => some ts
  | .v (.tup ds) => some (ds.map .v)
  | .w (.tup ds) => some (ds.map subW)
  | .b (.tup ds) => some (ds.map subB)
  | .tp ts => some ts
  | .v (.scr ns) => some (ns.map fun n => .v (.int n))
  | .v (.ktp ds) => some (ds.map .v)
  | _ => none
def lOnly : T → Option (List T)
  | .v (.lst ds) => some (ds.map .v)
  | .w (.lst ds) => some (ds.map subW)
  | .b (.lst ds) => some (ds.map subB)
  | .l ts => some ts
  | .v (.scr ns) => some (ns.map fun n => .v (.int n))
  | _ => none
def dicQ : T → Option (Bool × List D × List T)
  | .v (.dct t ks ds) => some (t, ks, ds.map .v)
  | .w (.dct t ks ds) => some (t, ks, ds.map subW)
  | .b (.dct t ks ds) => some (t, ks, ds.map subB)
  | .dc t ks ts => some (t, ks, ts)
  | _ => none
def objQ : T → Option (String × List String × List T)
  | .v (.obj c ns ds) => some (c, ns, ds.map .v)
  | .w (.obj c ns ds) => some (c, ns, ds.map subW)
  | .b (.obj c ns ds) => some (c, ns, ds.map subB)
  | .ob c ns ts => some (c, ns, ts)
  | _ => none
/-- frozen -/
def T.fz (t : T) : Option T := if t.er.imm then some (.v t.er) else if t.cl then some (.w t.er) else if t.noB then some (.v t.er) else none
/-- items for good -/
def asF (t : T) : Option (List T) := t.fz.bind asL

def addT : T → T → Option T
  | .v (.int i), .v (.int j) => some (.v (.int (i + j)))
  | .v (.str s), .v (.str t) => if s.length + t.length ≤ LIM then some (.v (.str (s ++ t))) else none
  | x, y =>
    match asL x, asL y with
    | some a, some b => if a.length + b.length ≤ LIM then some (.l (a ++ b)) else none
    | _, _ => none
def mulT : T → T → Option T
  | .v (.int i), .v (.int j) => if i.natAbs.log2 + j.natAbs.log2 < 1000000 then some (.v (.int (i * j))) else none
  | x, .v (.int k) =>
    match asF x with
    | some ts => if -(2 ^ 63) ≤ k ∧ k < 2 ^ 63 ∧ ts.length * k.toNat ≤ LIM then some (.l (List.replicate k.toNat ts).flatten) else none
    | none => none
  | _, _ => none
def binT (o : BOp) (x y : T) : Option T :=
  match o with
  | .add => addT x y
  | .mul => mulT x y
  | .sub => match x, y with
    | .v (.int i), .v (.int j) => some (.v (.int (i - j)))
    | _, _ => none
  | .mod => match x, y with
    | .v (.int i), .v (.int j) => if j ≠ 0 then some (.v (.int (i.fmod j))) else none
    | _, _ => none
  | .fdiv => match x, y with
    | .v (.int i), .v (.int j) => if 0 < j ∧ j.natAbs.log2 < 9000 then some (.v (.int (i / j))) else none
    | _, _ => none
  | .pow => match x, y with
    | .v (.int i), .v (.int j) => if 0 ≤ j ∧ j ≤ 1000000 ∧ i.natAbs < 2 ^ 64 then some (.v (.int (i ^ j.toNat))) else none
    | _, _ => none

mutual
def D.py : D → PyData
  | .non => .none
  | .bl b => .bool b
  | .int i => .int i
  | .str s => .str ⟨s.toArray⟩
  | .lst xs => .list (D.pys xs)
  | .tup xs => .tuple (D.pys xs)
  | .ktp xs => .tuple (D.pys xs)
  | .scr ns => .list (ns.map .int)
  | .dct _ _ _ => .dict []
  | .obj _ _ _ => .none
  | .exc _ _ _ => .none
def D.pys : List D → List PyData
  | [] => []
  | d :: ds => d.py :: D.pys ds
end
def eqD (a b : D) : Bool := PyData.eqv a.py b.py
mutual
def D.okD : D → Nat → Bool
  | .lst xs, n + 1 => D.okDs xs n
  | .tup xs, n + 1 => D.okDs xs n
  | .ktp _, _ => false
  | .scr _, _ => false
  | .dct _ _ _, _ => false
  | .obj _ _ _, _ => false
  | .exc _ _ _, _ => false
  | .lst _, 0 => false
  | .tup _, 0 => false
  | _, _ => true
def D.okDs : List D → Nat → Bool
  | [], _ => true
  | d :: ds, n => d.okD n && D.okDs ds n
end
def eqT (x y : T) : Option Bool := if x.er.okD 60 && y.er.okD 60 then some (eqD x.er y.er) else none
/-- a list of lists: is it there -/
def inDT (d : D) : D → Option Bool
  | .lst ds => if d.okD 60 && (D.lst ds).okD 60 then some (ds.any fun z => eqD z d) else none
  | _ => none
def inT (x y : T) : Option Bool :=
  match x, y with
  | .v (.str [c]), .v (.str s) => some (decide (c ∈ s))
  | x, y =>
    match asQ y with
    | some ts => if x.er.flat && ts.all (fun t => t.er.flat) then some (ts.any fun t => eqD t.er x.er) else inDT x.er y.er
    | none => none
def intsT : List T → Option (List Int)
  | [] => some []
  | .v (.int i) :: ts => (intsT ts).map fun r => i :: r
  | _ => none
/-- lists of whole numbers, which is more -/
def gtN : List Int → List Int → Bool
  | [], _ => false
  | _ :: _, [] => true
  | x :: xs, y :: ys => if x = y then gtN xs ys else decide (y < x)
def rowsT : List T → Option (List (List T))
  | [] => some []
  | t :: ts => match asL t, rowsT ts with
    | some r, some rs => some (r :: rs)
    | _, _ => none
def insI (x : Int) : List Int → List Int
  | [] => [x]
  | y :: ys => if x ≤ y then x :: y :: ys else y :: insI x ys
def sortI : List Int → List Int
  | [] => []
  | x :: xs => insI x (sortI xs)
/-- pairs of whole numbers -/
def pairTp (p : Int × Int) : T := .v (.tup [.int p.1, .int p.2])
def pairsT : List T → Option (List (Int × Int))
  | [] => some []
  | .v (.tup [.int a, .int b]) :: ts => (pairsT ts).map fun r => (a, b) :: r
  | _ => none
def leP (p q : Int × Int) : Bool := decide (p.1 < q.1 ∨ (p.1 = q.1 ∧ p.2 ≤ q.2))
def insP (x : Int × Int) : List (Int × Int) → List (Int × Int)
  | [] => [x]
  | y :: ys => if leP x y then x :: y :: ys else y :: insP x ys
def sortP : List (Int × Int) → List (Int × Int)
  | [] => []
  | x :: xs => insP x (sortP xs)
def cmpT (o : COp) (x y : T) : Option Bool :=
  match o with
  | .eq => eqT x y
  | .ne => (eqT x y).map fun b => !b
  | .lt => match x, y with
    | .v (.int i), .v (.int j) => some (decide (i < j))
    | _, _ => none
  | .le => match x, y with
    | .v (.int i), .v (.int j) => some (decide (i ≤ j))
    | _, _ => none
  | .gt => match x, y with
    | .v (.int i), .v (.int j) => some (decide (j < i))
    | x, y => match (lOnly x).bind intsT, (lOnly y).bind intsT with
      | some ns, some ms => some (gtN ns ms)
      | _, _ => none
  | .ge => match x, y with
    | .v (.int i), .v (.int j) => some (decide (j ≤ i))
    | _, _ => none
  | .isIn => inT x y
  | .notIn => (inT x y).map fun b => !b
def D.isi (d : D) (t : Ty) : Bool :=
  match t, d with
  | .int, .int _ => true
  | .int, .bl _ => true
  | .bool, .bl _ => true
  | .str, .str _ => true
  | .list, .lst _ => true
  | .list, .scr _ => true
  | .tuple, .tup _ => true
  | .tuple, .ktp _ => true
  | .dict, .dct _ _ _ => true
  | _, _ => false
def D.isNon : D → Bool
  | .non => true
  | _ => false
/-- isinstance can be asked -/
def D.tyOk : D → Bool
  | .dct t _ _ => !t
  | .obj _ _ _ => false
  | .exc _ _ _ => false
  | _ => true
def showI (i : Int) : List Nat := (Str.ofString (toString i)).cps.toList
def sizeT (t : T) : Option Nat :=
  match t with
  | .v (.str s) => some s.length
  | t => (asQ t).map List.length
def boolsT : List T → Option (List Bool)
  | [] => some []
  | .v (.bl i) :: ts => (boolsT ts).map fun r => i :: r
  | _ => none
def maxL (a : Int) (xs : List Int) : Int := xs.foldl (fun m x => if x > m then x else m) a
def minL (a : Int) (xs : List Int) : Int := xs.foldl (fun m x => if x < m then x else m) a
/-- a tuple of these -/
def mkTp (ts : List T) : T := if D.imms (T.ers ts) then .v (.tup (T.ers ts)) else .tp ts
def bltT (f : BF) (ts : List T) : Option T :=
  match f, ts with
  | .len, [t] => (sizeT t).map fun n => .v (.int n)
  | .max, [.v (.int i), .v (.int j)] => some (.v (.int (if j > i then j else i)))
  | .min, [.v (.int i), .v (.int j)] => some (.v (.int (if j < i then j else i)))
  | .max, [t] => match (lOnly t).bind intsT with
    | some (a :: r) => some (.v (.int (maxL a r)))
    | _ => none
  | .min, [t] => match (lOnly t).bind intsT with
    | some (a :: r) => some (.v (.int (minL a r)))
    | _ => none
  | .sum, [t] => ((lOnly t).bind intsT).map fun ns => .v (.int ns.sum)
  | .sum, [t, .l []] => match (lOnly t).bind rowsT with
    | some rs => if rs.flatten.length ≤ LIM then some (.l rs.flatten) else none
    | none => none
  | .sorted, [t] => match (lOnly t).bind intsT with
    | some ns => some (.l ((sortI ns).map fun i => .v (.int i)))
    | none => ((lOnly t).bind pairsT).map fun ps => .l ((sortP ps).map pairTp)
  | .all, [t] => ((lOnly t).bind boolsT).map fun bs => .v (.bl (bs.all id))
  | .list, [t] => (asQ t).map .l
  | .tuple, [t] => match t with
    | .v (.tup ds) => some (.v (.tup ds))
    | .tp ts => some (.tp ts)
    | t => (lOnly t).map mkTp
  | .str, [.v (.int i)] => if i.natAbs.log2 < 1920 then some (.v (.str (showI i))) else none
  | .int, [.v (.int i)] => some (.v (.int i))
  | .int, [.v (.bl b)] => some (.v (.int (if b then 1 else 0)))
  | .abs, [.v (.int i)] => some (.v (.int (if i < 0 then -i else i)))
  | _, _ => none
def strsT : List T → Option (List (List Nat))
  | [] => some []
  | .v (.str s) :: ts => (strsT ts).map fun r => s :: r
  | _ => none
def cutL {α : Type} (xs : List α) (lo hi : Option Int) : List α :=
  (xs.drop (HT.sIx xs.length 0 lo)).take (HT.sIx xs.length xs.length hi - HT.sIx xs.length 0 lo)
def findS (a b : List Nat) : Int := Txt.find ⟨a.toArray⟩ ⟨b.toArray⟩
def methT (m : MF) (x y : T) : Option T :=
  match m with
  | .join => match x, y with
    | .v (.str a), t => match (asQ t).bind strsT with
      | some ss => if (ss.map List.length).sum + ss.length * a.length ≤ LIM then some (.v (.str (TL.joinL a ss))) else none
      | none => none
    | _, _ => none
  | .find => match x, y with
    | .v (.str a), .v (.str b) => some (.v (.int (findS a b)))
    | _, _ => none
  | .count => match lOnly x with
    | some ts => if y.er.flat && ts.all (fun t => t.er.flat) then some (.v (.int ((ts.filter fun t => eqD t.er y.er).length : Nat))) else none
    | none => none
  | .index => match lOnly x with
    | some ts => if y.er.flat && ts.all (fun t => t.er.flat) then (ts.findIdx? fun t => eqD t.er y.er).map fun j => .v (.int (j : Nat)) else none
    | none => none
def mTy (m : MF) (x : T) : Bool :=
  match m with
  | .join | .find => (match x with
    | .v (.str _) => true
    | _ => false)
  | .count | .index => (lOnly x).isSome
def ixT (x i : T) : Option T :=
  match x, i with
  | .v (.str s), .v (.int k) => (atI s k).map fun c => .v (.str [c])
  | x, .v (.int k) => (asQ x).bind fun ts => atI ts k
  | _, _ => none
def dGet {α : Type} (ks : List D) (vs : List α) (k : D) : Option α := ((ks.zip vs).find? fun p => eqD p.1 k).map Prod.snd
def dHas (ks : List D) (k : D) : Bool := ks.any fun x => eqD x k
def dPut {α : Type} (ks : List D) (vs : List α) (k : D) (v : α) : List D × List α := if dHas ks k then (ks, (ks.zip vs).map fun p => if eqD p.1 k then v else p.2) else (ks ++ [k], vs ++ [v])
def D.kyB : D → Bool
  | .int _ | .str _ => true
  | _ => false
/-- a key of the dict's kind -/
def keyFits (t : Bool) (k : D) : Bool := match t, k with
  | false, k => k.kyB
  | true, .tup ds => ds.all D.kyB
  | _, _ => false
def dixT (x k : T) : Option T := (dicQ x).bind fun p => if keyFits p.1 k.er then dGet p.2.1 p.2.2 k.er else none
def dinT (x k : T) : Option Bool := (dicQ x).bind fun p => if keyFits p.1 k.er then some (dHas p.2.1 k.er) else none
def fldT (x : T) (f : String) : Option T := (objQ x).bind fun p => ((p.2.1.zip p.2.2).find? fun q => q.1 == f).map Prod.snd
def slT (x : T) (lo hi : Option Int) : Option T :=
  match x with
  | .v (.str s) => some (.v (.str (cutL s lo hi)))
  | x => (lOnly x).map fun ts => .l (cutL ts lo hi)
def revT (x : T) : Option T := (lOnly x).map fun ts => .l ts.reverse
def rangeT (lo : Int) (n : Nat) (c : Int) : List T := (List.range n).map fun (i : Nat) => T.v (.int (lo + (i : Int) * c))
/-- the number of turns of range(a, b, c) -/
def rgN (a b c : Int) : Nat := (Builtin.Range.rangeSize a b c).toNat
def small62 (i : Int) : Bool := decide (-(2 ^ 62) ≤ i ∧ i < 2 ^ 62)
/-- what a walk gives: frozen things -/
def itemsT : T → Option (List T)
  | .v (.lst ds) => some (ds.map .v)
  | .v (.tup ds) => some (ds.map .v)
  | .v (.scr ns) => some (ns.map fun n => .v (.int n))
  | .v (.str s) => some (s.map fun c => .v (.str [c]))
  | .w (.lst ds) => some (ds.map subW)
  | .w (.tup ds) => some (ds.map subW)
  | _ => none
def listT : T → Option (List T)
  | .v (.lst ds) => some (ds.map .v)
  | .v (.scr ns) => some (ns.map fun n => .v (.int n))
  | .w (.lst ds) => some (ds.map subW)
  | _ => none
def seqT : T → Option (List T)
  | .v (.lst ds) => some (ds.map .v)
  | .v (.tup ds) => some (ds.map .v)
  | .v (.scr ns) => some (ns.map fun n => .v (.int n))
  | .w (.lst ds) => some (ds.map subW)
  | .w (.tup ds) => some (ds.map subW)
  | .tp ts => some ts
  | .l ts => some ts
  | _ => none
def setSlots (Γ : Env) : List Nat → List T → Option Env
  | [], [] => some Γ
  | i :: is, t :: ts => if i < Γ.length then setSlots (Γ.set i (some t)) is ts else none
  | _, _ => none
/-- what a tuple's target gets -/
def tupT : T → Option (List T)
  | .v (.tup ds) => some (ds.map .v)
  | .w (.tup ds) => some (ds.map subW)
  | .tp ts => some ts
  | _ => none
def bindTg (tg : Tg) (t : T) (Γ : Env) : Option Env :=
  match tg with
  | .nm i => if i < Γ.length then some (Γ.set i (some t)) else none
  | .tp is => (tupT t).bind fun ts => setSlots Γ is ts
def wipeE (Γ : Env) : List Nat → Env
  | [] => Γ
  | v :: vs => (wipeE Γ vs).set v none
def keepV : Option (Option T) → Option T
  | some (some (.v d)) => some (.v d)
  | some (some (.w d)) => some (.w d)
  | _ => none
def restE (Γ1 Γ2 : Env) : List Nat → Env
  | [] => Γ2
  | v :: vs => restE Γ1 (Γ2.set v (keepV (Γ1[v]?))) vs
/-- the given slots alone -/
def keepIo (io : List Nat) (Γ : Env) : Env := io.foldl (fun Γ' i => Γ'.set i ((Γ[i]?).getD none)) (List.replicate Γ.length none)

/-- a comprehension's turns -/
def lcL (step : T → Env → R (Option T)) : List T → Env → List T → R (List T)
  | [], Γ, acc => .ok acc Γ
  | d :: ds, Γ, acc =>
    match step d Γ with
    | .ok none Γ' => lcL step ds Γ' acc
    | .ok (some t) Γ' => lcL step ds Γ' (acc ++ [t])
    | _ => .bad
def forL (step : T → Env → SR) : List T → Env → SR
  | [], Γ => .nx Γ
  | d :: ds, Γ =>
    match step d Γ with
    | .nx Γ' => forL step ds Γ'
    | .ct Γ' => forL step ds Γ'
    | .bk Γ' => .nx Γ'
    | r => r
def whlL (c : Env → R T) (body : Env → SR) : Nat → Env → SR
  | 0, _ => .bad
  | n + 1, Γ =>
    match c Γ with
    | .ok (.v (.bl true)) Γ1 =>
      (match body Γ1 with
      | .nx Γ' => whlL c body n Γ'
      | .ct Γ' => whlL c body n Γ'
      | .bk Γ' => .nx Γ'
      | r => r)
    | .ok (.v (.bl false)) Γ1 => .nx Γ1
    | .ex x Γ1 => .ex x Γ1
    | _ => .bad

def isF : T → Bool
  | .v _ => true
  | .w _ => true
  | _ => false
/-- as a slot is read -/
def bor : T → T
  | .v d => .v d
  | .w d => .w d
  | t => subB t.er
/-- a call's answer: where something was lent, it may hold nothing of the lent -/
def callT (ts : List T) (r : CR) (Γ : Env) : R T := match r with
  | .ret t [] => if T.noBs ts || t.cl then .ok t Γ else .bad
  | .ex x [] => .ex x Γ
  | _ => .bad
/-- an own class's instance just made -/
def newT (ts : List T) (r : CR) (Γ : Env) : R T := match r with
  | .ret (.v .non) [t] => if T.noBs ts || t.cl then .ok t Γ else .bad
  | .ex x _ => .ex x Γ
  | _ => .bad

mutual
def evE (cl : Calls) (con : String → Option D) : E → Env → R T
  | .var i, Γ => match Γ[i]? with
    | some (some t) => .ok (bor t) Γ
    | _ => .bad
  | .frz i, Γ => match Γ[i]? with
    | some (some t) => if isF t then .ok t Γ else (match t.fz with
      | some u => .ok u (Γ.set i (some u))
      | none => .bad)
    | _ => .bad
  | .mov i, Γ => match Γ[i]? with
    | some (some t) => .ok t (Γ.set i none)
    | _ => .bad
  | .int i, Γ => .ok (.v (.int i)) Γ
  | .str s, Γ => .ok (.v (.str s)) Γ
  | .non, Γ => .ok (.v .non) Γ
  | .bl b, Γ => .ok (.v (.bl b)) Γ
  | .glb x, Γ => match con x with
    | some d => .ok (.v d) Γ
    | none => .bad
  | .bin o a b, Γ => (evE cl con a Γ).bind fun x Γ1 => (evE cl con b Γ1).bind fun y Γ2 => R.op (binT o x y) Γ2
  | .neg a, Γ => (evE cl con a Γ).bind fun x Γ1 => match x with
    | .v (.int i) => .ok (.v (.int (-i))) Γ1
    | _ => .bad
  | .not a, Γ => (evE cl con a Γ).bind fun x Γ1 => match x with
    | .v (.bl b) => .ok (.v (.bl (!b))) Γ1
    | _ => .bad
  | .cmp o a b, Γ => (evE cl con a Γ).bind fun x Γ1 => (evE cl con b Γ1).bind fun y Γ2 => R.op ((cmpT o x y).map fun c => .v (.bl c)) Γ2
  | .isN a, Γ => (evE cl con a Γ).bind fun x Γ1 => .ok (.v (.bl x.er.isNon)) Γ1
  | .notN a, Γ => (evE cl con a Γ).bind fun x Γ1 => .ok (.v (.bl (!x.er.isNon))) Γ1
  | .cmp2 o p a b c, Γ => (evE cl con a Γ).bind fun x Γ1 => (evE cl con b Γ1).bind fun y Γ2 => match cmpT o x y with
    | some true => (evE cl con c Γ2).bind fun z Γ3 => R.op ((cmpT p y z).map fun c => .v (.bl c)) Γ3
    | some false => .ok (.v (.bl false)) Γ2
    | none => .bad
  | .and a b, Γ => (evE cl con a Γ).bind fun x Γ1 => match x with
    | .v (.bl true) => evE cl con b Γ1
    | .v (.bl false) => .ok (.v (.bl false)) Γ1
    | _ => .bad
  | .or a b, Γ => (evE cl con a Γ).bind fun x Γ1 => match x with
    | .v (.bl false) => evE cl con b Γ1
    | .v (.bl true) => .ok (.v (.bl true)) Γ1
    | _ => .bad
  | .lrn a, Γ => (evE cl con a Γ).bind fun x Γ1 => match x with
    | .v (.int j) => if small62 j && decide (j ≤ LIM) then .ok (.l ((List.range j.toNat).map fun (i : Nat) => .v (.int (i : Int)))) Γ1 else .bad
    | _ => .bad
  | .call f as, Γ => (evEs cl con as Γ).bind fun ts Γ1 => callT ts (cl f ((T.ers ts).map .v)) Γ1
  | .cme c m o as, Γ => (evE cl con o Γ).bind fun x Γ1 => match objQ x with
    | some (c', ns, _) => if c' == c && !(ns.contains m) then (evEs cl con as Γ1).bind fun ts Γ2 => callT (x :: ts) (cl (c ++ "." ++ m) ((x.er :: T.ers ts).map .v)) Γ2 else .bad
    | none => .bad
  | .new c as, Γ => (evEs cl con as Γ).bind fun ts Γ1 => newT ts (cl (c ++ ".__init__") (.ob c [] [] :: (T.ers ts).map .v)) Γ1
  | .blt f as, Γ => (evEs cl con as Γ).bind fun ts Γ1 => R.op (bltT f ts) Γ1
  | .meth m a b, Γ => (evE cl con a Γ).bind fun x Γ1 => if mTy m x then (evE cl con b Γ1).bind fun y Γ2 => R.op (methT m x y) Γ2 else .bad
  | .get d k x, Γ => (evE cl con d Γ).bind fun dt Γ1 => match dicQ dt with
    | some (t, ks, vs) => (evE cl con k Γ1).bind fun kt Γ2 => (evX cl con x Γ2).bind fun xt Γ3 => if keyFits t kt.er then .ok ((dGet ks vs kt.er).getD xt) Γ3 else .bad
    | none => .bad
  | .isi a t, Γ => (evE cl con a Γ).bind fun x Γ1 => if x.er.tyOk then .ok (.v (.bl (x.er.isi t))) Γ1 else .bad
  | .ix a i, Γ => (evE cl con a Γ).bind fun x Γ1 => (evE cl con i Γ1).bind fun y Γ2 => R.op (ixT x y) Γ2
  | .dix a i, Γ => (evE cl con a Γ).bind fun x Γ1 => (evE cl con i Γ1).bind fun y Γ2 => R.op (dixT x y) Γ2
  | .din n k d, Γ => (evE cl con k Γ).bind fun y Γ1 => (evE cl con d Γ1).bind fun x Γ2 => R.op ((dinT x y).map fun c => .v (.bl (if n then !c else c))) Γ2
  | .fld a f, Γ => (evE cl con a Γ).bind fun x Γ1 => R.op (fldT x f) Γ1
  | .sl a lo hi, Γ => (evE cl con a Γ).bind fun x Γ1 => (evO cl con lo Γ1).bind fun l Γ2 => (evO cl con hi Γ2).bind fun h Γ3 => R.op (slT x l h) Γ3
  | .rev a, Γ => (evE cl con a Γ).bind fun x Γ1 => R.op (revT x) Γ1
  | .lst es, Γ => (evEs cl con es Γ).bind fun ts Γ1 => if decide (ts.length ≤ LIM) then .ok (.l ts) Γ1 else .bad
  | .tup es, Γ => (evEs cl con es Γ).bind fun ts Γ1 => if decide (ts.length ≤ LIM) then .ok (mkTp ts) Γ1 else .bad
  | .dic0 t, Γ => .ok (.dc t [] []) Γ
  | .lc own tg it c e, Γ => (evI cl con it Γ).bind fun ds Γ1 => if ds.length ≤ LIM then
    (lcL (fun d Γ2 => match bindTg tg d Γ2 with
      | none => .bad
      | some Γ3 => (evC cl con c Γ3).bind fun b Γ4 => match b with
        | false => .ok none (wipeE Γ4 own)
        | true => (evE cl con e Γ4).bind fun t Γ5 => if t.noB then .ok (some t) (wipeE Γ5 own) else .bad) ds (wipeE Γ1 own) []).bind fun ts Γ6 => .ok (.l ts) (restE Γ1 Γ6 own)
    else .bad
def evX (cl : Calls) (con : String → Option D) : OE → Env → R T
  | .no, Γ => .ok (.v .non) Γ
  | .so e, Γ => evE cl con e Γ
def evC (cl : Calls) (con : String → Option D) : OE → Env → R Bool
  | .no, Γ => .ok true Γ
  | .so e, Γ => (evE cl con e Γ).bind fun x Γ1 => match x with
    | .v (.bl b) => .ok b Γ1
    | _ => .bad
def evO (cl : Calls) (con : String → Option D) : OE → Env → R (Option Int)
  | .no, Γ => .ok none Γ
  | .so e, Γ => (evE cl con e Γ).bind fun x Γ1 => match x with
    | .v (.int i) => .ok (some i) Γ1
    | _ => .bad
def evEs (cl : Calls) (con : String → Option D) : Es → Env → R (List T)
  | .nil, Γ => .ok [] Γ
  | .cons e es, Γ => (evE cl con e Γ).bind fun t Γ1 => (evEs cl con es Γ1).bind fun ts Γ2 => .ok (t :: ts) Γ2
def evI (cl : Calls) (con : String → Option D) : I → Env → R (List T)
  | .seq e, Γ => (evE cl con e Γ).bind fun t Γ1 => R.op (t.fz.bind itemsT) Γ1
  | .rng1 a, Γ => (evE cl con a Γ).bind fun x Γ1 => match x with
    | .v (.int j) => if small62 j && decide (j ≤ LIM) then .ok (rangeT 0 j.toNat 1) Γ1 else .bad
    | _ => .bad
  | .rng2 a b, Γ => (evE cl con a Γ).bind fun x Γ1 => (evE cl con b Γ1).bind fun y Γ2 => match x, y with
    | .v (.int i), .v (.int j) => if small62 i && small62 j && decide (j - i ≤ LIM) then .ok (rangeT i (j - i).toNat 1) Γ2 else .bad
    | _, _ => .bad
  | .rng3 a b c, Γ => (evE cl con a Γ).bind fun x Γ1 => (evE cl con b Γ1).bind fun y Γ2 => (evE cl con c Γ2).bind fun z Γ3 => match x, y, z with
    | .v (.int i), .v (.int j), .v (.int k) => if Builtin.Range.small i j k && decide (k ≠ 0 ∧ -1073741824 < k ∧ k < 1073741824) && decide (rgN i j k ≤ LIM) then .ok (rangeT i (rgN i j k) k) Γ3 else .bad
    | _, _, _ => .bad
  | .enum e, Γ => (evE cl con e Γ).bind fun t Γ1 => match t.fz.bind listT with
    | some ds => .ok (ds.zipIdx.map fun p => .tp [.v (.int p.2), p.1]) Γ1
    | none => .bad
  | .zip a b, Γ => (evE cl con a Γ).bind fun x Γ1 => (evE cl con b Γ1).bind fun y Γ2 => match x.fz.bind listT, y.fz.bind listT with
    | some ds, some es => .ok ((ds.zip es).map fun p => .tp [p.1, p.2]) Γ2
    | _, _ => .bad
  | .rvd a, Γ => (evE cl con a Γ).bind fun t Γ1 => match t.fz.bind listT with
    | some ds => .ok ds.reverse Γ1
    | none => .bad
end

def liftE (r : R T) (f : T → Env → SR) : SR :=
  match r with
  | .bad => .bad
  | .ok a Γ => f a Γ
  | .ex x Γ => .ex x Γ
def liftI {α : Type} (r : R α) (f : α → Env → SR) : SR :=
  match r with
  | .bad => .bad
  | .ok a Γ => f a Γ
  | .ex x Γ => .ex x Γ

/-! ### places -/
inductive PK where | n (k : Nat) | f (s : String)
abbrev Pth := Nat × List PK
def fIx (ns : List String) (f : String) : Option Nat := ns.findIdx? fun x => x == f
def getP : T → List PK → Option T
  | t, [] => some t
  | .l ts, .n k :: p => match ts[k]? with
    | some t => getP t p
    | none => none
  | .tp ts, .n k :: p => match ts[k]? with
    | some t => getP t p
    | none => none
  | .ob _ ns ts, .f s :: p => match fIx ns s with
    | some k => (match ts[k]? with
      | some t => getP t p
      | none => none)
    | none => none
  | _, _ => none
/-- the thing at the place is another one now -/
def setP : T → List PK → T → T
  | _, [], u => u
  | .l ts, .n k :: p, u => match ts[k]? with
    | some t => .l (ts.set k (setP t p u))
    | none => .l ts
  | .tp ts, .n k :: p, u => match ts[k]? with
    | some t => .tp (ts.set k (setP t p u))
    | none => .tp ts
  | .ob c ns ts, .f s :: p, u => match fIx ns s with
    | some k => (match ts[k]? with
      | some t => .ob c ns (ts.set k (setP t p u))
      | none => .ob c ns ts)
    | none => .ob c ns ts
  | t, _, _ => t
def getΓ (Γ : Env) (q : Pth) : Option T := match Γ[q.1]? with
  | some (some t) => getP t q.2
  | _ => none
def setΓ (Γ : Env) (q : Pth) (u : T) : Env := match Γ[q.1]? with
  | some (some t) => Γ.set q.1 (some (setP t q.2 u))
  | _ => Γ
def ixT1 (n : Nat) : T → Option Nat
  | .v (.int j) => ixN n j
  | _ => none
/-- the items of an owned list or tuple -/
def ownQ : Option T → Option (List T)
  | some (.l ts) => some ts
  | some (.tp ts) => some ts
  | _ => none
def evPl (cl : Calls) (con : String → Option D) : Pl → Env → R Pth
  | .nm i, Γ => match Γ[i]? with
    | some (some _) => .ok (i, []) Γ
    | _ => .bad
  | .ix p e, Γ => (evPl cl con p Γ).bind fun q Γ1 => match ownQ (getΓ Γ1 q) with
    | some _ => (evE cl con e Γ1).bind fun k Γ2 => (match ownQ (getΓ Γ2 q) with
      | some ts => (match ixT1 ts.length k with
        | some n => .ok (q.1, q.2 ++ [.n n]) Γ2
        | none => .bad)
      | none => .bad)
    | none => .bad
  | .fl p f, Γ => (evPl cl con p Γ).bind fun q Γ1 => match getΓ Γ1 q with
    | some (.ob _ ns _) => (match fIx ns f with
      | some _ => .ok (q.1, q.2 ++ [.f f]) Γ1
      | none => .bad)
    | _ => .bad
def isLs (Γ : Env) (q : Pth) : Bool := match getΓ Γ q with
  | some (.l _) => true
  | _ => false
def isDs (Γ : Env) (q : Pth) : Bool := match getΓ Γ q with
  | some (.dc _ _ _) => true
  | _ => false
def putO (Γ : Env) (i : Nat) (o : Option T) : SR := match o with
  | some t => .nx (Γ.set i (some t))
  | none => .bad
def putΓ (Γ : Env) (q : Pth) (o : Option T) : SR := match o with
  | some u => .nx (setΓ Γ q u)
  | none => .bad
def lstT : T → Option (List T)
  | .v (.lst ds) => some (ds.map .v)
  | .w (.lst ds) => some (ds.map subW)
  | .b (.lst ds) => if D.imms ds then some (ds.map .v) else none
  | .l ts => some ts
  | _ => none
def mutT (m : MO) (o : Option T) (as : List T) : Option T := match m, o, as with
  | .append, some (.l ts), [t] => if t.noB && decide (ts.length < LIM) then some (.l (ts ++ [t])) else none
  | .extend, some (.l ts), [t] => match lstT t with
    | some us => if T.noBs us && decide (ts.length + us.length ≤ LIM) then some (.l (ts ++ us)) else none
    | none => none
  | .reverse, some (.l ts), [] => some (.l ts.reverse)
  | .clear, some (.l _), [] => some (.l [])
  | .insert, some (.l ts), [.v (.int i), t] => if t.noB && decide (ts.length < LIM) && decide (0 ≤ i ∧ i < 2 ^ 62) then some (.l (ts.take i.toNat ++ t :: ts.drop i.toNat)) else none
  | _, _, _ => none
/-- xs.pop(), xs.pop(i): the thing, the list behind it -/
def popT (o : Option T) (as : List T) : Option (T × T) := match o, as with
  | some (.l ts), [] => match ts[ts.length - 1]? with
    | some t => some (t, .l ts.dropLast)
    | none => none
  | some (.l ts), [.v (.int i)] => if small62 i then (match ixN ts.length i with
    | some k => (match ts[k]? with
      | some t => some (t, .l (ts.eraseIdx k))
      | none => none)
    | none => none) else none
  | _, _ => none
def stoT (o : Option T) (k t : T) : Option T := match o with
  | some (.l ts) => (ixT1 ts.length k).bind fun n => if t.noB then some (.l (ts.set n t)) else none
  | _ => none
def dstoT (o : Option T) (k t : T) : Option T := match o with
  | some (.dc kd ks ts) => if t.noB && keyFits kd k.er && decide (ks.length < LIM) then some (.dc kd (dPut ks ts k.er t).1 (dPut ks ts k.er t).2) else none
  | _ => none
def putFT (ns : List String) (ts : List T) (f : String) (t : T) : List String × List T := match fIx ns f with
  | some k => (ns, ts.set k t)
  | none => (ns ++ [f], ts ++ [t])
def stfT (c : String) (o : Option T) (f : String) (t : T) : Option T := match o with
  | some (.ob c' ns ts) => if c' == c && t.noB && decide (ns.length < 900) then some (.ob c (putFT ns ts f t).1 (putFT ns ts f t).2) else none
  | _ => none
def getI (o : Option T) (k : T) : Option Int := match o with
  | some (.l ts) => match (ixT1 ts.length k).bind fun n => ts[n]? with
    | some (.v (.int x)) => some x
    | _ => none
  | _ => none
def augI (o : BOp) (x : Int) (t : T) : Option Int := match o, t with
  | .add, .v (.int y) => some (x + y)
  | .sub, .v (.int y) => some (x - y)
  | _, _ => none
def augT (o : BOp) (s : Option T) (k : T) (x : Int) (t : T) : Option T := match s with
  | some (.l ts) => (ixT1 ts.length k).bind fun n => (augI o x t).map fun z => .l (ts.set n (.v (.int z)))
  | _ => none
def slotT (Γ : Env) (i : Nat) : Option T := match Γ[i]? with
  | some (some t) => some t
  | _ => none

mutual
def evS (cl : Calls) (con : String → Option D) : S → Env → SR
  | .set i e, Γ => liftE (evE cl con e Γ) fun t Γ1 => if t.noB && decide (i < Γ1.length) then .nx (Γ1.set i (some t)) else .bad
  | .setF i e, Γ => liftE (evE cl con e Γ) fun t Γ1 => match t.fz with
    | some d => if i < Γ1.length then .nx (Γ1.set i (some d)) else .bad
    | none => .bad
  | .setT is e, Γ => liftE (evE cl con e Γ) fun t Γ1 => match seqT t with
    | some ds => if T.noBs ds then (match setSlots Γ1 is ds with
      | some Γ2 => .nx Γ2
      | none => .bad) else .bad
    | none => .bad
  | .sto p ix e, Γ => liftE (evE cl con e Γ) fun t Γ1 => liftI (evPl cl con p Γ1) fun q Γ2 => if isLs Γ2 q then liftE (evE cl con ix Γ2) fun k Γ3 => putΓ Γ3 q (stoT (getΓ Γ3 q) k t) else .bad
  | .dsto p ix e, Γ => liftE (evE cl con e Γ) fun t Γ1 => liftI (evPl cl con p Γ1) fun q Γ2 => if isDs Γ2 q then liftE (evE cl con ix Γ2) fun k Γ3 => putΓ Γ3 q (dstoT (getΓ Γ3 q) k t) else .bad
  | .stf c p f e, Γ => liftE (evE cl con e Γ) fun t Γ1 => liftI (evPl cl con p Γ1) fun q Γ2 => putΓ Γ2 q (stfT c (getΓ Γ2 q) f t)
  | .augV i o e, Γ => match Γ[i]? with
    | some (some (.v (.int x))) => liftE (evE cl con e Γ) fun t Γ1 => putO Γ1 i ((augI o x t).map fun z => .v (.int z))
    | _ => .bad
  | .augS i o ix e, Γ => if isLs Γ (i, []) then liftE (evE cl con ix Γ) fun k Γ1 => match getI (slotT Γ1 i) k with
    | some x => liftE (evE cl con e Γ1) fun t Γ2 => putO Γ2 i (augT o (slotT Γ2 i) k x t)
    | none => .bad
    else .bad
  | .mut m p as, Γ => liftI (evPl cl con p Γ) fun q Γ1 => if isLs Γ1 q then liftI (evEs cl con as Γ1) fun ts Γ2 => putΓ Γ2 q (mutT m (getΓ Γ2 q) ts) else .bad
  | .pop i p as, Γ => liftI (evPl cl con p Γ) fun q Γ1 => if isLs Γ1 q then liftI (evEs cl con as Γ1) fun ts Γ2 => match popT (getΓ Γ2 q) ts with
    | some (t, u) => if i < Γ2.length then .nx ((setΓ Γ2 q u).set i (some t)) else .bad
    | none => .bad
    else .bad
  | .ex e, Γ => liftE (evE cl con e Γ) fun _ Γ1 => .nx Γ1
  | .ife c a b, Γ => liftE (evE cl con c Γ) fun t Γ1 => match t with
    | .v (.bl true) => evSs cl con a Γ1
    | .v (.bl false) => evSs cl con b Γ1
    | _ => .bad
  | .for tg it body, Γ => liftI (evI cl con it Γ) fun ds Γ1 => forL (fun d Γ2 => match bindTg tg d Γ2 with
    | some Γ3 => evSs cl con body Γ3
    | none => .bad) ds Γ1
  | .whl n c body, Γ => whlL (evE cl con c) (evSs cl con body) n Γ
  | .ret io e, Γ => liftE (evE cl con e Γ) fun t Γ1 => if t.noB then .rt t (keepIo io Γ1) else .bad
  | .retN io, Γ => .rt (.v .non) (keepIo io Γ)
  | .pass, Γ => .nx Γ
  | .brk, Γ => .bk Γ
  | .cnt, Γ => .ct Γ
  | .dead, _ => .bad
def evSs (cl : Calls) (con : String → Option D) : Ss → Env → SR
  | .nil, Γ => .nx Γ
  | .cons s ss, Γ => match evS cl con s Γ with
    | .nx Γ1 => evSs cl con ss Γ1
    | r => r
  | .kill is ss, Γ => evSs cl con ss (wipeE Γ is)
end

/-- np parameters, ns slots; io: the parameters that are handed in to be changed -/
structure Fn where
  np : Nat
  ns : Nat
  io : List Nat
  body : Ss
def env0 (ts : List T) (ns : Nat) : Env := ts.map some ++ List.replicate (ns - ts.length) none
def outs (Γ : Env) : List Nat → Option (List T)
  | [] => some []
  | i :: is => match Γ[i]?, outs Γ is with
    | some (some t), some ts => some (t :: ts)
    | _, _ => none
def toCR (io : List Nat) : SR → CR
  | .rt t Γ => match outs Γ io with
    | some os => if t.noB then .ret t os else .bad
    | none => .bad
  | .nx Γ => match outs Γ io with
    | some os => .ret (.v .non) os
    | none => .bad
  | .ex x Γ => match outs Γ io with
    | some os => .ex x os
    | none => .bad
  | _ => .bad
/-- handed in as the def wants it -/
def argOk (io : List Nat) : Nat → List T → Bool
  | _, [] => true
  | i, t :: ts => (match t with
    | .v _ => true
    | t => io.contains i && t.noB) && argOk io (i + 1) ts
def evF (P : String → Option Fn) (con : String → Option D) : Nat → Calls
  | 0, _, _ => .bad
  | k + 1, f, ts => match P f with
    | none => .bad
    | some fn => if ts.length = fn.np ∧ argOk fn.io 0 ts = true then toCR fn.io (evSs (evF P con k) con fn.body (env0 ts fn.ns)) else .bad
end Tv

namespace Tv
open PySem PySem.Spec PyProof.Rows L2

/-! ### does the small tree tell the text's -/
structure CP where
  blk : Bool
  fns : List String
  cls : List String
  mts : List (String × String)
  ats : List (String × String)
  io : List Nat
def visB (sc : Scope) (x : Str) : Bool :=
  match sc.names.lookup x with
  | some .local => true
  | some .cell => true
  | some .free => true
  | _ => false
def glB (sc : Scope) (x : Str) : Bool := decide (sc.names.lookup x = some .globalImplicit)
def stB (sc : Scope) (b : CP) (x : Str) : Bool := decide (sc.names.lookup x = some .local) || (!b.blk && decide (sc.names.lookup x = some .cell))
def chkName (N : List Str) (sc : Scope) (i : Nat) (e : Expr) : Bool :=
  match e with
  | .Name x _ => decide (N[i]? = some x) && visB sc x && !(x == ("__debug__" : Str)) && !(x == ("__classdict__" : Str))
  | _ => false
def isGl (sc : Scope) (n : String) (e : Expr) : Bool :=
  match e with
  | .Name x _ => decide (x = Str.ofString n) && glB sc x
  | _ => false
def chkSt (N : List Str) (sc : Scope) (b : CP) (i : Nat) (e : Expr) : Bool :=
  match e with
  | .Name x _ => decide (N[i]? = some x) && stB sc b x
  | _ => false
def chkSts (N : List Str) (sc : Scope) (b : CP) : List Nat → List Expr → Bool
  | [], [] => true
  | i :: is, e :: es => chkSt N sc b i e && chkSts N sc b is es
  | _, _ => false
def chkTg (N : List Str) (sc : Scope) (b : CP) (tg : Tg) (e : Expr) : Bool :=
  match tg with
  | .nm i => chkSt N sc b i e
  | .tp is => match e with
    | .Tuple es _ _ => chkSts N sc b is es
    | _ => false
def Tg.slots : Tg → List Nat
  | .nm i => [i]
  | .tp is => is
def isTuple : Expr → Bool
  | .Tuple .. => true
  | _ => false
def BOp.op : BOp → Operator
  | .add => .Add | .sub => .Sub | .mul => .Mult | .mod => .Mod | .fdiv => .FloorDiv | .pow => .Pow
def COp.op : COp → CmpOp
  | .eq => .Eq | .ne => .NotEq | .lt => .Lt | .le => .LtE | .gt => .Gt | .ge => .GtE | .isIn => .In | .notIn => .NotIn
def BF.nm : BF → String
  | .len => "len" | .max => "max" | .min => "min" | .sum => "sum" | .all => "all" | .list => "list" | .tuple => "tuple" | .str => "str" | .int => "int" | .abs => "abs" | .sorted => "sorted"
def BF.ty : BF → Bool
  | .list | .tuple | .str | .int => true
  | _ => false
def MF.nm : MF → String
  | .join => "join" | .find => "find" | .count => "count" | .index => "index"
def Ty.nm : Ty → String
  | .int => "int" | .bool => "bool" | .str => "str" | .list => "list" | .tuple => "tuple" | .dict => "dict"
def notStar : Expr → Bool
  | .Starred .. => false
  | _ => true
def notSet : Expr → Bool
  | .Set .. => false
  | _ => true
def ownP (N : List Str) (own : List Nat) : List (Str × Nat) := own.filterMap fun i => (N[i]?).map fun x => (x, i)

mutual
def chkE (N : List Str) (sc : Scope) (b : CP) : E → Expr → Bool
  | .var i, e => chkName N sc i e
  | .frz i, e => chkName N sc i e
  | .mov i, e => chkName N sc i e
  | .int i, e => match e with
    | .Constant (.int j) _ _ => decide (i = j)
    | _ => false
  | .str s, e => match e with
    | .Constant (.str x) _ _ => decide (x.cps.toList = s) && okS s
    | _ => false
  | .non, e => match e with
    | .Constant .none _ _ => true
    | _ => false
  | .bl c, e => match e with
    | .Constant (.bool d) _ _ => decide (c = d)
    | _ => false
  | .glb x, e => isGl sc x e && !(Str.ofString x == ("__debug__" : Str))
  | .bin o a c, e => match e with
    | .BinOp x op y _ => decide (op = o.op) && chkE N sc b a x && chkE N sc b c y
    | _ => false
  | .neg a, e => match e with
    | .UnaryOp .USub x _ => chkE N sc b a x
    | _ => false
  | .not a, e => match e with
    | .UnaryOp .Not x _ => chkE N sc b a x
    | _ => false
  | .cmp o a c, e => match e with
    | .Compare x [op] [y] _ => decide (op = o.op) && chkE N sc b a x && chkE N sc b c y
    | _ => false
  | .isN a, e => match e with
    | .Compare x [.Is] [.Constant .none _ _] _ => chkE N sc b a x
    | _ => false
  | .notN a, e => match e with
    | .Compare x [.IsNot] [.Constant .none _ _] _ => chkE N sc b a x
    | _ => false
  | .cmp2 o p a c d, e => match e with
    | .Compare x [op, oq] [y, z] _ => decide (op = o.op) && decide (oq = p.op) && chkE N sc b a x && chkE N sc b c y && chkE N sc b d z
    | _ => false
  | .and a c, e => match e with
    | .BoolOp .And (x :: y :: r) q => chkE N sc b a x && (if r.isEmpty then chkE N sc b c y else chkE N sc b c (.BoolOp .And (y :: r) q))
    | _ => false
  | .or a c, e => match e with
    | .BoolOp .Or (x :: y :: r) q => chkE N sc b a x && (if r.isEmpty then chkE N sc b c y else chkE N sc b c (.BoolOp .Or (y :: r) q))
    | _ => false
  | .call f as, e => match e with
    | .Call (.Name x _) (y :: ys) [] _ => decide (x = Str.ofString f) && b.fns.contains f && glB sc x && !(x == ("__debug__" : Str)) && chkEs N sc b as (y :: ys)
    | _ => false
  | .cme c m o as, e => match e with
    | .Call (.Attribute x n ap) ys [] cp => decide (n = Str.ofString m) && decide (ap.endLine = cp.line) && decide (ys.length < 29) && b.mts.contains (c, m) && chkE N sc b o x && chkEs N sc b as ys
    | _ => false
  | .new c as, e => match e with
    | .Call (.Name x _) ys [] _ => decide (x = Str.ofString c) && b.cls.contains c && glB sc x && (x != ("super" : Str)) && !(x == ("__debug__" : Str)) && chkEs N sc b as ys
    | _ => false
  | .lrn a, e => match e with
    | .Call fn [.Call gn [y] [] _] [] _ => isGl sc "list" fn && isGl sc "range" gn && chkE N sc b a y && notStar y
    | _ => false
  | .blt f as, e => match e with
    | .Call fn (y :: ys) [] _ => isGl sc f.nm fn && chkEs N sc b as (y :: ys)
    | _ => false
  | .meth m a c, e => match e with
    | .Call (.Attribute x n ap) [y] [] cp => decide (n = Str.ofString m.nm) && decide (ap.endLine = cp.line) && chkE N sc b a x && chkE N sc b c y
    | _ => false
  | .get d k x, e => match e with
    | .Call (.Attribute y n ap) as [] cp => decide (n = Str.ofString "get") && decide (ap.endLine = cp.line) && chkE N sc b d y && (match as, x with
      | [z], .no => chkE N sc b k z
      | [z, u], .so m => chkE N sc b k z && chkE N sc b m u
      | _, _ => false)
    | _ => false
  | .isi a t, e => match e with
    | .Call fn [x, y] [] _ => isGl sc "isinstance" fn && chkE N sc b a x && isGl sc t.nm y
    | _ => false
  | .ix a i, e => match e with
    | .Subscript x y _ => chkE N sc b a x && chkE N sc b i y
    | _ => false
  | .dix a i, e => match e with
    | .Subscript x y _ => chkE N sc b a x && chkE N sc b i y
    | _ => false
  | .din n k d, e => match e with
    | .Compare x [op] [y] _ => decide (op = (if n then CmpOp.NotIn else CmpOp.In)) && chkE N sc b k x && chkE N sc b d y
    | _ => false
  | .fld a f, e => match e with
    | .Attribute x n _ => decide (n = Str.ofString f) && chkE N sc b a x
    | _ => false
  | .sl a lo hi, e => match e with
    | .Subscript x (.Slice l h none _) _ => chkE N sc b a x && chkO N sc b lo l && chkO N sc b hi h
    | _ => false
  | .rev a, e => match e with
    | .Subscript x (.Slice none none (some (.UnaryOp .USub (.Constant (.int 1) _ _) _)) _) _ => chkE N sc b a x
    | _ => false
  | .lst es, e => match e with
    | .List xs _ => chkEs N sc b es xs
    | _ => false
  | .tup es, e => match e with
    | .Tuple xs _ _ => chkEs N sc b es xs
    | _ => false
  | .dic0 _, e => match e with
    | .Dict [] [] _ => true
    | _ => false
  | .lc own tg it c m, e => match e with
    | .ListComp x [⟨t, iter, ifs, 0⟩] scope _ => chkI N sc b it t iter && decide own.Nodup && blkC N sc scope (ownP N own) && decide ((ownP N own).map (·.2) = own) && chkTg N (relS scope sc) ⟨true, b.fns, b.cls, b.mts, b.ats, b.io⟩ tg t &&
        (tg.slots.all fun i => own.contains i) && (match c, ifs with
          | .no, [] => true
          | .so k, [y] => chkE N (relS scope sc) ⟨true, b.fns, b.cls, b.mts, b.ats, b.io⟩ k y
          | _, _ => false) && chkE N (relS scope sc) ⟨true, b.fns, b.cls, b.mts, b.ats, b.io⟩ m x
    | _ => false
def chkO (N : List Str) (sc : Scope) (b : CP) : OE → Option Expr → Bool
  | .no, none => true
  | .so e, some x => chkE N sc b e x
  | _, _ => false
def chkEs (N : List Str) (sc : Scope) (b : CP) : Es → List Expr → Bool
  | .nil, [] => true
  | .cons e es, x :: xs => chkE N sc b e x && notStar x && chkEs N sc b es xs
  | _, _ => false
def chkI (N : List Str) (sc : Scope) (b : CP) : I → Expr → Expr → Bool
  | .seq m, _, e => chkE N sc b m e && notSet e
  | .rng1 a, _, e => match e with
    | .Call fn [x] [] _ => isGl sc "range" fn && chkE N sc b a x && notStar x
    | _ => false
  | .rng2 a c, _, e => match e with
    | .Call fn [x, y] [] _ => isGl sc "range" fn && chkE N sc b a x && chkE N sc b c y && notStar x && notStar y
    | _ => false
  | .rng3 a c d, _, e => match e with
    | .Call fn [x, y, z] [] _ => isGl sc "range" fn && chkE N sc b a x && chkE N sc b c y && chkE N sc b d z && notStar x && notStar y && notStar z
    | _ => false
  | .enum a, t, e => match e with
    | .Call fn [x] [] _ => isGl sc "enumerate" fn && chkE N sc b a x && notStar x && isTuple t
    | _ => false
  | .zip a c, t, e => match e with
    | .Call fn [x, y] [] _ => isGl sc "zip" fn && chkE N sc b a x && chkE N sc b c y && notStar x && notStar y && isTuple t
    | _ => false
  | .rvd a, _, e => match e with
    | .Call fn [x] [] _ => isGl sc "reversed" fn && chkE N sc b a x && notStar x
    | _ => false
end

/-! ### the wishes -/
structure Glob where
  cl : Calls
  con : String → Option D
  pin : List (Nat × V)
  exr : Exn → Value → Option Addr → Hp → Hp → Prop
  exst : ∀ x c d F F' H, Stb F F' → exr x c d F H → exr x c d F' H

def Post {α β : Type} (K : W.Frag) (G : Glob) (W : WX) (B : Base) (F : FF) (H : Hp) (σ : L2.St) (tmp : List Addr) (rep : FF → Hp → β → α → List Addr → Prop) (r : R α) (Q : β → Hp → Prop) : Prop :=
  match r with
  | .bad => False
  | .ok a Γ => ∀ v F' H' fp, Rel K B F' H' σ Γ (fp ++ tmp) → rep F' H' v a fp → Sub H H' → SubF F F' → Q v H'
  | .ex x Γ => ∀ c d F' H', Rel K B F' H' σ Γ tmp → Sub H H' → SubF F F' → G.exr x c d F' H' → W c d σ H'
section
variable {α β γ δ : Type} {K : W.Frag} {G : Glob} {W : WX} {B : Base} {F F1 : FF} {H H1 : Hp} {σ : L2.St} {Γ : Env} {tmp fp : List Addr} {rep : FF → Hp → β → α → List Addr → Prop} {rep2 : FF → Hp → δ → γ → List Addr → Prop} {r : R α} {Q Q' : β → Hp → Prop}
theorem Post.imp (P : Post K G W B F H σ tmp rep r Q) (h : ∀ v H', Q v H' → Q' v H') : Post K G W B F H σ tmp rep r Q' := by
  cases r with
  | bad => exact P
  | ok a Γ => exact fun v F' H' fp a b c d => h _ _ (P v F' H' fp a b c d)
  | ex x Γ => exact P
theorem Post.later (P : Post K G W B F H σ tmp rep r Q) (hH : Sub H H1) (hF : SubF F F1) : Post K G W B F1 H1 σ tmp rep r Q := by
  cases r with
  | bad => exact P
  | ok a Γ => exact fun v F' H' fp a b c d => P v F' H' fp a b (hH.trans c) (hF.trans d)
  | ex x Γ => exact fun c d F' H' a b e f => P c d F' H' a (hH.trans b) (hF.trans e) f
theorem Post.bind {f : α → Env → R γ} {Q2 : δ → Hp → Prop} (P : Post K G W B F H σ tmp rep2 (r.bind f) Q2) :
    Post K G W B F H σ (fp ++ tmp) rep r (fun v H' => ∃ a Γ' F' fp', Rel K B F' H' σ Γ' (fp' ++ (fp ++ tmp)) ∧ rep F' H' v a fp' ∧ Sub H H' ∧ SubF F F' ∧ Post K G W B F' H' σ tmp rep2 (f a Γ') Q2) := by
  cases r with
  | bad => exact P
  | ok a Γ => exact fun v F' H' fp' h1 h2 h3 h4 => ⟨a, Γ, F', fp', h1, h2, h3, h4, P.later h3 h4⟩
  | ex x Γ => exact fun c d F' H' h1 h2 h3 h4 => P c d F' H' (h1.less fun a => by rw [List.count_append]; omega) h2 h3 h4
end
def TM {α β : Type} (K : W.Frag) (G : Glob) (W : WX) (rep : FF → Hp → β → α → List Addr → Prop) (ev : Env → R α) : L2.St → Hp → (β → Hp → Prop) → Prop :=
  fun σ H Q => ∃ B F Γ tmp, Rel K B F H σ Γ tmp ∧ Post K G W B F H σ tmp rep (ev Γ) Q
abbrev rT (K : W.Frag) : FF → Hp → V → T → List Addr → Prop := fun F H v t fp => RpT K F H v t fp
abbrev rTs (K : W.Frag) : FF → Hp → List V → List T → List Addr → Prop := fun F H v t fp => RpTs K F H v t fp
abbrev TE' (K : W.Frag) (G : Glob) (W : WX) (m : E) : TE := TM K G W (rT K) (evE G.cl G.con m)
abbrev TA' (K : W.Frag) (G : Glob) (W : WX) (m : Es) : TA := TM K G W (rTs K) (evEs G.cl G.con m)

def bltNames : List String := ["len", "max", "min", "sum", "all", "list", "tuple", "str", "int", "abs", "sorted", "isinstance", "bool", "dict", "range", "enumerate", "zip", "reversed"]
/-- what stands for good -/
def stF (F : Hp) : Hp := fun a => match F a with
  | some o => if stab o = true then some o else none
  | none => none
theorem stF_sub (F : Hp) : ∀ a o, stF F a = some o → F a = some o := fun a o e => by
  unfold stF at e
  split at e
  · rename_i u q
    split at e
    · cases e; exact q
    · cases e
  · cases e
theorem stF_stab (F : Hp) : ∀ a o, stF F a = some o → stab o = true := fun a o e => by
  unfold stF at e
  split at e
  · split at e
    · rename_i h; cases e; exact h
    · cases e
  · cases e
theorem stF_stb (F : Hp) : Stb F (stF F) := fun a o e s => by
  unfold stF; rw [e]; dsimp only; rw [if_pos s]
/-- the heap but for what is handed in -/
def hideA (H : Hp) (fs : List Addr) : Hp := fun a => if a ∈ fs then none else H a
/-- the things at some places -/
def pick {α : Type} (xs : List α) : List Nat → Option (List α)
  | [] => some []
  | i :: is => match xs[i]?, pick xs is with
    | some x, some r => some (x :: r)
    | _, _ => none
/-- a call's promise: what the small run says. vs: the arguments, ts: what they are, fs: what of them is handed in to be changed (at the places io) -/
def spM (K : W.Frag) (G : Glob) (io : List Nat) (f : String) : Sp := fun vs H Q E => ∃ F0 ts fs, Sub F0 (hideA H fs) ∧ Stb H F0 ∧ RpTs K ⟨F0, stF F0⟩ H vs ts fs ∧ T.noBs ts = true ∧ (∀ a, fs.count a ≤ 1) ∧ (∀ a ∈ fs, H a ≠ none ∧ ∀ o u, H a ≠ some (.frz o u)) ∧
  (match G.cl f ts with
  | .bad => False
  | .ret t os => ∀ v F' H' fp vo fo, Sub (hideA H fs) H' → CallEnd (hideA H fs) F0 F' H' → RpT K F' H' v t fp → t.noB = true → pick vs io = some vo → RpTs K F' H' vo os fo → T.noBs os = true → (∀ a, (fp ++ fo).count a ≤ 1) → (∀ a ∈ fp ++ fo, F'.f a = none ∧ hideA H fs a = none ∧ H' a ≠ none) → Q v H'
  | .ex x os => ∀ c d F' H' vo fo, Sub (hideA H fs) H' → CallEnd (hideA H fs) F0 F' H' → pick vs io = some vo → RpTs K F' H' vo os fo → T.noBs os = true → (∀ a, fo.count a ≤ 1) → (∀ a ∈ fo, F'.f a = none ∧ hideA H fs a = none ∧ H' a ≠ none) → G.exr x c d F' H' → E c d H')
structure FnAt0 (P : Program) (w : World) (K : W.Frag) (mg : Str → Option Value) (base : Heap) (f : Addr) (k : Nat) (sp : Sp) : Prop where
  ok : ∃ fd ps, PySem.W.keepIn K (.ref f) = true ∧ L2.Binds K fd ps [] ∧ FnOk P w K mg base (L2.CX P w) k f fd ps sp
abbrev FnAt (X : Cx) (f : Addr) (k : Nat) (sp : Sp) : Prop := FnAt0 X.prog X.w X.K X.mg X.base f k sp
/-- a context in which the small tree tells what runs -/
structure Gd (X : Cx) (G : Glob) (W : WX) (b : CP) : Prop where
  nd : X.N.Nodup
  calm : X.calm = true
  own : PassesOwn (model X.prog X.w) X.A X.env X.xe
  tk : Takes X W
  hu : X.A.units + 66 < cLine
  st : b.blk = false → ∀ x, X.fn x = true
  con : ∀ x d, G.con x = some d → ∃ u v, X.mg (Str.ofString x) = some u ∧ RelV v u ∧ RpD X.K (fun _ => none) v d
  blt : ∀ x ∈ bltNames, X.mg (Str.ofString x) = none
  fn : ∀ f ∈ b.fns, ∃ a k, X.mg (Str.ofString f) = some (.ref a) ∧ FnAt X a k (spM X.K G [] f) ∧ Room k X.A
  cls : ∀ c ∈ b.cls, ∃ f k, X.mg (Str.ofString c) = some (.ref (clsA X.K c)) ∧ Cls X.K (clsA X.K c) ∧ Mk X.K (clsA X.K c) f ∧ FnAt X f k (spM X.K G [0] (c ++ ".__init__")) ∧ Room (k + 1) X.A
  mts : ∀ p ∈ b.mts, ∃ f k, Meth X.K (clsA X.K p.1) (Str.ofString p.2) f ∧ FnAt X f k (spM X.K G [] (p.1 ++ "." ++ p.2)) ∧ Room k X.A ∧ Cls X.K (clsA X.K p.1)
  ats : ∀ p ∈ b.ats, NoAttr X.K (clsA X.K p.1) (Str.ofString p.2)
  pin : ∀ p ∈ G.pin, p.1 ∈ b.io
theorem PE.imp {X : Cx} {e : Expr} {t t' : TE} (h : PE X e t) (i : ∀ σ H Q, t' σ H Q → t σ H Q) : PE X e t' := ⟨fun pins s σ H Q I q => h.run pins s σ H Q I (i σ H Q q)⟩
theorem PT.imp {X : Cx} {e : Expr} {t t' : TT} (h : PT X e t) (i : ∀ σ H Q, t' σ H Q → t σ H Q) : PT X e t' := ⟨fun pins s σ H Q I q => h.run pins s σ H Q I (i σ H Q q)⟩
theorem PW.imp {X : Cx} {e : Expr} {t t' : TT} (h : PW X e t) (i : ∀ σ H Q, t' σ H Q → t σ H Q) : PW X e t' := ⟨fun w pins s σ H Q I q => h.run w pins s σ H Q I (i σ H Q q)⟩
theorem PA.imp {X : Cx} {e : List Expr} {t t' : TA} (h : PA X e t) (i : ∀ σ H Q, t' σ H Q → t σ H Q) : PA X e t' := ⟨fun p pins s σ H Q I q => h.run p pins s σ H Q I (i σ H Q q)⟩
theorem PI.imp {X : Cx} {tg e : Expr} {t t' : TI} (h : PI X tg e t) (i : ∀ σ H Q, t' σ H Q → t σ H Q) : PI X tg e t' := ⟨fun pins s σ H Q I q => h.run pins s σ H Q I (i σ H Q q)⟩
theorem PO.imp {X : Cx} {e : Option Expr} {t t' : TO} (h : PO X e t) (i : ∀ σ H Q, t' σ H Q → t σ H Q) : PO X e t' := ⟨fun pins s σ H Q I q => h.run pins s σ H Q I (i σ H Q q)⟩

/-- the promise of a small tree: as a value, as a test, as a part of and, or -/
structure Ok (G : Glob) (m : E) : Prop where
  pe : ∀ X W b e, Gd X G W b → chkE X.N X.env.scope b m e = true → PE X e (TE' X.K G W m)
  pt : ∀ X W b e, Gd X G W b → chkE X.N X.env.scope b m e = true → PT X e (tB (TE' X.K G W m))
  pw : ∀ X W b op vs pos, Gd X G W b → chkE X.N X.env.scope b m (.BoolOp op vs pos) = true → PW X (.BoolOp op vs pos) (tB (TE' X.K G W m))
def OkO (G : Glob) (m : OE) : Prop := ∀ X W b e, Gd X G W b → chkO X.N X.env.scope b m e = true → PO X e (TM X.K G W (fun _ _ v a fp => v = a ∧ fp = []) (evO G.cl G.con m))
def OkEs (G : Glob) (m : Es) : Prop := ∀ X W b e, Gd X G W b → chkEs X.N X.env.scope b m e = true → PA X e (TA' X.K G W m)

section
variable {G : Glob}
theorem fz_ok {K : W.Frag} {B : Base} {F : FF} {H : Hp} {σ : L2.St} {Γ : Env} {tmp f : List Addr} {t u : T} {x : V} (e : t.fz = some u) (r : Rel K B F H σ Γ tmp) (h : RpT K F H x t f) : RpT K (F.addF H f) H x u [] ∧ u.noB = true := by
  unfold T.fz at e
  split at e
  · rename_i i; cases e
    exact ⟨.v ((r.im (r.rd h) i).mono (addH_sub r.sub)), rfl⟩
  · split at e
    · rename_i c; cases e
      exact ⟨.w (h.freezeN (r.nsub.trans r.sub) r.stn c), rfl⟩
    · split at e
      · rename_i n; cases e
        exact ⟨.v (h.freeze r.sub r.nsub n), rfl⟩
      · cases e
/-- a value that is in hand -/
theorem Post.now {K : W.Frag} {W : WX} {B : Base} {F : FF} {H : Hp} {σ : L2.St} {Γ : Env} {tmp fp : List Addr} {t : T} {Q : VK} {v : V} {F' : FF} {H' : Hp} (P : Post K G W B F H σ tmp (rT K) (.ok t Γ) Q) (r : Rel K B F' H' σ Γ (fp ++ tmp)) (rt : RpT K F' H' v t fp) (hH : Sub H H') (hF : SubF F F') : Q v H' := P v F' H' fp r rt hH hF
theorem Post.flat {K : W.Frag} {W : WX} {B : Base} {F : FF} {H : Hp} {σ : L2.St} {Γ : Env} {tmp fp : List Addr} {d : D} {Q : VK} {v : V} (P : Post K G W B F H σ tmp (rT K) (.ok (.v d) Γ) Q) (r : Rel K B F H σ Γ (fp ++ tmp)) (rt : RpD K F v d) : Q v H :=
  P v F H [] (r.less fun a => by rw [List.count_append, List.count_append]; simp) (.v rt) Sub.refl SubF.refl
/-- other forms than and, or: no part of them -/
theorem pw_no {m : E} (h : ∀ N sc b op vs pos, chkE N sc b m (.BoolOp op vs pos) = false) : ∀ X W b op vs pos, Gd X G W b → chkE X.N X.env.scope b m (.BoolOp op vs pos) = true → PW X (.BoolOp op vs pos) (tB (TE' X.K G W m)) := by
  intro X W b op vs pos _ c
  rw [h] at c; cases c
theorem tB_of {X : Cx} {e : Expr} {t : TE} (h : PE X e t) (he : ∀ whole, isTrue e X.env whole = (do let v ← whole; standAt e.pos; holding [v] (truthy v))) : PT X e (tB t) := pt_val h he
theorem vis_of {sc : Scope} {x : Str} (h : visB sc x = true) : Vis sc x := by
  unfold visB at h
  split at h
  · rename_i e; exact .inl e
  · rename_i e; exact .inr (.inl e)
  · rename_i e; exact .inr (.inr e)
  · cases h
theorem name_of {X : Cx} {i : Nat} {e : Expr} (h : chkName X.N X.env.scope i e = true) : ∃ x pos, e = .Name x pos ∧ PE X e (tVar i) := by
  unfold chkName at h
  split at h
  · rename_i x pos
    simp only [Bool.and_eq_true, decide_eq_true_eq, Bool.not_eq_true'] at h
    obtain ⟨⟨⟨h1, h2⟩, h3⟩, h4⟩ := h
    exact ⟨x, pos, rfl, pe_var h1 (vis_of h2) h3 h4⟩
  · cases h
theorem getσ {K : W.Frag} {B : Base} {F : FF} {H : Hp} {σ : L2.St} {Γ : Env} {tmp : List Addr} {i : Nat} {t : T} (r : Rel K B F H σ Γ tmp) (e : Γ[i]? = some (some t)) : ∃ x f, σ[i]? = some (some x) ∧ RpT K F H x t f ∧ t.noB = true := r.get e
theorem ok_var (i : Nat) : Ok G (.var i) := by
  have pe : ∀ X W b e, Gd X G W b → chkE X.N X.env.scope b (.var i) e = true → PE X e (TE' X.K G W (.var i)) := by
    intro X W b e g c
    obtain ⟨x, pos, rfl, p⟩ := name_of (show chkName X.N X.env.scope i e = true from c)
    refine PE.imp p fun σ H Q h => ?_
    obtain ⟨B, F, Γ, tmp, rel, P⟩ := h
    simp only [evE] at P
    split at P
    · rename_i t e
      obtain ⟨v, f, hv, rt, nb⟩ := rel.get e
      refine ⟨v, hv, ?_⟩
      have rd := rel.rd rt
      have bb : RpT X.K F H v (subB t.er) [] := by
        unfold subB
        split
        · rename_i i; exact .v (rel.im rd i)
        · exact .b rd
      cases t with
      | v d =>
        cases rt with
        | v rd => exact P v F H [] (by simpa using rel) (.v rd) Sub.refl SubF.refl
      | w d =>
        cases rt with
        | w rd => exact P v F H [] (by simpa using rel) (.w rd) Sub.refl SubF.refl
      | b d => cases nb
      | l ts => exact P v F H [] (by simpa using rel) bb Sub.refl SubF.refl
      | tp ts => exact P v F H [] (by simpa using rel) bb Sub.refl SubF.refl
      | dc t0 ks ts => exact P v F H [] (by simpa using rel) bb Sub.refl SubF.refl
      | ob c ns ts => exact P v F H [] (by simpa using rel) bb Sub.refl SubF.refl
    · exact P.elim
  refine ⟨pe, fun X W b e g c => ?_, pw_no fun N sc b op vs pos => rfl⟩
  obtain ⟨x, pos, rfl, _⟩ := name_of (show chkName X.N X.env.scope i e = true from c)
  exact tB_of (pe X W b _ g c) fun _ => rfl
theorem ok_frz (i : Nat) : Ok G (.frz i) := by
  have pe : ∀ X W b e, Gd X G W b → chkE X.N X.env.scope b (.frz i) e = true → PE X e (TE' X.K G W (.frz i)) := by
    intro X W b e g c
    obtain ⟨x, pos, rfl, p⟩ := name_of (show chkName X.N X.env.scope i e = true from c)
    refine PE.imp p fun σ H Q h => ?_
    obtain ⟨B, F, Γ, tmp, rel, P⟩ := h
    simp only [evE] at P
    split at P
    · rename_i t e
      obtain ⟨v, f, hv, rt, nb, rel2⟩ := rel.take e
      refine ⟨v, hv, ?_⟩
      split at P
      · rename_i hf
        have hf0 : f = [] := by cases rt <;> first | rfl | cases hf
        subst hf0
        exact P v F H [] (by simpa using rel) rt Sub.refl SubF.refl
      · split at P
        · rename_i u eu
          obtain ⟨ru, nu⟩ := fz_ok eu rel2 rt
          have r3 := rel2.freezeTmp (f1 := f) (g := tmp) fun a => by rw [List.count_append]; exact Nat.le_refl _
          have r4 := r3.putBack (f1 := []) (tmp := tmp) ru nu hv
          rw [List.set_set] at r4
          exact P v _ H [] (by simpa using r4) ru Sub.refl (addF_sub rel.sub rel.nsub)
        · exact P.elim
    · exact P.elim
  refine ⟨pe, fun X W b e g c => ?_, pw_no fun N sc b op vs pos => rfl⟩
  obtain ⟨x, pos, rfl, _⟩ := name_of (show chkName X.N X.env.scope i e = true from c)
  exact tB_of (pe X W b _ g c) fun _ => rfl
theorem ok_mov (i : Nat) : Ok G (.mov i) := by
  have pe : ∀ X W b e, Gd X G W b → chkE X.N X.env.scope b (.mov i) e = true → PE X e (TE' X.K G W (.mov i)) := by
    intro X W b e g c
    obtain ⟨x, pos, rfl, p⟩ := name_of (show chkName X.N X.env.scope i e = true from c)
    refine PE.imp p fun σ H Q h => ?_
    obtain ⟨B, F, Γ, tmp, rel, P⟩ := h
    simp only [evE] at P
    split at P
    · rename_i t e
      obtain ⟨v, f, hv, rt, nb, rel2⟩ := rel.take e
      exact ⟨v, hv, P v F H f rel2 rt Sub.refl SubF.refl⟩
    · exact P.elim
  refine ⟨pe, fun X W b e g c => ?_, pw_no fun N sc b op vs pos => rfl⟩
  obtain ⟨x, pos, rfl, _⟩ := name_of (show chkName X.N X.env.scope i e = true from c)
  exact tB_of (pe X W b _ g c) fun _ => rfl
/-- a constant -/
theorem ok_const {m : E} {d : D} {v : V} (hev : ∀ cl con Γ, evE cl con m Γ = .ok (.v d) Γ) (hd : ∀ K F, RpD K F v d)
    (hc : ∀ N sc b e, chkE N sc b m e = true → ∃ c k pos, e = .Constant c k pos ∧ ∀ X : Cx, PE X e (tC v)) : Ok G m := by
  have pe : ∀ X W b e, Gd X G W b → chkE X.N X.env.scope b m e = true → PE X e (TE' X.K G W m) := by
    intro X W b e g c
    obtain ⟨k, n, pos, rfl, p⟩ := hc _ _ _ _ c
    refine PE.imp (p X) fun σ H Q h => ?_
    obtain ⟨B, F, Γ, tmp, rel, P⟩ := h
    rw [hev] at P
    exact P v F H [] (by simpa using rel) (.v (hd _ _)) Sub.refl SubF.refl
  refine ⟨pe, fun X W b e g c => ?_, fun X W b op vs pos g c => ?_⟩
  · obtain ⟨k, n, pos, rfl, _⟩ := hc _ _ _ _ c
    exact tB_of (pe X W b _ g c) fun _ => rfl
  · obtain ⟨k, n, pos, z, _⟩ := hc _ _ _ _ c
    cases z
theorem ok_int (i : Int) : Ok G (.int i) := by
  refine ok_const (d := .int i) (v := .int i) (fun _ _ _ => rfl) (fun _ _ => .int i) fun N sc b e c => ?_
  unfold chkE at c
  split at c
  · have c := of_decide_eq_true c
    subst c
    exact ⟨_, _, _, rfl, fun X => pe_int⟩
  · cases c
theorem ok_bl (i : Bool) : Ok G (.bl i) := by
  refine ok_const (d := .bl i) (v := .bl i) (fun _ _ _ => rfl) (fun _ _ => .bl i) fun N sc b e c => ?_
  unfold chkE at c
  split at c
  · have c := of_decide_eq_true c
    subst c
    exact ⟨_, _, _, rfl, fun X => pe_bl⟩
  · cases c
theorem ok_non : Ok G .non := by
  refine ok_const (d := .non) (v := .non) (fun _ _ _ => rfl) (fun _ _ => .non) fun N sc b e c => ?_
  unfold chkE at c
  split at c
  · exact ⟨_, _, _, rfl, fun X => pe_non⟩
  · cases c
theorem ok_str (s : List Nat) : Ok G (.str s) := by
  by_cases hs : okS s = true
  · refine ok_const (d := .str s) (v := .str ⟨s.toArray⟩) (fun _ _ _ => rfl) (fun _ _ => ?_) fun N sc b e c => ?_
    · have := RpD.str (K := ‹_›) (F := ‹_›) ⟨s.toArray⟩ (by simpa using hs)
      simpa using this
    · unfold chkE at c
      split at c
      · simp only [Bool.and_eq_true, decide_eq_true_eq] at c
        obtain ⟨c, _⟩ := c
        subst c
        exact ⟨_, _, _, rfl, fun X => by simpa using pe_str⟩
      · cases c
  · have no : ∀ N sc b e, chkE N sc b (.str s) e = false := fun N sc b e => by
      unfold chkE
      split
      · simp [hs]
      · rfl
    exact ⟨fun X W b e g c => absurd ((no _ _ _ _).symm.trans c) Bool.false_ne_true, fun X W b e g c => absurd ((no _ _ _ _).symm.trans c) Bool.false_ne_true, fun X W b op vs pos g c => absurd ((no _ _ _ _).symm.trans c) Bool.false_ne_true⟩
theorem isGl_of {X : Cx} {n : String} {e : Expr} (h : isGl X.env.scope n e = true) : ∃ pos, e = .Name (Str.ofString n) pos ∧ Gl X (Str.ofString n) := by
  unfold isGl at h
  split at h
  · simp only [Bool.and_eq_true, decide_eq_true_eq] at h
    obtain ⟨h1, h2⟩ := h
    subst h1
    exact ⟨_, rfl, (of_decide_eq_true h2 : X.env.scope.names.lookup (Str.ofString n) = some .globalImplicit)⟩
  · cases h
theorem ok_glb (x : String) : Ok G (.glb x) := by
  have pe : ∀ X W b e, Gd X G W b → chkE X.N X.env.scope b (.glb x) e = true → PE X e (TE' X.K G W (.glb x)) := by
    intro X W b e g c
    unfold chkE at c
    simp only [Bool.and_eq_true, Bool.not_eq_true'] at c
    obtain ⟨pos, rfl, hg⟩ := isGl_of c.1
    refine ⟨fun pins s σ H Q I h => ?_⟩
    obtain ⟨B, F, Γ, tmp, rel, P⟩ := h
    simp only [evE] at P
    split at P
    · rename_i d e
      obtain ⟨u, v, hm, hr, rd⟩ := g.con x d e
      refine (pe_glob hg hm hr c.2).run pins s σ H Q I ?_
      exact P v F H [] (by simpa using rel) (.v (rd.mono fun _ _ z => by cases z)) Sub.refl SubF.refl
    · exact P.elim
  refine ⟨pe, fun X W b e g c => ?_, pw_no fun N sc b op vs pos => rfl⟩
  have c' := c
  unfold chkE at c'
  simp only [Bool.and_eq_true] at c'
  obtain ⟨pos, rfl, hg⟩ := isGl_of c'.1
  exact tB_of (pe X W b _ g c) fun _ => rfl
end
end Tv

namespace Tv
open PySem PySem.Spec PyProof.Rows L2

section
variable {K : W.Frag} {F F' : FF} {H H' : Hp} {x y : V} {t u : T} {f g : List Addr} {d : D} {ds : List D} {ts : List T} {xs : List V}
theorem RpDs.toV : ∀ {xs : List V} {ds : List D}, RpDs K F.f xs ds → RpTs K F H xs (ds.map .v) []
  | _, _, .nil => .nil
  | _, _, .cons a b => RpTs.cons (f := []) (g := []) (.v a) (RpDs.toV b)
theorem RpD.flat {A A' : Hp} (h : d.flat = true) (r : RpD K A x d) : RpD K A' x d := by
  cases r with
  | non => exact .non
  | bl b => exact .bl b
  | int i => exact .int i
  | str z e => exact .str z e
  | _ => cases h
theorem RpDs.flat {A A' : Hp} : ∀ {xs : List V} {ds : List D}, ds.all D.flat = true → RpDs K A xs ds → RpDs K A' xs ds
  | _, _, _, .nil => .nil
  | _, _, h, .cons a b => by
    simp at h
    exact .cons (a.flat h.1) (RpDs.flat (by simpa using h.2) b)
theorem RpD.subW (hN : Sub F.n F.f) (r : RpD K F.n x d) : RpT K F H x (subW d) [] := by
  unfold Tv.subW
  split
  · exact .v (r.mono hN)
  · exact .w r
theorem RpDs.toW (hN : Sub F.n F.f) : ∀ {xs : List V} {ds : List D}, RpDs K F.n xs ds → RpTs K F H xs (ds.map Tv.subW) []
  | _, _, .nil => .nil
  | _, _, .cons a b => RpTs.cons (f := []) (g := []) (a.subW hN) (RpDs.toW hN b)
theorem RpD.subB (st : Stb H F.f) (r : RpD K H x d) : RpT K F H x (subB d) [] := by
  unfold Tv.subB
  split
  · rename_i h; exact .v (r.imm st h)
  · exact .b r
theorem RpDs.toB (st : Stb H F.f) : ∀ {xs : List V} {ds : List D}, RpDs K H xs ds → RpTs K F H xs (ds.map Tv.subB) []
  | _, _, .nil => .nil
  | _, _, .cons a b => RpTs.cons (f := []) (g := []) (a.subB st) (RpDs.toB st b)
theorem RpTs.length : ∀ {xs : List V} {ts : List T} {f : List Addr}, RpTs K F H xs ts f → xs.length = ts.length
  | _, _, _, .nil => rfl
  | _, _, _, .cons _ r => by simp [RpTs.length r]
theorem RpTs.append : ∀ {xs ys : List V} {ts us : List T} {f g : List Addr}, RpTs K F H xs ts f → RpTs K F H ys us g → RpTs K F H (xs ++ ys) (ts ++ us) (f ++ g)
  | _, _, _, _, _, _, .nil, r => r
  | _, _, _, _, _, _, .cons a b, r => by
    have := RpTs.append b r
    rw [List.append_assoc]
    exact .cons a this
theorem RpTs.ints : ∀ (ns : List Int), RpTs K F H (ns.map V.int) (ns.map fun n => T.v (.int n)) []
  | [] => .nil
  | n :: ns => RpTs.cons (f := []) (g := []) (.v (.int n)) (RpTs.ints ns)
end
/-- what Rel tells of the heaps -/
structure Hs (F : FF) (H : Hp) : Prop where
  sub : Sub F.f H
  nsub : Sub F.n F.f
  stf : Stb H F.f
theorem Rel.hs {K : W.Frag} {B : Base} {F : FF} {H : Hp} {σ : L2.St} {Γ : Env} {tmp : List Addr} (r : Rel K B F H σ Γ tmp) : Hs F H := ⟨r.sub, r.nsub, r.stf⟩
section
variable {K : W.Frag} {F F' : FF} {H H' : Hp} {x y : V} {t u : T} {f g : List Addr} {d : D} {ds : List D} {ts : List T} {xs : List V}
theorem asL_ok (e : asL t = some ts) (hF : Hs F H) (r : RpT K F H x t f) : ∃ a xs g, x = .ref a ∧ H a = some (.lst xs) ∧ RpTs K F H xs ts g ∧ ∀ c, g.count c ≤ f.count c := by
  unfold asL at e
  split at e
  · cases e
    cases r with | v r => cases r with | lst h r => exact ⟨_, _, [], rfl, hF.sub.eq h rfl, r.toV, fun c => by simp⟩
  · cases e
    cases r with | w r => cases r with | lst h r => exact ⟨_, _, [], rfl, (hF.nsub.trans hF.sub).eq h rfl, r.toW hF.nsub, fun c => by simp⟩
  · cases e
    cases r with | b r => cases r with | lst h r => exact ⟨_, _, [], rfl, h, r.toB hF.stf, fun c => by simp⟩
  · cases e
    cases r with | l h r => exact ⟨_, _, _, rfl, h, r, fun c => by rw [List.count_cons]; omega⟩
  · cases e
theorem lOnly_ok (e : lOnly t = some ts) (hF : Hs F H) (r : RpT K F H x t f) : ∃ a xs g, x = .ref a ∧ SqL K H a xs ∧ RpTs K F H xs ts g ∧ ∀ c, g.count c ≤ f.count c := by
  unfold lOnly at e
  split at e
  · cases e
    cases r with | v r => cases r with | lst h r => exact ⟨_, _, [], rfl, .of (hF.sub.eq h rfl), r.toV, fun c => by simp⟩
  · cases e
    cases r with | w r => cases r with | lst h r => exact ⟨_, _, [], rfl, .of ((hF.nsub.trans hF.sub).eq h rfl), r.toW hF.nsub, fun c => by simp⟩
  · cases e
    cases r with | b r => cases r with | lst h r => exact ⟨_, _, [], rfl, .of h, r.toB hF.stf, fun c => by simp⟩
  · cases e
    cases r with | l h r => exact ⟨_, _, _, rfl, .of h, r, fun c => by rw [List.count_cons]; omega⟩
  · cases e
    cases r with | v r => cases r with | scr h => exact ⟨_, _, [], rfl, hF.sub.sqL h, RpTs.ints _, fun c => by simp⟩
  · cases e
theorem asQ_ok (e : asQ t = some ts) (hF : Hs F H) (r : RpT K F H x t f) : ∃ a xs g, x = .ref a ∧ (SqL K H a xs ∨ SqT K H a xs) ∧ RpTs K F H xs ts g ∧ ∀ c, g.count c ≤ f.count c := by
  unfold asQ at e
  split at e
  · cases e
    cases r with | v r => cases r with | lst h r => exact ⟨_, _, [], rfl, .inl (.of (hF.sub.eq h rfl)), r.toV, fun c => by simp⟩
  · cases e
    cases r with | w r => cases r with | lst h r => exact ⟨_, _, [], rfl, .inl (.of ((hF.nsub.trans hF.sub).eq h rfl)), r.toW hF.nsub, fun c => by simp⟩
  · cases e
    cases r with | b r => cases r with | lst h r => exact ⟨_, _, [], rfl, .inl (.of h), r.toB hF.stf, fun c => by simp⟩
  · cases e
    cases r with | l h r => exact ⟨_, _, _, rfl, .inl (.of h), r, fun c => by rw [List.count_cons]; omega⟩
  · cases e
    cases r with | v r => cases r with | tup h r => exact ⟨_, _, [], rfl, .inr (.of (hF.sub.eq h rfl)), r.toV, fun c => by simp⟩
  · cases e
    cases r with | w r => cases r with | tup h r => exact ⟨_, _, [], rfl, .inr (.of ((hF.nsub.trans hF.sub).eq h rfl)), r.toW hF.nsub, fun c => by simp⟩
  · cases e
    cases r with | b r => cases r with | tup h r => exact ⟨_, _, [], rfl, .inr (.of h), r.toB hF.stf, fun c => by simp⟩
  · cases e
    cases r with | tp h r => exact ⟨_, _, _, rfl, .inr (.of ((hF.nsub.trans hF.sub).eq h rfl)), r, fun c => Nat.le_refl _⟩
  · cases e
    cases r with | v r => cases r with | scr h => exact ⟨_, _, [], rfl, .inl (hF.sub.sqL h), RpTs.ints _, fun c => by simp⟩
  · cases e
    cases r with | v r => cases r with | ktp h r => exact ⟨_, _, [], rfl, .inr (hF.sub.sqT h), r.toV, fun c => by simp⟩
  · cases e
theorem dicQ_ok {p : Bool × List D × List T} (e : dicQ t = some p) (hF : Hs F H) (r : RpT K F H x t f) : ∃ a u xs g, x = .ref a ∧ Rd H a u ∧ DH p.1 u p.2.1 xs ∧ RpTs K F H xs p.2.2 g ∧ ∀ c, g.count c ≤ f.count c := by
  unfold dicQ at e
  split at e
  · cases e
    cases r with | v r => cases r with | dct h q r => exact ⟨_, _, _, [], rfl, hF.sub.rd h, q, r.toV, fun c => by simp⟩
  · cases e
    cases r with | w r => cases r with | dct h q r => exact ⟨_, _, _, [], rfl, (hF.nsub.trans hF.sub).rd h, q, r.toW hF.nsub, fun c => by simp⟩
  · cases e
    cases r with | b r => cases r with | dct h q r => exact ⟨_, _, _, [], rfl, h, q, r.toB hF.stf, fun c => by simp⟩
  · cases e
    cases r with | dc h q r => exact ⟨_, _, _, _, rfl, h, q, r, fun c => by rw [List.count_cons]; omega⟩
  · cases e
theorem objQ_ok {p : String × List String × List T} (e : objQ t = some p) (hF : Hs F H) (r : RpT K F H x t f) : ∃ a dx fs g, x = .ref a ∧ ObjC K p.1 p.2.1 ∧ H a = some (.ins (clsA K p.1) dx fs) ∧ fs.map Prod.fst = p.2.1.map Str.ofString ∧ RpTs K F H (fs.map Prod.snd) p.2.2 g ∧ ∀ c, g.count c ≤ f.count c := by
  unfold objQ at e
  split at e
  · cases e
    cases r with | v r => cases r with | obj hc h n xx r => subst xx; exact ⟨_, _, _, [], rfl, hc, hF.sub.eq h rfl, n, r.toV, fun c => by simp⟩
  · cases e
    cases r with | w r => cases r with | obj hc h n xx r => subst xx; exact ⟨_, _, _, [], rfl, hc, (hF.nsub.trans hF.sub).eq h rfl, n, r.toW hF.nsub, fun c => by simp⟩
  · cases e
    cases r with | b r => cases r with | obj hc h n xx r => subst xx; exact ⟨_, _, _, [], rfl, hc, h, n, r.toB hF.stf, fun c => by simp⟩
  · cases e
    cases r with | ob hc h n xx r => subst xx; exact ⟨_, _, _, _, rfl, hc, h, n, r, fun c => by rw [List.count_cons]; omega⟩
  · cases e
end

section
variable {K : W.Frag} {G : Glob} {W : WX} {B : Base} {F : FF} {H : Hp} {σ : L2.St} {Γ : Env} {tmp tmp2 fs : List Addr} {ts : List T} {xs : List V} {Q : VK}
/-- a new list in hand -/
theorem Post.newL (P : Post K G W B F H σ tmp (rT K) (.ok (.l ts) Γ) Q) (rel : Rel K B F H σ Γ tmp2) (r : RpTs K F H xs ts fs) (hc : ∀ c, fs.count c + tmp.count c ≤ tmp2.count c) : ∀ p, H p = none → Q (.ref p) (upd H p (.lst xs)) := fun p hp =>
  P (.ref p) F (upd H p (.lst xs)) (p :: fs) ((rel.less (tmp' := fs ++ tmp) fun a => by rw [List.count_append]; exact hc a).alloc hp rfl) (.l upd_same (r.grow SubF.refl (upd_sub hp))) (upd_sub hp) SubF.refl
theorem Post.newT (P : Post K G W B F H σ tmp (rT K) (.ok (mkTp ts) Γ) Q) (rel : Rel K B F H σ Γ tmp2) (r : RpTs K F H xs ts fs) (hc : ∀ c, fs.count c + tmp.count c ≤ tmp2.count c) : ∀ p, H p = none → Q (.ref p) (upd H p (.tup xs)) := fun p hp => by
  obtain ⟨r1, sF⟩ := (rel.less (tmp' := fs ++ tmp) fun a => by rw [List.count_append]; exact hc a).allocS (o := .tup xs) hp rfl
  have r' := r.grow sF (upd_sub (o := .tup xs) hp)
  unfold mkTp at P
  split at P
  · rename_i i
    have rd := (r1.rds r').imm r1.stf i
    exact P (.ref p) _ _ [] (r1.less fun c => by simp only [List.nil_append, List.count_append]; omega) (.v (.tup (show upd F.f p (.tup xs) p = _ from upd_same) rd)) (upd_sub hp) sF
  · exact P (.ref p) _ _ fs r1 (.tp (show upd F.n p (.tup xs) p = _ from upd_same) r') (upd_sub hp) sF
theorem Post.flatv {d : D} {v : V} (P : Post K G W B F H σ tmp (rT K) (.ok (.v d) Γ) Q) (rel : Rel K B F H σ Γ tmp2) (hc : ∀ c, tmp.count c ≤ tmp2.count c) (r : RpD K F.f v d) : Q v H :=
  P v F H [] (rel.less fun a => by rw [List.nil_append]; exact hc a) (.v r) Sub.refl SubF.refl
/-- what is frozen has no footprint -/
theorem fz_fp {t u : T} (e : t.fz = some u) : ∀ {F : FF} {H : Hp} {x : V} {f : List Addr}, RpT K F H x u f → f = [] := by
  intro F H x f r
  unfold T.fz at e
  split at e
  · cases e; cases r; rfl
  · split at e
    · cases e; cases r; rfl
    · split at e
      · cases e; cases r; rfl
      · cases e
theorem asF_ok {t : T} {ts : List T} {x : V} {f : List Addr} {B : Base} {F : FF} (e : asF t = some ts) (r : Rel K B F H σ Γ tmp) (h : RpT K F H x t f) : ∃ a xs, x = .ref a ∧ H a = some (.lst xs) ∧ RpTs K (F.addF H f) H xs ts [] := by
  unfold asF at e
  cases e1 : t.fz with
  | none => rw [e1] at e; cases e
  | some u =>
    rw [e1] at e
    have hu := (fz_ok e1 r h).1
    have e : asL u = some ts := e
    have hs : Hs (F.addF H f) H := ⟨addH_in r.sub, Sub.of fun a o q => by
      have q : addH F.n H f a = some o := q
      show addH F.f H f a = some o
      unfold addH at q ⊢
      split at q
      · rename_i m; rw [if_pos m]; exact q
      · rename_i m; rw [if_neg m]; exact r.subn a o q, fun a o q s => by
      show addH F.f H f a = some o
      unfold addH; split
      · exact q
      · exact r.stf a o q s⟩
    obtain ⟨a, xs, g, rfl, h1, h2, h3⟩ := asL_ok e hs hu
    have : g = [] := by
      cases g with
      | nil => rfl
      | cons b g => have := h3 b; rw [List.count_cons_self] at this; simp at this
    subst this
    exact ⟨a, xs, rfl, h1, h2⟩
end

/-! ### operators -/
theorem OpR.or {X : Cx} {f : Value → Value → Sem Value} {r r' : R2} (a : OpR X f r) (b : OpR X f r') : OpR X f (fun x y H Q => r x y H Q ∨ r' x y H Q) := by
  intro pins s σ H x y v u Q I rx ry h
  rcases h with h | h
  · exact a pins s σ H x y v u Q I rx ry h
  · exact b pins s σ H x y v u Q I rx ry h
def rB : BOp → R2
  | .add => fun x y H Q => (rI0 fun i j => .int (i + j)) x y H Q ∨ (∃ i j, x = V.str i ∧ y = V.str j ∧ i.length + j.length ≤ sizeLine ∧ Q (V.str (i ++ j)) H) ∨ rCat x y H Q
  | .sub => rI0 fun i j => .int (i - j)
  | .mul => fun x y H Q => rI CMulW (fun i j => .int (i * j)) x y H Q ∨ rRep x y H Q
  | .mod => rI (fun _ j => j ≠ 0) fun i j => .int (i.fmod j)
  | .fdiv => rI CDivW fun i j => .int (i / j)
  | .pow => rI CPow fun i j => .int (i ^ j.toNat)
theorem op_B {X : Cx} (o : BOp) : OpR X (binaryOp o.op) (rB o) := by
  cases o with
  | add => exact OpR.or op_add (OpR.or op_add_str op_cat)
  | sub => exact op_sub
  | mul => exact OpR.or op_mulW op_rep
  | mod => exact op_modN
  | fdiv => exact op_fdivW
  | pow => exact op_pow
theorem str_inv {K : W.Frag} {F : FF} {H : Hp} {x : V} {s : List Nat} {f : List Addr} (r : RpT K F H x (.v (.str s)) f) : ∃ z : Str, x = .str z ∧ z.cps.toList = s ∧ okS s = true ∧ f = [] := by
  cases r with | v r => cases r with | str z h => exact ⟨z, rfl, rfl, h, rfl⟩
theorem int_inv {K : W.Frag} {F : FF} {H : Hp} {x : V} {i : Int} {f : List Addr} (r : RpT K F H x (.v (.int i)) f) : x = .int i ∧ f = [] := by
  cases r with | v r => cases r with | int => exact ⟨rfl, rfl⟩
theorem bl_inv {K : W.Frag} {F : FF} {H : Hp} {x : V} {i : Bool} {f : List Addr} (r : RpT K F H x (.v (.bl i)) f) : x = .bl i ∧ f = [] := by
  cases r with | v r => cases r with | bl => exact ⟨rfl, rfl⟩
theorem okS_append {s t : List Nat} (h : okS s = true) (h' : okS t = true) (hl : s.length + t.length ≤ LIM) : okS (s ++ t) = true := by
  unfold okS at *
  simp only [Bool.and_eq_true, decide_eq_true_eq, List.all_append, List.length_append] at *
  exact ⟨by rw [sizeLine_eq]; exact hl, h.2, h'.2⟩
theorem okS_le {s : List Nat} (h : okS s = true) : s.length ≤ LIM := by
  unfold okS at h
  simp only [Bool.and_eq_true, decide_eq_true_eq] at h
  have := h.1
  rw [sizeLine_eq] at this
  exact this
theorem str_mk {K : W.Frag} {F : Hp} {z : Str} {s : List Nat} (e : z.cps.toList = s) (h : okS s = true) : RpD K F (.str z) (.str s) := by
  subst e; exact .str z h
theorem strLen (z : Str) : z.length = z.cps.toList.length := by show z.cps.size = _; simp
theorem strApp (a b : Str) : (a ++ b).cps.toList = a.cps.toList ++ b.cps.toList := by
  show (a.cps ++ b.cps).toList = _
  simp
theorem binT_ok {K : W.Frag} {G : Glob} {W : WX} {B : Base} {F : FF} {H : Hp} {σ : L2.St} {Γ : Env} {tmp fa fb : List Addr} {o : BOp} {x y : V} {a b : T} {Q : VK} (rel : Rel K B F H σ Γ (fb ++ (fa ++ tmp))) (ra : RpT K F H x a fa) (rb : RpT K F H y b fb)
    (P : Post K G W B F H σ tmp (rT K) (R.op (binT o a b) Γ) Q) : rB o x y H Q := by
  have hc : ∀ c, tmp.count c ≤ (fb ++ (fa ++ tmp)).count c := fun c => by simp only [List.count_append]; omega
  cases o with
  | add =>
    simp only [binT, addT] at P
    split at P
    · obtain ⟨rfl, rfl⟩ := int_inv ra
      obtain ⟨rfl, rfl⟩ := int_inv rb
      exact .inl ⟨_, _, rfl, rfl, P.flatv rel hc (.int _)⟩
    · split at P
      · rename_i hl
        obtain ⟨z, rfl, rfl, h1, rfl⟩ := str_inv ra
        obtain ⟨z', rfl, rfl, h2, rfl⟩ := str_inv rb
        refine .inr (.inl ⟨_, _, rfl, rfl, ?_, P.flatv rel hc ?_⟩)
        · rw [strLen, strLen, sizeLine_eq]; exact hl
        · exact str_mk (strApp z z') (okS_append h1 h2 hl)
      · exact P.elim
    · split at P
      · rename_i a' b' e1 e2
        split at P
        · rename_i hl
          obtain ⟨p, xs, g1, rfl, h1, r1, c1⟩ := asL_ok e1 rel.hs ra
          obtain ⟨q, ys, g2, rfl, h2, r2, c2⟩ := asL_ok e2 rel.hs rb
          refine .inr (.inr ⟨_, _, _, _, rfl, rfl, h1, h2, ?_, P.newL rel (r1.append r2) fun c => ?_⟩)
          · rw [r1.length, r2.length, sizeLine_eq]; exact hl
          · have := c1 c; have := c2 c; simp only [List.count_append]; omega
        · exact P.elim
      · exact P.elim
  | sub =>
    simp only [binT] at P
    split at P
    · obtain ⟨rfl, rfl⟩ := int_inv ra
      obtain ⟨rfl, rfl⟩ := int_inv rb
      exact ⟨_, _, rfl, rfl, P.flatv rel hc (.int _)⟩
    · exact P.elim
  | mul =>
    simp only [binT, mulT] at P
    split at P
    · split at P
      · rename_i hl
        obtain ⟨rfl, rfl⟩ := int_inv ra
        obtain ⟨rfl, rfl⟩ := int_inv rb
        exact .inl ⟨_, _, rfl, rfl, hl, P.flatv rel hc (.int _)⟩
      · exact P.elim
    · split at P
      · rename_i e1
        split at P
        · rename_i hl
          obtain ⟨rfl, rfl⟩ := int_inv rb
          have ra' := ra
          obtain ⟨p, xs, rfl, h1, r1⟩ := asF_ok e1 rel ra
          have rel2 := rel.freezeTmp (f1 := fa) (g := tmp) fun c => by simp only [List.count_append]; omega
          refine .inr ⟨_, _, _, rfl, rfl, h1, hl.1, hl.2.1, by rw [r1.length, sizeLine_eq]; exact hl.2.2, ?_⟩
          refine (P.later Sub.refl (addF_sub rel.sub rel.nsub)).newL rel2 (fs := []) ?_ fun c => by simp
          have : ∀ (n : Nat) (ts : List T) (xs : List V), RpTs K (F.addF H fa) H xs ts [] → RpTs K (F.addF H fa) H (List.replicate n xs).flatten (List.replicate n ts).flatten [] := by
            intro n ts xs r
            induction n with
            | zero => exact .nil
            | succ n ih => rw [List.replicate_succ, List.replicate_succ, List.flatten_cons, List.flatten_cons]; exact RpTs.append (f := []) (g := []) r ih
          exact this _ _ _ r1
        · exact P.elim
      · exact P.elim
    · exact P.elim
  | mod =>
    simp only [binT] at P
    split at P
    · split at P
      · rename_i hl
        obtain ⟨rfl, rfl⟩ := int_inv ra
        obtain ⟨rfl, rfl⟩ := int_inv rb
        exact ⟨_, _, rfl, rfl, hl, P.flatv rel hc (.int _)⟩
      · exact P.elim
    · exact P.elim
  | fdiv =>
    simp only [binT] at P
    split at P
    · split at P
      · rename_i hl
        obtain ⟨rfl, rfl⟩ := int_inv ra
        obtain ⟨rfl, rfl⟩ := int_inv rb
        exact ⟨_, _, rfl, rfl, hl, P.flatv rel hc (.int _)⟩
      · exact P.elim
    · exact P.elim
  | pow =>
    simp only [binT] at P
    split at P
    · split at P
      · rename_i hl
        obtain ⟨rfl, rfl⟩ := int_inv ra
        obtain ⟨rfl, rfl⟩ := int_inv rb
        exact ⟨_, _, rfl, rfl, hl, P.flatv rel hc (.int _)⟩
      · exact P.elim
    · exact P.elim
section
variable {G : Glob}
/-- two in a row, then a rule by values -/
theorem two {K : W.Frag} {W : WX} {a b : E} {f : T → T → Env → R T} {r : R2}
    (h : ∀ B (F : FF) H σ Γ tmp fa fb x y ta tb Q, Rel K B F H σ Γ (fb ++ (fa ++ tmp)) → RpT K F H x ta fa → RpT K F H y tb fb → Post K G W B F H σ tmp (rT K) (f ta tb Γ) Q → r x y H Q) :
    ∀ σ H Q, TM K G W (rT K) (fun Γ => (evE G.cl G.con a Γ).bind fun x Γ1 => (evE G.cl G.con b Γ1).bind fun y Γ2 => f x y Γ2) σ H Q → tOp r (TE' K G W a) (TE' K G W b) σ H Q := by
  rintro σ H Q ⟨B, F, Γ, tmp, rel, P⟩
  refine ⟨B, F, Γ, tmp, rel, (P.bind (rep := rT K) (fp := [])).imp ?_⟩
  rintro x H1 ⟨ta, Γ1, F1, fa, rel1, ra, sH1, sF1, P1⟩
  refine ⟨B, F1, Γ1, fa ++ tmp, rel1, (P1.bind (rep := rT K) (fp := fa)).imp ?_⟩
  rintro y H2 ⟨tb, Γ2, F2, fb, rel2, rb, sH2, sF2, P2⟩
  exact h B F2 H2 σ Γ2 tmp fa fb x y ta tb Q rel2 (ra.grow sF2 sH2) rb P2
theorem one {K : W.Frag} {W : WX} {α β : Type} {rep : FF → Hp → β → α → List Addr → Prop} {a : E} {f : T → Env → R α} {r : V → Hp → (β → Hp → Prop) → Prop}
    (h : ∀ B (F : FF) H σ Γ tmp fa x ta Q, Rel K B F H σ Γ (fa ++ tmp) → RpT K F H x ta fa → Post K G W B F H σ tmp rep (f ta Γ) Q → r x H Q) :
    ∀ σ H Q, TM K G W rep (fun Γ => (evE G.cl G.con a Γ).bind fun x Γ1 => f x Γ1) σ H Q → TE' K G W a σ H fun x H1 => r x H1 Q := by
  rintro σ H Q ⟨B, F, Γ, tmp, rel, P⟩
  refine ⟨B, F, Γ, tmp, rel, (P.bind (rep := rT K) (fp := [])).imp ?_⟩
  rintro x H1 ⟨ta, Γ1, F1, fa, rel1, ra, sH1, sF1, P1⟩
  exact h B F1 H1 σ Γ1 tmp fa x ta Q rel1 ra P1
theorem ok_bin {o : BOp} {a b : E} (ha : Ok G a) (hb : Ok G b) : Ok G (.bin o a b) := by
  have sh : ∀ {N sc b'} {e : Expr}, chkE N sc b' (.bin o a b) e = true → ∃ x y pos, e = .BinOp x o.op y pos ∧ chkE N sc b' a x = true ∧ chkE N sc b' b y = true := by
    intro N sc b' e c
    unfold chkE at c
    split at c
    · simp only [Bool.and_eq_true, decide_eq_true_eq] at c
      obtain ⟨⟨c1, c2⟩, c3⟩ := c
      subst c1
      exact ⟨_, _, _, rfl, c2, c3⟩
    · cases c
  have pe : ∀ X W b' e, Gd X G W b' → chkE X.N X.env.scope b' (.bin o a b) e = true → PE X e (TE' X.K G W (.bin o a b)) := by
    intro X W b' e g c
    obtain ⟨x, y, pos, rfl, c1, c2⟩ := sh c
    exact PE.imp (pe_op (op_B o) (ha.pe X W b' x g c1) (hb.pe X W b' y g c2)) fun σ H Q h => two (f := fun x y Γ => R.op (binT o x y) Γ) (fun B F H σ Γ tmp fa fb x y ta tb Q rel ra rb P => binT_ok rel ra rb P) σ H Q h
  refine ⟨pe, fun X W b' e g c => ?_, pw_no fun N sc b op vs pos => rfl⟩
  obtain ⟨x, y, pos, rfl, c1, c2⟩ := sh c
  exact tB_of (pe X W b' _ g c) fun _ => rfl
theorem ok_neg {a : E} (ha : Ok G a) : Ok G (.neg a) := by
  have sh : ∀ {N sc b'} {e : Expr}, chkE N sc b' (.neg a) e = true → ∃ x pos, e = .UnaryOp .USub x pos ∧ chkE N sc b' a x = true := by
    intro N sc b' e c
    unfold chkE at c
    split at c
    · exact ⟨_, _, rfl, c⟩
    · cases c
  have pe : ∀ X W b' e, Gd X G W b' → chkE X.N X.env.scope b' (.neg a) e = true → PE X e (TE' X.K G W (.neg a)) := by
    intro X W b' e g c
    obtain ⟨x, pos, rfl, c1⟩ := sh c
    refine PE.imp (pe_un un_neg (ha.pe X W b' x g c1)) fun σ H Q h => ?_
    refine one (rep := rT X.K) (r := fun x H Q => rU (fun i => V.int (-i)) x H Q) (fun B F H σ Γ tmp fa x ta Q rel ra P => ?_) σ H Q h
    split at P
    · obtain ⟨rfl, rfl⟩ := int_inv ra
      exact ⟨_, rfl, P.flatv rel (fun c => by simp only [List.count_append]; omega) (.int _)⟩
    · exact P.elim
  refine ⟨pe, fun X W b' e g c => ?_, pw_no fun N sc b op vs pos => rfl⟩
  obtain ⟨x, pos, rfl, c1⟩ := sh c
  exact tB_of (pe X W b' _ g c) fun _ => rfl
theorem ok_not {a : E} (ha : Ok G a) : Ok G (.not a) := by
  have sh : ∀ {N sc b'} {e : Expr}, chkE N sc b' (.not a) e = true → ∃ x pos, e = .UnaryOp .Not x pos ∧ chkE N sc b' a x = true := by
    intro N sc b' e c
    unfold chkE at c
    split at c
    · exact ⟨_, _, rfl, c⟩
    · cases c
  refine ⟨fun X W b' e g c => ?_, fun X W b' e g c => ?_, pw_no fun N sc b op vs pos => rfl⟩
  · obtain ⟨x, pos, rfl, c1⟩ := sh c
    refine PE.imp (pe_not (ha.pe X W b' x g c1)) fun σ H Q h => ?_
    refine one (rep := rT X.K) (r := fun x H Q => ∃ c, x = V.bl c ∧ Q (V.bl (!c)) H) (fun B F H σ Γ tmp fa x ta Q rel ra P => ?_) σ H Q h
    split at P
    · obtain ⟨rfl, rfl⟩ := bl_inv ra
      exact ⟨_, rfl, P.flatv rel (fun c => by simp only [List.count_append]; omega) (.bl _)⟩
    · exact P.elim
  · obtain ⟨x, pos, rfl, c1⟩ := sh c
    refine PT.imp (pt_not (ha.pt X W b' x g c1)) fun σ H Q h => ?_
    have z := one (rep := rT X.K) (r := fun x H (Q : VK) => ∃ c, x = V.bl c ∧ Q (.bl (!c)) H) (fun B F H σ Γ tmp fa x ta Q rel ra P => by
      split at P
      · obtain ⟨rfl, rfl⟩ := bl_inv ra
        exact ⟨_, rfl, P.flatv rel (fun c => by simp only [List.count_append]; omega) (.bl _)⟩
      · exact P.elim) σ H (fun v H' => ∃ c, v = .bl c ∧ Q c H') h
    obtain ⟨B, F, Γ, tmp, rel, P⟩ := z
    refine ⟨B, F, Γ, tmp, rel, P.imp ?_⟩
    rintro v H' ⟨c, rfl, d, e, q⟩
    cases e
    exact ⟨c, rfl, q⟩
end
end Tv

/-! ### sum(rows, []), a > b of lists of ints -/
namespace Tv
open PySem PySem.Spec PyProof.Rows L2
section
variable {prog : Program} {w : World} {A : Around} {R : Result → Shared → Prop} {I : Addr} {fp wr : List Addr} {n : Nat} {P : Nat → Value → Prop} {St : Nat → Heap → Prop}
/-- the first i rows, one after another -/
def accL (rows : Nat → List Value) : Nat → List Value
  | 0 => []
  | i + 1 => accL rows i ++ rows i
theorem accL_le (rows : Nat → List Value) : ∀ {i n : Nat}, i ≤ n → (accL rows i).length ≤ (accL rows n).length
  | i, 0, h => by rw [Nat.le_zero.mp h]; exact Nat.le_refl _
  | i, n + 1, h => by
    by_cases e : i = n + 1
    · rw [e]; exact Nat.le_refl _
    · exact Nat.le_trans (accL_le rows (Nat.le_of_lt_succ (Nat.lt_of_le_of_ne h e))) (by show _ ≤ (accL rows n ++ rows n).length; rw [List.length_append]; omega)
theorem sum_rows_loop (W : Walks prog w A.in1 I fp wr n P St) (rows : Nat → List Value) (h0 : Heap) (S : Addr) (hSf : S ∉ fp) (hS0 : ∀ o, h0.get? S ≠ some o) (hw0 : ∀ b ∈ wr, ∀ o, h0.get? b ≠ some o) (hwS : ∀ b ∈ wr, b < S)
    (hrow : ∀ i v, P i v → ∃ c m, v = .ref c ∧ IsL h0 c (rows i).toArray m) (hz : (accL rows n).length ≤ sizeLine) :
    ∀ (k i : Nat) (s : Shared) (tr c m : Nat), n - i = k → i ≤ n → St i s.heap → (∀ b o, h0.get? b = some o → s.heap.get? b = some o) → s.heap.get? S = some { cls := .type "list", dict := none, data := .seq #[.ref tr] c, slots := #[] } →
    IsL s.heap tr (accL rows i).toArray m → tr ∉ wr → tr ≠ S →
    (∀ h' tk tr' m', (∀ b o, h0.get? b = some o → h'.get? b = some o) → IsL h' tr' (accL rows n).toArray m' → (i = n → tr' = tr) → (i < n → S < tr') → R (.ok (.ret (.ref tr'))) { s with heap := h', toks := tk }) →
    codeAny (model prog w) A (.builtin "sum.loop" ⟨[.ref I, .ref S, rawInt 2, rawInt 0], []⟩) R s := by
  have hSw : S ∉ wr := fun h => hSf (W.sub _ h)
  intro k
  induction k with
  | zero =>
    intro i s tr c m hk hi hst h00 hS htr htw htS hR
    have hin : i = n := by omega
    subst hin
    refine codeAny_builtin F.entry_sum_loop ?_
    rw [Around.under_plainId F.plain_sum_loop _]
    show wpAny _ A.in1 (seqItems? (.ref S) >>= _) _ _ s
    refine wpAny_bind (wpAny_seqItems hS rfl ?_)
    show wpAny _ A.in1 (tryCatch (pyNext (.ref I)) _ >>= _) _ _ s
    refine wpAny_bind (wpAny_tryCatch (W.done s _ _ hst fun h' tk hk' => ?_))
    exact wpAny_pure (hR h' tk tr m (fun b o e => hk' b o (fun hb => hw0 b hb o e) (h00 b o e)) (hk' _ _ htw htr) (fun _ => rfl) (fun h => absurd h (Nat.lt_irrefl _)))
  | succ k ih =>
    intro i s tr c m hk hi hst h00 hS htr htw htS hR
    have hlt : i < n := by omega
    refine codeAny_builtin F.entry_sum_loop ?_
    rw [Around.under_plainId F.plain_sum_loop _]
    show wpAny _ A.in1 (seqItems? (.ref S) >>= _) _ _ s
    refine wpAny_bind (wpAny_seqItems hS rfl ?_)
    show wpAny _ A.in1 (tryCatch (pyNext (.ref I)) _ >>= _) _ _ s
    refine wpAny_bind (wpAny_tryCatch (W.item i s _ _ hlt hst fun v h' tk hP hst' hk' => ?_))
    obtain ⟨cr, m', rfl, hrow'⟩ := hrow i v hP
    have hS' := hk' S _ hSw hS
    have htr' : IsL h' tr (accL rows i).toArray m := hk' _ _ htw htr
    have hcr' : IsL h' cr (rows i).toArray m' := hk' _ _ (fun hb => hw0 _ hb _ hrow') (h00 _ _ hrow')
    have hz' : (accL rows i).toArray.size + (rows i).toArray.size ≤ sizeLine := by
      have := accL_le rows (i := i + 1) (n := n) hlt
      have e : (accL rows (i + 1)).length = (accL rows i).length + (rows i).length := List.length_append
      simp only [List.size_toArray]
      omega
    show wpAny _ A.in1 ((holding [Value.ref cr] (binaryOp .Add (.ref tr) (.ref cr))).attempt >>= _) _ _ _
    refine wpAny_bind (wpAny_attempt (wpAny_holding (PySem.P.add_list htr' hcr' ?_ hz')))
    have ea : (accL rows i).toArray ++ (rows i).toArray = (accL rows (i + 1)).toArray := by simp [accL]
    rw [ea]
    show wpAny _ A.in1 (updateSeq S (fun _ => #[.ref h'.objs.size]) >>= _) _ _ _
    have hSl : S < h'.objs.size := Heap.lt_size hS'
    have hS1 := Heap.get?_push_of_some { cls := .type "list", data := .seq (accL rows (i + 1)).toArray } hS'
    refine wpAny_bind ?_
    refine wpAny_updateSeq hS1 rfl ?_
    have hS2 := Heap.get?_update_self (Obj.mapSeq fun _ => #[Value.ref h'.objs.size]) hS1 rfl
    refine wpAny_bind (wpAny_letGo ?_)
    refine wpAny_bind ?_
    refine wpAny_updateSeq hS2 rfl (wpAny_pure ⟨plainId_quiet F.plain_sum_loop _, ih (i + 1) _ h'.objs.size _ 0 (by omega) hlt (W.frame _ _ _ hst' fun b hb o e => ?_) (fun b o e => ?_) (Heap.get?_update_self _ hS2 rfl) ?_ (fun hb => Nat.lt_asymm hSl (hwS _ hb)) (Nat.ne_of_gt hSl) fun h'' tk'' tr'' m'' h1 h2 h3 h4 => ?_⟩)
    · exact (Heap.get?_update_other _ _ (fun h : S = b => hSf (by rw [h]; exact hb))).trans ((Heap.get?_update_other _ _ (fun h : S = b => hSf (by rw [h]; exact hb))).trans (Heap.get?_push_of_some _ e))
    · have hb : S ≠ b := fun h => hS0 o (by rw [h]; exact e)
      exact (Heap.get?_update_other _ _ hb).trans ((Heap.get?_update_other _ _ hb).trans (Heap.get?_push_of_some _ (hk' _ _ (fun hb => hw0 _ hb _ e) (h00 _ _ e))))
    · have hb : S ≠ h'.objs.size := Nat.ne_of_lt hSl
      exact (Heap.get?_update_other _ _ hb).trans ((Heap.get?_update_other _ _ hb).trans (Heap.get?_push_size _ rfl))
    · refine hR h'' tk'' tr'' m'' h1 h2 (fun h => absurd h (by omega)) fun _ => ?_
      by_cases e : i + 1 < n
      · exact h4 e
      · rw [h3 (by omega)]; exact hSl
end
section
variable {prog : Program} {w : World} {A : Around} {E : Value → Shared → Prop} {s : Shared}
theorem args_sum2 (a b : Value) : argsOk "sum" ⟨[a, b], []⟩ := by unfold argsOk; kernel_rfl
theorem sum_rows {l a0 : Addr} {its : List Value} {rows : Nat → List Value} {m0 : Nat} {Q : Value → Shared → Prop} (hh : A.handled = none) (hl : s.heap.IsList l its.toArray) (ha : IsL s.heap a0 #[] m0)
    (hrow : ∀ i v, its[i]? = some v → ∃ c m, v = .ref c ∧ IsL s.heap c (rows i).toArray m) (hz : (accL rows its.length).length ≤ sizeLine)
    (h : ∀ h' tk tr m', (∀ b o, s.heap.get? b = some o → h'.get? b = some o) → IsL h' tr (accL rows its.length).toArray m' → (its = [] → tr = a0) → (its ≠ [] → s.heap.objs.size ≤ tr) → Q (.ref tr) { s with heap := h', toks := tk }) :
    wpAny (model prog w) A (call (.builtin "sum") [.ref l, .ref a0]) Q E s := by
  have hlt : l < s.heap.objs.size := by obtain ⟨_, e, _⟩ := hl; exact Heap.lt_size e
  refine call_function_tree F.kind_sum F.plain_sum F.entry_sum (args_sum2 _ _) ?_
  unfold Builtin.«sum»
  simp only [List.length_cons, List.length_nil]
  rw [if_neg (by decide)]
  refine wpAny_bind (wpAny_of_eq (show Builtin.Builtins.bindParams "sum" ["start"] 0 ⟨[.ref a0], []⟩ = pure [some (.ref a0)] from rfl) ?_)
  refine wpAny_bind (wpAny_pyIter_list hl ?_)
  refine wpAny_bind (wpAny_pure ?_)
  have ha1 := ha.push { cls := .type "list_iterator", data := .fields #[.ref l, .int 0 0] }
  have hty : Shared.TypeIs { s with heap := s.heap.push { cls := .type "list_iterator", data := .fields #[.ref l, .int 0 0] } } (.ref a0) "list" := ⟨_, ha1, rfl⟩
  simp only [List.forIn_cons, List.forIn_nil]
  refine wpAny_bind (wpAny_bind (wpAny_bind (wpAny_isInstance (T := "list") (b := false) hty F.sub_list_str ?_)))
  simp only [Bool.false_eq_true, if_false]
  refine wpAny_pure (wpAny_bind (wpAny_bind (wpAny_isInstance (T := "list") (b := false) hty F.sub_list_bytes ?_)))
  simp only [Bool.false_eq_true, if_false]
  refine wpAny_pure (wpAny_bind (wpAny_bind (wpAny_isInstance (T := "list") (b := false) hty F.sub_list_bytearray ?_)))
  simp only [Bool.false_eq_true, if_false]
  refine wpAny_pure (wpAny_pure ?_)
  refine wpAny_bind (wpAny_newObj_type ?_)
  have hsz : (s.heap.push { cls := .type "list_iterator", data := .fields #[.ref l, .int 0 0] }).objs.size = s.heap.objs.size + 1 := Heap.size_push _ _
  have hne : l ≠ s.heap.objs.size := Nat.ne_of_lt hlt
  refine wpAny_pure ⟨plainId_quiet F.plain_sum_loop _, sum_rows_loop (Walks.list (A := A.in1) hh s.heap.objs.size l hne its.toArray) rows s.heap _ (fun hm => ?_) (fun o e => ?_) (fun b hb o e => ?_) (fun b hb => ?_) (fun i v e => hrow i v (by simpa using e)) (by simpa using hz) _ 0 _ a0 _ m0 rfl (Nat.zero_le _) ⟨?_, ?_⟩ (fun b o e => ?_) (Heap.get?_push_size _ rfl) ?_ (fun hb => ?_) ?_ fun h' tk tr m' h1 h2 h3 h4 => ?_⟩
  · rcases List.mem_cons.mp hm with e | hm
    · rw [hsz] at e; exact absurd e (Nat.succ_ne_self _)
    · rw [List.mem_singleton.mp hm] at hsz
      exact absurd hlt (by rw [hsz]; exact Nat.not_lt.mpr (Nat.le_succ _))
  · have := Heap.lt_size e
    rw [hsz] at this
    exact absurd this (Nat.not_lt.mpr (Nat.le_succ _))
  · rw [List.mem_singleton.mp hb] at e
    exact absurd (Heap.lt_size e) (Nat.lt_irrefl _)
  · rw [List.mem_singleton.mp hb, hsz]; exact Nat.lt_succ_self _
  · exact ⟨_, Heap.get?_push_of_some _ (Heap.get?_push_size _ rfl), rfl, rfl⟩
  · exact (hl.push _).push _
  · exact Heap.get?_push_of_some _ (Heap.get?_push_of_some _ e)
  · exact ha1.push _
  · rw [List.mem_singleton] at hb
    exact absurd (Heap.lt_size ha) (by rw [hb]; exact Nat.lt_irrefl _)
  · rw [hsz]
    exact Nat.ne_of_lt (Nat.lt_succ_of_lt (Heap.lt_size ha))
  · refine h h' tk tr m' h1 (by simpa using h2) (fun e => h3 (by rw [e]; rfl)) (fun e => ?_)
    have := h4 (by rw [List.size_toArray]; exact List.length_pos_iff.mpr e)
    rw [hsz] at this
    exact Nat.le_of_lt (Nat.lt_of_succ_lt this)
end
/-- sum(rows, []) -/
def rSumL (K : W.Frag) : List V → Hp → VK → Prop := fun vs H Q => ∃ (a b : Addr) (cs : List V) (yss : List (List V)), vs = [V.ref a, V.ref b] ∧ SqL K H a cs ∧ H b = some (.lst []) ∧
  (∀ (i : Nat) (c : V), cs[i]? = some c → ∃ d ys, c = V.ref d ∧ yss[i]? = some ys ∧ H d = some (.lst ys)) ∧ yss.length = cs.length ∧ yss.flatten.length ≤ sizeLine ∧
  (cs = [] → Q (.ref b) H) ∧ ∀ p, H p = none → Q (.ref p) (upd H p (.lst yss.flatten))
theorem vals_get : ∀ {xs : List V} {vs : List Value} {i : Nat} {v : Value}, Vals xs vs → vs[i]? = some v → ∃ x, xs[i]? = some x ∧ RelV x v
  | _, _, i, v, .nil, h => by simp at h
  | _, _, 0, v, .cons a b, h => by simp at h; subst h; exact ⟨_, rfl, a⟩
  | _, _, i + 1, v, .cons a b, h => by simpa using vals_get b (by simpa using h)
def rowH (h : Heap) : Option Value → List Value
  | some (.ref d) => match h.get? d with
    | some ⟨_, _, .seq a _, _⟩ => a.toList
    | _ => []
  | _ => []
theorem cr_sumL {X : Cx} (hc : X.calm = true) : CallR X (.builtin "sum") (rSumL X.K) := by
  intro pins s σ H vs us Q I r h
  obtain ⟨a, b, cs, yss, rfl, hs, hb, hrow, hlen, hz, q1, q2⟩ := h
  obtain ⟨its, rv, hl, _⟩ := I.list hs
  obtain ⟨_, its0, m0, r0, _, e0⟩ := I.lstM hb
  cases r0
  obtain ⟨u1, u2, rfl, k1, k2⟩ := vals2 r
  cases k1
  cases k2
  let rows : Nat → List Value := fun i => rowH s.heap its[i]?
  have hlen2 : its.length = cs.length := rv.length.symm
  have hr : ∀ i v, its[i]? = some v → ∃ c m ys, v = .ref c ∧ IsL s.heap c (rows i).toArray m ∧ yss[i]? = some ys ∧ Vals ys (rows i) := fun i v e => by
    obtain ⟨x, ex, rx⟩ := vals_get rv e
    obtain ⟨d, ys, rfl, ey, hd⟩ := hrow i x ex
    cases rx
    obtain ⟨_, its2, m2, r2, _, e2⟩ := I.lstM hd
    have : rows i = its2 := by
      show rowH s.heap its[i]? = its2
      rw [e]
      show (match s.heap.get? d with | some ⟨_, _, .seq a _, _⟩ => a.toList | _ => []) = its2
      rw [e2]
    rw [this]
    exact ⟨d, m2, ys, rfl, e2, ey, r2⟩
  have ha : ∀ n, n ≤ its.length → Vals (yss.take n).flatten (accL rows n) := by
    intro n
    induction n with
    | zero => intro _; rw [List.take_zero]; exact .nil
    | succ n ih =>
      intro hn
      obtain ⟨c, m, ys, _, _, ey, ry⟩ := hr n its[n] (List.getElem?_eq_getElem (by omega))
      rw [List.take_succ, ey]
      have : (yss.take n ++ (some ys).toList).flatten = (yss.take n).flatten ++ ys := by simp
      rw [this]
      exact (ih (by omega)).append ry
  have hall := ha its.length (Nat.le_refl _)
  rw [List.take_of_length_le (by omega)] at hall
  refine sum_rows (rows := rows) (I.ok.hd hc) hl.isList e0 (fun i v e => by obtain ⟨c, m, _, h1, h2, _⟩ := hr i v e; exact ⟨c, m, h1, h2⟩) (by rw [← hall.length]; exact hz) fun h' tk tr m' h1 h2 h3 h4 => ?_
  by_cases e : its = []
  · rw [h3 e]
    have : cs = [] := by rw [e] at hlen2; exact List.length_eq_zero_iff.mp hlen2.symm
    exact ⟨.ref b, H, I.kept h1, rfl, q1 this⟩
  · exact ⟨.ref tr, upd H tr (.lst yss.flatten), I.laid h1 (h4 e) ⟨hz, _, m', hall, h2⟩, rfl, q2 _ (I.hok.fresh (h4 e))⟩
/-! lists of whole numbers, which is more -/
def rGtL (K : W.Frag) : R2 := fun x y H Q => ∃ (a b : Addr) (ns ms : List Int), x = .ref a ∧ y = .ref b ∧ SqL K H a (ns.map V.int) ∧ SqL K H b (ms.map V.int) ∧ Q (.bl (gtN ns ms)) H
theorem firstLt_map (e r : Nat → Bool) (z : Bool) (f : Nat → Nat) : ∀ l : List Nat, SeqAt.firstLt e r z (l.map f) = SeqAt.firstLt (fun j => e (f j)) (fun j => r (f j)) z l
  | [] => rfl
  | j :: t => by
    rw [List.map_cons]
    show (if e (f j) = true then _ else _) = if e (f j) = true then _ else _
    rw [firstLt_map e r z f t]
theorem gtN_is : ∀ ns ms : List Int, SeqAt.firstLt (fun j => decide (ns.getD j 0 = ms.getD j 0)) (fun j => decide (ms.getD j 0 < ns.getD j 0)) (decide (ns.length > ms.length)) (List.range (min ns.length ms.length)) = gtN ns ms
  | [], ms => by simp [gtN, SeqAt.firstLt]
  | x :: xs, [] => by simp [gtN, SeqAt.firstLt]
  | x :: xs, y :: ys => by
    have ih := gtN_is xs ys
    have e : min (x :: xs).length (y :: ys).length = min xs.length ys.length + 1 := by simp only [List.length_cons]; omega
    have e2 : decide ((x :: xs).length > (y :: ys).length) = decide (xs.length > ys.length) := by simp
    rw [e, e2, List.range_succ_eq_map]
    show (if decide (x = y) = true then _ else decide (y < x)) = gtN (x :: xs) (y :: ys)
    rw [firstLt_map]
    show (if decide (x = y) = true then SeqAt.firstLt (fun j => decide (xs.getD j 0 = ys.getD j 0)) (fun j => decide (ys.getD j 0 < xs.getD j 0)) (decide (xs.length > ys.length)) (List.range (min xs.length ys.length)) else decide (y < x)) = gtN (x :: xs) (y :: ys)
    rw [ih]
    simp [gtN]
theorem op_gtL {X : Cx} (hu : X.A.units < cLine) : OpR X (compareOp .Gt) (rGtL X.K) := by
  intro pins s σ H x y v u Q I rx ry h
  obtain ⟨a, b, ns, ms, rfl, rfl, ha, hb, q⟩ := h
  cases rx
  cases ry
  obtain ⟨its, r1, p1, _⟩ := I.list ha
  obtain ⟨its2, r2, p2, _⟩ := I.list hb
  have i1 : IntsAre its ns := Vals.ints r1
  have i2 : IntsAre its2 ms := Vals.ints r2
  have e1 : its.toArray.size = ns.length := by rw [List.size_toArray]; exact i1.length
  have e2 : its2.toArray.size = ms.length := by rw [List.size_toArray]; exact i2.length
  have at1 : ∀ j (h1 : j < its.toArray.size), ∃ t, its.toArray[j] = .int (ns.getD j 0) t := fun j h1 => PyProof.Rows.IntsAre.int_at i1 _ _ (by simp at h1; simp [h1])
  have at2 : ∀ j (h1 : j < its2.toArray.size), ∃ t, its2.toArray[j] = .int (ms.getD j 0) t := fun j h1 => PyProof.Rows.IntsAre.int_at i2 _ _ (by simp at h1; simp [h1])
  have R := SeqAt.RcOp.lists_gt (A := X.A) (s := s) (e := fun j => decide (ns.getD j 0 = ms.getD j 0)) (r := fun j => decide (ms.getD j 0 < ns.getD j 0)) p1.isList p2.isList hu (fun j h1 h2 => by
    obtain ⟨t, et⟩ := at1 j h1
    obtain ⟨t', et'⟩ := at2 j h2
    rw [et, et']
    have z : (ns.getD j 0 == ms.getD j 0) = decide (ns.getD j 0 = ms.getD j 0) := by
      by_cases q : ns.getD j 0 = ms.getD j 0
      · rw [decide_eq_true q]; exact beq_iff_eq.mpr q
      · rw [decide_eq_false q]; exact beq_eq_false_iff_ne.mpr q
    rw [← z]
    exact SeqAt.EqAt.int_int _ _ _ _) (fun j h1 h2 _ => by
    obtain ⟨t, et⟩ := at1 j h1
    obtain ⟨t', et'⟩ := at2 j h2
    rw [et, et']
    exact fun _ _ _ _ h => PyProof.Rows.gt_int h)
  rw [e1, e2, gtN_is] at R
  have z : wpAny (model X.prog X.w) X.A (compareOp .Gt (.ref a) (.ref b)) (EP X pins σ Q) X.xe s := R X.prog X.w X.xe (EP X pins σ Q) ⟨.bl _, H, I, rfl, q⟩
  exact z
/-! sorted lists of whole numbers -/
theorem insI_perm (x : Int) : ∀ ys, (insI x ys).Perm (x :: ys)
  | [] => .refl _
  | y :: ys => by
    unfold insI
    split
    · exact .refl _
    · exact ((insI_perm x ys).cons y).trans (.swap x y ys)
theorem sortI_perm : ∀ xs, (sortI xs).Perm xs
  | [] => .refl _
  | x :: xs => (insI_perm x (sortI xs)).trans ((sortI_perm xs).cons x)
theorem insI_sorted (x : Int) : ∀ {ys : List Int}, ys.Pairwise (· ≤ ·) → (insI x ys).Pairwise (· ≤ ·)
  | [], _ => by simp [insI]
  | y :: ys, h => by
    unfold insI
    split
    · rename_i c
      refine List.pairwise_cons.mpr ⟨fun z hz => ?_, h⟩
      rcases List.mem_cons.mp hz with rfl | hz
      · exact c
      · exact Int.le_trans c ((List.pairwise_cons.mp h).1 z hz)
    · rename_i c
      refine List.pairwise_cons.mpr ⟨fun z hz => ?_, insI_sorted x (List.pairwise_cons.mp h).2⟩
      rcases List.mem_cons.mp ((insI_perm x ys).mem_iff.mp hz) with rfl | hz
      · omega
      · exact (List.pairwise_cons.mp h).1 z hz
theorem sortI_sorted : ∀ xs, (sortI xs).Pairwise (· ≤ ·)
  | [] => .nil
  | x :: xs => insI_sorted x (sortI_sorted xs)
theorem sorted_unique : ∀ {xs ys : List Int}, xs.Perm ys → xs.Pairwise (· ≤ ·) → ys.Pairwise (· ≤ ·) → xs = ys
  | [], ys, p, _, _ => (List.nil_perm.mp p).symm
  | x :: xs, [], p, _, _ => absurd p.length_eq (by simp)
  | x :: xs, y :: ys, p, hx, hy => by
    have a1 : x ≤ y := by
      rcases List.mem_cons.mp (p.symm.mem_iff.mp (List.mem_cons_self (a := y) (l := ys))) with e | m
      · omega
      · exact (List.pairwise_cons.mp hx).1 y m
    have a2 : y ≤ x := by
      rcases List.mem_cons.mp (p.mem_iff.mp (List.mem_cons_self (a := x) (l := xs))) with e | m
      · omega
      · exact (List.pairwise_cons.mp hy).1 x m
    have e : x = y := by omega
    subst e
    rw [sorted_unique (List.Perm.cons_inv p) (List.pairwise_cons.mp hx).2 (List.pairwise_cons.mp hy).2]
theorem sortI_is {xs ys : List Int} (p : ys.Perm xs) (h : ys.Pairwise (· ≤ ·)) : ys = sortI xs := sorted_unique (p.trans (sortI_perm xs).symm) h (sortI_sorted xs)
/-! sorted lists of pairs of whole numbers -/
theorem leP_iff {p q : Int × Int} : leP p q = true ↔ p.1 < q.1 ∨ (p.1 = q.1 ∧ p.2 ≤ q.2) := by unfold leP; rw [decide_eq_true_eq]
theorem insP_perm (x : Int × Int) : ∀ ys, (insP x ys).Perm (x :: ys)
  | [] => .refl _
  | y :: ys => by
    unfold insP
    split
    · exact .refl _
    · exact ((insP_perm x ys).cons y).trans (.swap x y ys)
theorem sortP_perm : ∀ xs, (sortP xs).Perm xs
  | [] => .refl _
  | x :: xs => (insP_perm x (sortP xs)).trans ((sortP_perm xs).cons x)
abbrev SortedP (xs : List (Int × Int)) : Prop := xs.Pairwise fun p q => leP p q = true
theorem insP_sorted (x : Int × Int) : ∀ {ys : List (Int × Int)}, SortedP ys → SortedP (insP x ys)
  | [], _ => by simp [insP]
  | y :: ys, h => by
    unfold insP
    split
    · rename_i c
      refine List.pairwise_cons.mpr ⟨fun z hz => ?_, h⟩
      rcases List.mem_cons.mp hz with rfl | hz
      · exact c
      · have a := leP_iff.mp c
        have b := leP_iff.mp ((List.pairwise_cons.mp h).1 z hz)
        exact leP_iff.mpr (by omega)
    · rename_i c
      refine List.pairwise_cons.mpr ⟨fun z hz => ?_, insP_sorted x (List.pairwise_cons.mp h).2⟩
      rcases List.mem_cons.mp ((insP_perm x ys).mem_iff.mp hz) with rfl | hz
      · rw [leP_iff] at c
        exact leP_iff.mpr (by omega)
      · exact (List.pairwise_cons.mp h).1 z hz
theorem sortP_sorted : ∀ xs, SortedP (sortP xs)
  | [] => .nil
  | x :: xs => insP_sorted x (sortP_sorted xs)
theorem sortedP_unique : ∀ {xs ys : List (Int × Int)}, xs.Perm ys → SortedP xs → SortedP ys → xs = ys
  | [], ys, p, _, _ => (List.nil_perm.mp p).symm
  | x :: xs, [], p, _, _ => absurd p.length_eq (by simp)
  | x :: xs, y :: ys, p, hx, hy => by
    have e : x = y := by
      rcases List.mem_cons.mp (p.symm.mem_iff.mp (List.mem_cons_self (a := y) (l := ys))) with e | m
      · exact e.symm
      · rcases List.mem_cons.mp (p.mem_iff.mp (List.mem_cons_self (a := x) (l := xs))) with e | m2
        · exact e
        · have a := leP_iff.mp ((List.pairwise_cons.mp hx).1 y m)
          have b := leP_iff.mp ((List.pairwise_cons.mp hy).1 x m2)
          exact Prod.ext (by omega) (by omega)
    subst e
    rw [sortedP_unique (List.Perm.cons_inv p) (List.pairwise_cons.mp hx).2 (List.pairwise_cons.mp hy).2]
theorem sortP_is {xs ys : List (Int × Int)} (p : ys.Perm xs) (h : SortedP ys) : ys = sortP xs := sortedP_unique (p.trans (sortP_perm xs).symm) h (sortP_sorted xs)
/-- the two whole numbers of a pair -/
def kH (H : Hp) : V → Int × Int
  | .ref t => match H t with
    | some (.tup [.int a, .int b]) => (a, b)
    | _ => (0, 0)
  | _ => (0, 0)
theorem pair_inv {K : W.Frag} {F : FF} {H : Hp} (hF : Sub F.f H) {x : V} {p : Int × Int} {f : List Addr} (r : RpT K F H x (pairTp p) f) : kH H x = p ∧ (∃ t, x = V.ref t ∧ H t = some (.tup [.int p.1, .int p.2])) ∧ f = [] := by
  unfold pairTp at r
  cases r with
  | v r =>
    cases r with
    | tup h r =>
      cases r with
      | cons a b =>
        cases b with
        | cons c d =>
          cases d with
          | nil =>
            cases a with | int i =>
            cases c with | int j =>
            have h' := hF.eq h rfl
            refine ⟨?_, ⟨_, rfl, h'⟩, rfl⟩
            simp only [kH, h']
theorem pairsT_is : ∀ {ts : List T} {ps : List (Int × Int)}, pairsT ts = some ps → ts = ps.map pairTp
  | [], ps, e => by cases e; rfl
  | t :: ts, ps, e => by
    unfold pairsT at e
    split at e
    · rename_i e0; cases e0
    · rename_i a b ts' e0
      cases e0
      cases h : pairsT ts with
      | none => rw [h] at e; cases e
      | some r =>
        rw [h] at e
        cases e
        rw [pairsT_is h]; rfl
    · cases e
theorem pairs_all {K : W.Frag} {F : FF} {H : Hp} (hF : Sub F.f H) : ∀ {xs : List V} {ps : List (Int × Int)} {f : List Addr}, RpTs K F H xs (ps.map pairTp) f → xs.map (kH H) = ps ∧ ∀ x ∈ xs, ∃ t, x = V.ref t ∧ H t = some (.tup [.int (kH H x).1, .int (kH H x).2])
  | _, [], _, .nil => ⟨rfl, fun x h => by cases h⟩
  | _, p :: ps, _, .cons a b => by
    obtain ⟨h1, ⟨t, h2, h3⟩, _⟩ := pair_inv hF a
    obtain ⟨k1, k2⟩ := pairs_all hF b
    refine ⟨by rw [List.map_cons, h1, k1], fun x hx => ?_⟩
    rcases List.mem_cons.mp hx with rfl | hx
    · exact ⟨t, h2, by rw [h1]; exact h3⟩
    · exact k2 x hx
theorem pairs_perm {K : W.Frag} {F : FF} {H : Hp} {xs ys : List V} (p : xs.Perm ys) : ∀ {ps : List (Int × Int)} {f : List Addr}, RpTs K F H xs (ps.map pairTp) f → ∃ (qs : List (Int × Int)) (g : List Addr), RpTs K F H ys (qs.map pairTp) g ∧ qs.Perm ps ∧ ∀ c, g.count c ≤ f.count c := by
  induction p with
  | nil =>
    intro ps f r
    exact ⟨ps, f, r, .refl _, fun c => Nat.le_refl _⟩
  | cons x _ ih =>
    intro ps f r
    cases ps with
    | nil => cases r
    | cons p ps =>
      cases r with
      | cons a b =>
        obtain ⟨qs, g, h1, h2, h3⟩ := ih b
        exact ⟨p :: qs, _, .cons a h1, h2.cons p, fun c => by have := h3 c; simp only [List.count_append]; omega⟩
  | swap x y l =>
    intro ps f r
    cases ps with
    | nil => cases r
    | cons p ps =>
      cases r with
      | cons a b =>
        cases ps with
        | nil => cases b
        | cons q ps =>
          cases b with
          | cons c d => exact ⟨q :: p :: ps, _, .cons c (.cons a d), .swap p q ps, fun c => by simp only [List.count_append]; omega⟩
  | trans _ _ ih1 ih2 =>
    intro ps f r
    obtain ⟨qs, g, h1, h2, h3⟩ := ih1 r
    obtain ⟨qs', g', k1, k2, k3⟩ := ih2 h1
    exact ⟨qs', g', k1, k2.trans h2, fun c => Nat.le_trans (k3 c) (h3 c)⟩
theorem srtd_pairs {H : Hp} {ys : List V} (h : SrtO.Srtd (ltP (kH H)) ys) : SortedP (ys.map (kH H)) := by
  refine List.pairwise_map.mpr (h.imp fun {x y} e => ?_)
  have := SrtO.lexB_no.mp e
  exact leP_iff.mpr (by omega)
end Tv

namespace Tv
open PySem PySem.Spec PyProof.Rows L2

/-! ### comparisons -/
theorem py_str (z : Str) : (D.str z.cps.toList).py = .str z := by
  unfold D.py; simp
mutual
theorem RpD.dp {K : W.Frag} {H : Hp} : ∀ {x : V} {d : D} {n : Nat}, RpD K H x d → d.okD n = true → Dp K H x d.py
  | _, _, _, .non, _ => .non
  | _, _, _, .bl b, _ => .bl b
  | _, _, _, .int i, _ => .int i
  | _, _, _, .str z _, _ => by rw [py_str]; exact .str z
  | _, _, 0, .lst h r, e => by simp [D.okD] at e
  | _, _, 0, .tup h r, e => by simp [D.okD] at e
  | _, _, n + 1, .lst h r, e => .lst (.of h) (RpDs.dp r (by simpa [D.okD] using e))
  | _, _, n + 1, .tup h r, e => .tup (.of h) (RpDs.dp r (by simpa [D.okD] using e))
  | _, _, _, .ktp h r, e => by simp [D.okD] at e
  | _, _, _, .scr h, e => by simp [D.okD] at e
  | _, _, _, .dct h q r, e => by simp [D.okD] at e
  | _, _, _, .obj c h n x r, e => by simp [D.okD] at e
  | _, _, _, .exc h d n x r, e => by simp [D.okD] at e
theorem RpDs.dp {K : W.Frag} {H : Hp} : ∀ {x : List V} {d : List D} {n : Nat}, RpDs K H x d → D.okDs d n = true → DpAll K H x (D.pys d)
  | _, _, _, .nil, _ => .nil
  | _, _, _, .cons a b, e => by
    simp [D.okDs] at e
    exact .cons (RpD.dp a e.1) (RpDs.dp b e.2)
end
theorem strOk_of {z : Str} (h : okS z.cps.toList = true) : PyData.strOk z = true := by
  unfold okS at h
  simp only [Bool.and_eq_true, List.all_eq_true, decide_eq_true_eq] at h
  unfold PyData.strOk
  rw [Array.all_eq_true']
  intro c hc
  exact decide_eq_true (h.2 c (by simpa using hc))
mutual
theorem RpD.lay {K : W.Frag} {H : Hp} : ∀ {x : V} {d : D} {n : Nat}, RpD K H x d → d.okD n = true → d.py.canLay0 = true ∧ d.py.depth ≤ n
  | _, _, _, .non, _ => ⟨rfl, Nat.zero_le _⟩
  | _, _, _, .bl b, _ => ⟨rfl, Nat.zero_le _⟩
  | _, _, _, .int i, _ => ⟨rfl, Nat.zero_le _⟩
  | _, _, _, .str z h, _ => by rw [py_str]; exact ⟨strOk_of h, Nat.zero_le _⟩
  | _, _, 0, .lst h r, e => by simp [D.okD] at e
  | _, _, 0, .tup h r, e => by simp [D.okD] at e
  | _, _, n + 1, .lst h r, e => by
    have := RpDs.lay r (show D.okDs _ n = true by simpa [D.okD] using e)
    exact ⟨this.1, Nat.succ_le_succ this.2⟩
  | _, _, n + 1, .tup h r, e => by
    have := RpDs.lay r (show D.okDs _ n = true by simpa [D.okD] using e)
    exact ⟨this.1, Nat.succ_le_succ this.2⟩
  | _, _, _, .ktp h r, e => by simp [D.okD] at e
  | _, _, _, .scr h, e => by simp [D.okD] at e
  | _, _, _, .dct h q r, e => by simp [D.okD] at e
  | _, _, _, .obj c h n x r, e => by simp [D.okD] at e
  | _, _, _, .exc h d n x r, e => by simp [D.okD] at e
theorem RpDs.lay {K : W.Frag} {H : Hp} : ∀ {x : List V} {d : List D} {n : Nat}, RpDs K H x d → D.okDs d n = true → PyData.canLayAll0 (D.pys d) = true ∧ PyData.depthAll (D.pys d) ≤ n
  | _, _, _, .nil, _ => ⟨rfl, Nat.zero_le _⟩
  | _, _, _, .cons a b, e => by
    simp [D.okDs] at e
    have h1 := RpD.lay a e.1
    have h2 := RpDs.lay b e.2
    refine ⟨?_, ?_⟩
    · simp only [D.pys, PyData.canLayAll0, h1.1, h2.1, Bool.and_self]
    · simp only [D.pys, PyData.depthAll]; omega
end
theorem RpD.shaped {K : W.Frag} {H : Hp} {x : V} {d : D} (r : RpD K H x d) (e : d.okD 60 = true) : SeqAt.shaped d.py = true := by
  have := r.lay e
  unfold SeqAt.shaped
  rw [this.1, Bool.true_and]
  exact decide_eq_true (by omega)
theorem flatV_of {K : W.Frag} {H : Hp} {x : V} {d : D} (r : RpD K H x d) (h : d.flat = true) : flatV x = true := by
  cases r <;> first | rfl | cases h
theorem eqV_of {K : W.Frag} {H : Hp} {x y : V} {d e : D} (r : RpD K H x d) (q : RpD K H y e) (h : d.flat = true) (h' : e.flat = true) : eqV x y = eqD d e := by
  unfold eqD
  cases r with
  | non => cases q <;> first | rfl | cases h'
  | bl b => cases q <;> first | rfl | cases h'
  | int i => cases q <;> first | rfl | cases h'
  | str z _ =>
    rw [py_str]
    cases q with
    | str z' _ => rw [py_str]; rfl
    | non => rfl
    | bl b => rfl
    | int i => rfl
    | _ => cases h'
  | _ => cases h
theorem inV_of {K : W.Frag} {F : FF} {H : Hp} (hF : Hs F H) {x : V} {d : D} (r : RpD K H x d) (h : d.flat = true) : ∀ {ys : List V} {ts : List T} {f : List Addr}, RpTs K F H ys ts f → (ts.all fun t => t.er.flat) = true →
    ys.all flatV = true ∧ inV x ys = ts.any fun t => eqD t.er d
  | _, _, _, .nil, _ => ⟨rfl, rfl⟩
  | _, _, _, .cons a b, e => by
    rw [List.all_cons, Bool.and_eq_true] at e
    have q := a.read hF.sub hF.nsub
    obtain ⟨h1, h2⟩ := inV_of hF r h b e.2
    refine ⟨by rw [List.all_cons, flatV_of q e.1, h1]; rfl, ?_⟩
    unfold inV at h2 ⊢
    rw [List.any_cons, List.any_cons, h2, eqV_of q r e.1 h]
def rC (K : W.Frag) : COp → R2
  | .eq => rEqD K
  | .ne => rNeD K
  | .lt => rI0 fun i j => .bl (decide (i < j))
  | .le => rI0 fun i j => .bl (decide (i ≤ j))
  | .gt => fun x y H Q => rI0 (fun i j => .bl (decide (j < i))) x y H Q ∨ rGtL K x y H Q
  | .ge => rI0 fun i j => .bl (decide (j ≤ i))
  | .isIn => fun x y H Q => (∃ (c : Nat) (z : Str), x = .str ⟨#[c]⟩ ∧ y = .str z ∧ Q (.bl (decide (c ∈ z.cps.toList))) H) ∨ rIn K false x y H Q ∨ rInD K x y H Q
  | .notIn => fun x y H Q => (∃ (c : Nat) (z : Str), x = .str ⟨#[c]⟩ ∧ y = .str z ∧ Q (.bl (!decide (c ∈ z.cps.toList))) H) ∨ rIn K true x y H Q ∨ rNotInD K x y H Q
theorem op_C {X : Cx} (hu : X.A.units + 65 < cLine) (o : COp) : OpR X (compareOp o.op) (rC X.K o) := by
  cases o with
  | eq => exact op_eqD (by omega)
  | ne => exact op_neD (by omega)
  | lt => exact op_lt
  | le => exact op_le
  | gt => exact OpR.or op_gt (op_gtL (by omega))
  | ge => exact op_ge
  | isIn => exact OpR.or op_in_sign (OpR.or op_in_seq (op_inD hu))
  | notIn => exact OpR.or op_notIn_sign (OpR.or op_notIn_seq (op_notInD hu))
theorem sign_mk {z : Str} {c : Nat} (h : z.cps.toList = [c]) : z = ⟨#[c]⟩ := by
  obtain ⟨a⟩ := z
  have : a = #[c] := by
    apply Array.toList_inj.mp
    simpa using h
  rw [this]
section
variable {K : W.Frag} {F : FF} {H : Hp} {x : V} {xs : List V} {t : T} {ts : List T} {f : List Addr}
theorem intsT_ok : ∀ {xs : List V} {ts : List T} {f : List Addr} {ns : List Int}, intsT ts = some ns → RpTs K F H xs ts f → xs = ns.map V.int
  | _, [], _, ns, e, .nil => by cases e; rfl
  | _, t :: ts, _, ns, e, .cons a b => by
    unfold intsT at e
    split at e
    · rename_i e0; cases e0
    · rename_i i ts' e0
      cases e0
      cases h : intsT ts with
      | none => rw [h] at e; cases e
      | some r =>
        rw [h] at e
        cases e
        obtain ⟨rfl, _⟩ := int_inv a
        rw [intsT_ok h b]; rfl
    · cases e
end
theorem inT_ok {K : W.Frag} {F : FF} {H : Hp} (hF : Hs F H) {x y : V} {a b : T} {fa fb : List Addr} {k : Bool} (ra : RpT K F H x a fa) (rb : RpT K F H y b fb) (e : inT a b = some k) :
    (∃ (c : Nat) (z : Str), x = .str ⟨#[c]⟩ ∧ y = .str z ∧ decide (c ∈ z.cps.toList) = k) ∨ (∃ p xs, y = .ref p ∧ (SqL K H p xs ∨ SqT K H p xs) ∧ flatV x = true ∧ xs.all flatV = true ∧ inV x xs = k) ∨
      (∃ d es, Dp K H x d ∧ Dp K H y (.list es) ∧ SeqAt.shaped d = true ∧ SeqAt.shaped (.list es) = true ∧ (es.any fun z => PyData.eqv z d) = k) := by
  unfold inT at e
  split at e
  · cases e
    obtain ⟨z, rfl, h1, _⟩ := str_inv ra
    obtain ⟨z', rfl, h2, _⟩ := str_inv rb
    have := sign_mk h1
    subst this
    exact .inl ⟨_, _, rfl, rfl, by rw [h2]⟩
  · split at e
    · rename_i ts eq
      split at e
      · rename_i hf
        cases e
        rw [Bool.and_eq_true] at hf
        obtain ⟨p, xs, g, rfl, hq, r1, _⟩ := asQ_ok eq hF rb
        have rd := ra.read hF.sub hF.nsub
        obtain ⟨h1, h2⟩ := inV_of hF rd hf.1 r1 hf.2
        exact .inr (.inl ⟨_, _, rfl, hq, flatV_of rd hf.1, h1, h2⟩)
      · have rd := ra.read hF.sub hF.nsub
        have ry := rb.read hF.sub hF.nsub
        unfold inDT at e
        split at e
        · rename_i es he
          split at e
          · rename_i h
            cases e
            rw [Bool.and_eq_true] at h
            rw [he] at ry
            have h1 := rd.dp h.1
            have h2 := ry.dp h.2
            have h3 := rd.shaped h.1
            have h4 := ry.shaped h.2
            have e5 : (D.lst es).py = .list (D.pys es) := by simp [D.py]
            rw [e5] at h2 h4
            refine .inr (.inr ⟨_, _, h1, h2, h3, h4, ?_⟩)
            have : ∀ es : List D, (D.pys es).any (fun z => PyData.eqv z a.er.py) = es.any fun z => eqD z a.er := fun es => by
              induction es with
              | nil => rfl
              | cons z zs ih => rw [D.pys, List.any_cons, List.any_cons, ih]; rfl
            exact this es
          · cases e
        · cases e
    · cases e
/-- what a comparison tells, by values -/
theorem cmpT_ok {K : W.Frag} {F : FF} {H : Hp} (hF : Hs F H) {x y : V} {a b : T} {fa fb : List Addr} {k : Bool} {o : COp} {Q : VK} (ra : RpT K F H x a fa) (rb : RpT K F H y b fb) (e : cmpT o a b = some k) (q : Q (.bl k) H) : rC K o x y H Q := by
  have eqs : ∀ {k}, eqT a b = some k → ∃ d e', Dp K H x d ∧ Dp K H y e' ∧ SeqAt.shaped d = true ∧ SeqAt.shaped e' = true ∧ PyData.eqv d e' = k := by
    intro k e
    unfold eqT at e
    split at e
    · rename_i h
      cases e
      rw [Bool.and_eq_true] at h
      have r1 := ra.read hF.sub hF.nsub
      have r2 := rb.read hF.sub hF.nsub
      exact ⟨_, _, r1.dp h.1, r2.dp h.2, r1.shaped h.1, r2.shaped h.2, rfl⟩
    · cases e
  cases o with
  | eq =>
    obtain ⟨d, e', h1, h2, h3, h4, h5⟩ := eqs e
    exact ⟨d, e', h1, h2, h3, h4, by rw [h5]; exact q⟩
  | ne =>
    have e : (eqT a b).map (fun b => !b) = some k := e
    cases h : eqT a b with
    | none => rw [h] at e; cases e
    | some k' =>
      rw [h] at e
      cases e
      obtain ⟨d, e', h1, h2, h3, h4, h5⟩ := eqs h
      exact ⟨d, e', h1, h2, h3, h4, by rw [h5]; exact q⟩
  | lt =>
    simp only [cmpT] at e
    split at e
    · cases e
      obtain ⟨rfl, _⟩ := int_inv ra
      obtain ⟨rfl, _⟩ := int_inv rb
      exact ⟨_, _, rfl, rfl, q⟩
    · cases e
  | le =>
    simp only [cmpT] at e
    split at e
    · cases e
      obtain ⟨rfl, _⟩ := int_inv ra
      obtain ⟨rfl, _⟩ := int_inv rb
      exact ⟨_, _, rfl, rfl, q⟩
    · cases e
  | gt =>
    simp only [cmpT] at e
    split at e
    · cases e
      obtain ⟨rfl, _⟩ := int_inv ra
      obtain ⟨rfl, _⟩ := int_inv rb
      exact .inl ⟨_, _, rfl, rfl, q⟩
    · split at e
      · rename_i ns ms e1 e2
        cases e
        cases f1 : lOnly a with
        | none => rw [f1] at e1; cases e1
        | some us =>
        cases f2 : lOnly b with
        | none => rw [f2] at e2; cases e2
        | some ws =>
        rw [f1] at e1
        rw [f2] at e2
        obtain ⟨p, xs, g, rfl, hq, r1, _⟩ := lOnly_ok f1 hF ra
        obtain ⟨p', xs', g', rfl, hq', r1', _⟩ := lOnly_ok f2 hF rb
        have h1 := intsT_ok e1 r1
        have h2 := intsT_ok e2 r1'
        subst h1 h2
        exact .inr ⟨_, _, _, _, rfl, rfl, hq, hq', q⟩
      · cases e
  | ge =>
    simp only [cmpT] at e
    split at e
    · cases e
      obtain ⟨rfl, _⟩ := int_inv ra
      obtain ⟨rfl, _⟩ := int_inv rb
      exact ⟨_, _, rfl, rfl, q⟩
    · cases e
  | isIn =>
    rcases inT_ok hF ra rb e with ⟨c, z, h1, h2, h3⟩ | ⟨p, xs, h1, h2, h3, h4, h5⟩ | ⟨d, es, h1, h2, h3, h4, h5⟩
    · exact .inl ⟨c, z, h1, h2, by rw [h3]; exact q⟩
    · exact .inr (.inl ⟨p, xs, h1, h2, h3, h4, by rw [if_neg Bool.false_ne_true, h5]; exact q⟩)
    · exact .inr (.inr ⟨d, es, h1, h2, h3, h4, by rw [h5]; exact q⟩)
  | notIn =>
    have e : (inT a b).map (fun b => !b) = some k := e
    cases h : inT a b with
    | none => rw [h] at e; cases e
    | some k' =>
      rw [h] at e
      cases e
      rcases inT_ok hF ra rb h with ⟨c, z, h1, h2, h3⟩ | ⟨p, xs, h1, h2, h3, h4, h5⟩ | ⟨d, es, h1, h2, h3, h4, h5⟩
      · exact .inl ⟨c, z, h1, h2, by rw [h3]; exact q⟩
      · exact .inr (.inl ⟨p, xs, h1, h2, h3, h4, by rw [if_pos rfl, h5]; exact q⟩)
      · exact .inr (.inr ⟨d, es, h1, h2, h3, h4, by rw [h5]; exact q⟩)
theorem chk_set {N sc b m a k p} : chkE N sc b m (.Set a k p) = false := by cases m <;> rfl
theorem chk_star {N sc b m a p} : chkE N sc b m (.Starred a p) = false := by cases m <;> rfl
theorem chk_notSet {N sc b m e} (h : chkE N sc b m e = true) : notSet e = true := by
  cases e with
  | Set a k p => rw [chk_set] at h; cases h
  | _ => rfl
theorem chk_notStar {N sc b m e} (h : chkE N sc b m e = true) : notStar e = true := by
  cases e with
  | Starred a p => rw [chk_star] at h; cases h
  | _ => rfl
theorem marks_of {op : CmpOp} {e : Expr} (h : notSet e = true) : behindInMarks op e = false := by
  cases e with
  | Set a k p => cases h
  | _ => rfl
theorem fset_of {e : Expr} {env : PySem.Env} (h : notSet e = true) : ∀ x, foldedSetIterable e env x = pure x := by
  cases e with
  | Set a k p => cases h
  | _ => intro x; rfl
section
variable {G : Glob}
theorem ok_cmp {o : COp} {a b : E} (ha : Ok G a) (hb : Ok G b) : Ok G (.cmp o a b) := by
  have sh : ∀ {N sc b'} {e : Expr}, chkE N sc b' (.cmp o a b) e = true → ∃ x y pos, e = .Compare x [o.op] [y] pos ∧ chkE N sc b' a x = true ∧ chkE N sc b' b y = true := by
    intro N sc b' e c
    unfold chkE at c
    split at c
    · simp only [Bool.and_eq_true, decide_eq_true_eq] at c
      obtain ⟨⟨c1, c2⟩, c3⟩ := c
      subst c1
      exact ⟨_, _, _, rfl, c2, c3⟩
    · cases c
  have rd : ∀ {K : W.Frag} {W : WX} σ H Q, TE' K G W (.cmp o a b) σ H Q → tOp (rC K o) (TE' K G W a) (TE' K G W b) σ H Q := fun {K W} σ H Q h =>
    two (f := fun x y Γ => R.op ((cmpT o x y).map fun c => T.v (.bl c)) Γ) (fun B F H σ Γ tmp fa fb x y ta tb Q rel ra rb P => by
      cases e : cmpT o ta tb with
      | none => rw [e] at P; exact P.elim
      | some k =>
        rw [e] at P
        exact cmpT_ok rel.hs ra rb e (Post.flatv (Γ := Γ) P rel (fun c => by simp only [List.count_append]; omega) (.bl _))) σ H Q h
  refine ⟨fun X W b' e g c => ?_, fun X W b' e g c => ?_, pw_no fun N sc b op vs pos => rfl⟩
  · obtain ⟨x, y, pos, rfl, c1, c2⟩ := sh c
    exact PE.imp (pe_cmpR (op_C (by have := g.hu; omega) o) (ha.pe X W b' x g c1) (hb.pe X W b' y g c2) (marks_of (chk_notSet c2))) rd
  · obtain ⟨x, y, pos, rfl, c1, c2⟩ := sh c
    exact PT.imp (pt_cmpR (op_C (by have := g.hu; omega) o) (ha.pe X W b' x g c1) (hb.pe X W b' y g c2) (marks_of (chk_notSet c2))) fun σ H Q h => rd σ H _ h
theorem ok_cmp2 {o p : COp} {a b c : E} (ha : Ok G a) (hb : Ok G b) (hc : Ok G c) : Ok G (.cmp2 o p a b c) := by
  have sh : ∀ {N sc b'} {e : Expr}, chkE N sc b' (.cmp2 o p a b c) e = true → ∃ x y z pos, e = .Compare x [o.op, p.op] [y, z] pos ∧ chkE N sc b' a x = true ∧ chkE N sc b' b y = true ∧ chkE N sc b' c z = true := by
    intro N sc b' e c
    unfold chkE at c
    split at c
    · simp only [Bool.and_eq_true, decide_eq_true_eq] at c
      obtain ⟨⟨⟨⟨c1, c2⟩, c3⟩, c4⟩, c5⟩ := c
      subst c1 c2
      exact ⟨_, _, _, _, rfl, c3, c4, c5⟩
    · cases c
  have rd : ∀ {K : W.Frag} {W : WX} σ H Q, TE' K G W (.cmp2 o p a b c) σ H Q → tChain (rC K o) (rC K p) (TE' K G W a) (TE' K G W b) (TE' K G W c) σ H Q := by
    rintro K W σ H Q ⟨B, F, Γ, tmp, rel, P⟩
    refine ⟨B, F, Γ, tmp, rel, (P.bind (rep := rT K) (fp := [])).imp ?_⟩
    rintro x H1 ⟨ta, Γ1, F1, fa, rel1, ra, sH1, sF1, P1⟩
    refine ⟨B, F1, Γ1, fa ++ tmp, rel1, (P1.bind (rep := rT K) (fp := fa)).imp ?_⟩
    rintro y H2 ⟨tb, Γ2, F2, fb, rel2, rb, sH2, sF2, P2⟩
    cases e : cmpT o ta tb with
    | none => rw [e] at P2; exact P2.elim
    | some k =>
      rw [e] at P2
      refine cmpT_ok rel2.hs (ra.grow sF2 sH2) rb e ⟨k, rfl, ?_⟩
      cases k with
      | false =>
        rw [if_neg Bool.false_ne_true]
        exact Post.flatv (Γ := Γ2) P2 rel2 (fun c => by simp only [List.count_append]; omega) (.bl _)
      | true =>
        rw [if_pos rfl]
        refine ⟨B, F2, Γ2, _, rel2, ?_⟩
        rw [← List.append_assoc] at rel2 ⊢
        refine (P2.bind (rep := rT K) (fp := fb ++ fa)).imp ?_
        rintro z H3 ⟨tc, Γ3, F3, fc, rel3, rc, sH3, sF3, P3⟩
        cases e2 : cmpT p tb tc with
        | none => rw [e2] at P3; exact P3.elim
        | some k2 =>
          rw [e2] at P3
          exact cmpT_ok rel3.hs (rb.grow sF3 sH3) rc e2 (Post.flatv (Γ := Γ3) P3 rel3 (fun c => by simp only [List.count_append]; omega) (.bl _))
  refine ⟨fun X W b' e g c => ?_, fun X W b' e g c => ?_, pw_no fun N sc b op vs pos => rfl⟩
  · obtain ⟨x, y, z, pos, rfl, c1, c2, c3⟩ := sh c
    exact PE.imp (pe_chain (op_C (by have := g.hu; omega) o) (op_C (by have := g.hu; omega) p) (ha.pe X W b' x g c1) (hb.pe X W b' y g c2) (hc.pe X W b' z g c3) (marks_of (chk_notSet c3))) rd
  · obtain ⟨x, y, z, pos, rfl, c1, c2, c3⟩ := sh c
    exact PT.imp (pt_chain (op_C (by have := g.hu; omega) o) (op_C (by have := g.hu; omega) p) (ha.pe X W b' x g c1) (hb.pe X W b' y g c2) (hc.pe X W b' z g c3) (marks_of (chk_notSet c3))) fun σ H Q h => rd σ H _ h
theorem non_iff {K : W.Frag} {F : FF} {H : Hp} (hF : Hs F H) {x : V} {t : T} {f : List Addr} (r : RpT K F H x t f) : decide (x = .non) = t.er.isNon := by
  have q := r.read hF.sub hF.nsub
  generalize t.er = d at q
  cases q <;> rfl
theorem ok_isN {a : E} (ha : Ok G a) : Ok G (.isN a) := by
  have sh : ∀ {N sc b'} {e : Expr}, chkE N sc b' (.isN a) e = true → ∃ x j p pos, e = .Compare x [.Is] [.Constant .none j p] pos ∧ chkE N sc b' a x = true := by
    intro N sc b' e c
    unfold chkE at c
    split at c
    · exact ⟨_, _, _, _, rfl, c⟩
    · cases c
  have rd : ∀ {K : W.Frag} {W : WX} σ H Q, TE' K G W (.isN a) σ H Q → tIsN (TE' K G W a) σ H Q := fun {K W} σ H Q h =>
    one (rep := rT K) (r := fun x H (Q : VK) => Q (.bl (decide (x = .non))) H) (fun B F H σ Γ tmp fa x ta Q rel ra P => by
      rw [non_iff rel.hs ra]
      exact P.flatv rel (fun c => by simp only [List.count_append]; omega) (.bl _)) σ H Q h
  refine ⟨fun X W b' e g c => ?_, fun X W b' e g c => ?_, pw_no fun N sc b op vs pos => rfl⟩
  · obtain ⟨x, j, p, pos, rfl, c1⟩ := sh c
    exact PE.imp (pe_cmp (pc_isN (ha.pe X W b' x g c1))) rd
  · obtain ⟨x, j, p, pos, rfl, c1⟩ := sh c
    exact PT.imp (pt_cmp (pc_isN (ha.pe X W b' x g c1))) fun σ H Q h => rd σ H _ h
theorem ok_notN {a : E} (ha : Ok G a) : Ok G (.notN a) := by
  have sh : ∀ {N sc b'} {e : Expr}, chkE N sc b' (.notN a) e = true → ∃ x j p pos, e = .Compare x [.IsNot] [.Constant .none j p] pos ∧ chkE N sc b' a x = true := by
    intro N sc b' e c
    unfold chkE at c
    split at c
    · exact ⟨_, _, _, _, rfl, c⟩
    · cases c
  have rd : ∀ {K : W.Frag} {W : WX} σ H Q, TE' K G W (.notN a) σ H Q → tNotN (TE' K G W a) σ H Q := fun {K W} σ H Q h =>
    one (rep := rT K) (r := fun x H (Q : VK) => Q (.bl (!decide (x = .non))) H) (fun B F H σ Γ tmp fa x ta Q rel ra P => by
      rw [non_iff rel.hs ra]
      exact P.flatv rel (fun c => by simp only [List.count_append]; omega) (.bl _)) σ H Q h
  refine ⟨fun X W b' e g c => ?_, fun X W b' e g c => ?_, pw_no fun N sc b op vs pos => rfl⟩
  · obtain ⟨x, j, p, pos, rfl, c1⟩ := sh c
    exact PE.imp (pe_cmp (pc_notN (ha.pe X W b' x g c1))) rd
  · obtain ⟨x, j, p, pos, rfl, c1⟩ := sh c
    exact PT.imp (pt_cmp (pc_notN (ha.pe X W b' x g c1))) fun σ H Q h => rd σ H _ h

/-! ### and, or -/
theorem Post.more {α β : Type} {K : W.Frag} {W : WX} {B : Base} {F : FF} {H : Hp} {σ : L2.St} {tmp tmp2 : List Addr} {rep : FF → Hp → β → α → List Addr → Prop} {r : R α} {Q : β → Hp → Prop} (P : Post K G W B F H σ tmp rep r Q) (hc : ∀ c, tmp.count c ≤ tmp2.count c) : Post K G W B F H σ tmp2 rep r Q := by
  cases r with
  | bad => exact P
  | ok a Γ => exact fun v F' H' fp h1 h2 h3 h4 => P v F' H' fp (h1.less fun a => by rw [List.count_append, List.count_append]; have := hc a; omega) h2 h3 h4
  | ex x Γ => exact fun c d F' H' h1 h2 h3 h4 => P c d F' H' (h1.less hc) h2 h3 h4
theorem ok_and {a b : E} (ha : Ok G a) (hb : Ok G b) : Ok G (.and a b) := by
  have sh : ∀ {N sc b'} {e : Expr}, chkE N sc b' (.and a b) e = true → ∃ x y r pos, e = .BoolOp .And (x :: y :: r) pos ∧ chkE N sc b' a x = true ∧ ((r = [] ∧ chkE N sc b' b y = true) ∨ chkE N sc b' b (.BoolOp .And (y :: r) pos) = true) := by
    intro N sc b' e c
    unfold chkE at c
    split at c
    · rename_i x y r pos
      rw [Bool.and_eq_true] at c
      refine ⟨x, y, r, pos, rfl, c.1, ?_⟩
      have c2 := c.2
      split at c2
      · rename_i hr
        exact .inl ⟨by simpa using hr, c2⟩
      · exact .inr c2
    · cases c
  have rd : ∀ {K : W.Frag} {W : WX} σ H Q, TE' K G W (.and a b) σ H Q → tAndV (TE' K G W a) (TE' K G W b) σ H Q := by
    rintro K W σ H Q ⟨B, F, Γ, tmp, rel, P⟩
    refine ⟨B, F, Γ, tmp, rel, (P.bind (rep := rT K) (fp := [])).imp ?_⟩
    rintro x H1 ⟨ta, Γ1, F1, fa, rel1, ra, sH1, sF1, P1⟩
    split at P1
    · obtain ⟨rfl, rfl⟩ := bl_inv ra
      exact ⟨true, rfl, by rw [if_pos rfl]; exact ⟨B, F1, Γ1, _, rel1, P1⟩⟩
    · obtain ⟨rfl, rfl⟩ := bl_inv ra
      exact ⟨false, rfl, by rw [if_neg Bool.false_ne_true]; exact P1.flatv rel1 (fun c => by simp only [List.count_append]; omega) (.bl _)⟩
    · exact P1.elim
  have pe : ∀ X W b' e, Gd X G W b' → chkE X.N X.env.scope b' (.and a b) e = true → PE X e (TE' X.K G W (.and a b)) := by
    intro X W b' e g c
    obtain ⟨x, y, r, pos, rfl, c1, c2⟩ := sh c
    rcases c2 with ⟨rfl, c2⟩ | c2
    · exact PE.imp (pe_and (ha.pe X W b' x g c1) (pe_one (hb.pe X W b' y g c2))) rd
    · exact PE.imp (pe_and (ha.pe X W b' x g c1) (hb.pe X W b' _ g c2)) rd
  have pw : ∀ X W b' op vs pos, Gd X G W b' → chkE X.N X.env.scope b' (.and a b) (.BoolOp op vs pos) = true → PW X (.BoolOp op vs pos) (tB (TE' X.K G W (.and a b))) := by
    intro X W b' op vs pos g c
    obtain ⟨x, y, r, pos, e, c1, c2⟩ := sh c
    cases e
    have im : ∀ σ H Q, tB (TE' X.K G W (.and a b)) σ H Q → tAnd (tB (TE' X.K G W a)) (tB (TE' X.K G W b)) σ H Q := by
      intro σ H Q h
      obtain ⟨B, F, Γ, tmp, rel, P⟩ := rd σ H _ h
      refine ⟨B, F, Γ, tmp, rel, P.imp ?_⟩
      rintro v H' ⟨c, rfl, q⟩
      refine ⟨c, rfl, ?_⟩
      cases c with
      | true => rw [if_pos rfl] at q ⊢; exact q
      | false =>
        rw [if_neg Bool.false_ne_true] at q ⊢
        obtain ⟨d, e, q⟩ := q
        cases e; exact q
    rcases c2 with ⟨rfl, c2⟩ | c2
    · exact PW.imp (pw_and (ha.pt X W b' x g c1) (pw_and1 (hb.pt X W b' y g c2))) im
    · exact PW.imp (pw_and (ha.pt X W b' x g c1) (hb.pw X W b' _ _ _ g c2)) im
  refine ⟨pe, fun X W b' e g c => ?_, pw⟩
  obtain ⟨x, y, r, pos, rfl, c1, c2⟩ := sh c
  exact (pw X W b' _ _ _ g c).pt
theorem ok_or {a b : E} (ha : Ok G a) (hb : Ok G b) : Ok G (.or a b) := by
  have sh : ∀ {N sc b'} {e : Expr}, chkE N sc b' (.or a b) e = true → ∃ x y r pos, e = .BoolOp .Or (x :: y :: r) pos ∧ chkE N sc b' a x = true ∧ ((r = [] ∧ chkE N sc b' b y = true) ∨ chkE N sc b' b (.BoolOp .Or (y :: r) pos) = true) := by
    intro N sc b' e c
    unfold chkE at c
    split at c
    · rename_i x y r pos
      rw [Bool.and_eq_true] at c
      refine ⟨x, y, r, pos, rfl, c.1, ?_⟩
      have c2 := c.2
      split at c2
      · rename_i hr
        exact .inl ⟨by simpa using hr, c2⟩
      · exact .inr c2
    · cases c
  have rd : ∀ {K : W.Frag} {W : WX} σ H Q, TE' K G W (.or a b) σ H Q → tOrV (TE' K G W a) (TE' K G W b) σ H Q := by
    rintro K W σ H Q ⟨B, F, Γ, tmp, rel, P⟩
    refine ⟨B, F, Γ, tmp, rel, (P.bind (rep := rT K) (fp := [])).imp ?_⟩
    rintro x H1 ⟨ta, Γ1, F1, fa, rel1, ra, sH1, sF1, P1⟩
    split at P1
    · obtain ⟨rfl, rfl⟩ := bl_inv ra
      exact ⟨false, rfl, by rw [if_neg Bool.false_ne_true]; exact ⟨B, F1, Γ1, _, rel1, P1⟩⟩
    · obtain ⟨rfl, rfl⟩ := bl_inv ra
      exact ⟨true, rfl, by rw [if_pos rfl]; exact P1.flatv rel1 (fun c => by simp only [List.count_append]; omega) (.bl _)⟩
    · exact P1.elim
  have pe : ∀ X W b' e, Gd X G W b' → chkE X.N X.env.scope b' (.or a b) e = true → PE X e (TE' X.K G W (.or a b)) := by
    intro X W b' e g c
    obtain ⟨x, y, r, pos, rfl, c1, c2⟩ := sh c
    rcases c2 with ⟨rfl, c2⟩ | c2
    · exact PE.imp (pe_or (ha.pe X W b' x g c1) (pe_one (hb.pe X W b' y g c2))) rd
    · exact PE.imp (pe_or (ha.pe X W b' x g c1) (hb.pe X W b' _ g c2)) rd
  have pw : ∀ X W b' op vs pos, Gd X G W b' → chkE X.N X.env.scope b' (.or a b) (.BoolOp op vs pos) = true → PW X (.BoolOp op vs pos) (tB (TE' X.K G W (.or a b))) := by
    intro X W b' op vs pos g c
    obtain ⟨x, y, r, pos, e, c1, c2⟩ := sh c
    cases e
    have im : ∀ σ H Q, tB (TE' X.K G W (.or a b)) σ H Q → tOr (tB (TE' X.K G W a)) (tB (TE' X.K G W b)) σ H Q := by
      intro σ H Q h
      obtain ⟨B, F, Γ, tmp, rel, P⟩ := rd σ H _ h
      refine ⟨B, F, Γ, tmp, rel, P.imp ?_⟩
      rintro v H' ⟨c, rfl, q⟩
      refine ⟨c, rfl, ?_⟩
      cases c with
      | false => rw [if_neg Bool.false_ne_true] at q ⊢; exact q
      | true =>
        rw [if_pos rfl] at q ⊢
        obtain ⟨d, e, q⟩ := q
        cases e; exact q
    rcases c2 with ⟨rfl, c2⟩ | c2
    · exact PW.imp (pw_or (ha.pt X W b' x g c1) (pw_or1 (hb.pt X W b' y g c2))) im
    · exact PW.imp (pw_or (ha.pt X W b' x g c1) (hb.pw X W b' _ _ _ g c2)) im
  refine ⟨pe, fun X W b' e g c => ?_, pw⟩
  obtain ⟨x, y, r, pos, rfl, c1, c2⟩ := sh c
  exact (pw X W b' _ _ _ g c).pt
end
end Tv

namespace Tv
open PySem PySem.Spec PyProof.Rows L2

/-! ### arguments -/
theorem star_of {e : Expr} {es : List Expr} {env : PySem.Env} (h : notStar e = true) : starEach (e :: es) env = (false, eval e env) :: starEach es env := by
  cases e with
  | Starred a p => cases h
  | _ => rfl
theorem plain_of {N sc b} {env : PySem.Env} {pos : Pos} : ∀ {m : Es} {es : List Expr}, chkEs N sc b m es = true → (backTo pos (starEach es env)).any (·.1) = false
  | .nil, [], _ => rfl
  | .nil, _ :: _, h => by simp [chkEs] at h
  | .cons _ _, [], h => by simp [chkEs] at h
  | .cons m ms, e :: es, h => by
    simp only [chkEs, Bool.and_eq_true] at h
    rw [star_of h.1.2]
    show ((false, _) :: backTo pos (starEach es env)).any (·.1) = false
    rw [List.any_cons, plain_of h.2]; rfl
section
variable {G : Glob}
theorem ok_nil : OkEs G .nil := by
  intro X W b es g c
  cases es with
  | nil =>
    refine PA.imp pa_nil fun σ H Q h => ?_
    obtain ⟨B, F, Γ, tmp, rel, P⟩ := h
    exact P [] F H [] (by simpa using rel) .nil Sub.refl SubF.refl
  | cons e es => simp [chkEs] at c
theorem ok_cons {m : E} {ms : Es} (h1 : Ok G m) (h2 : OkEs G ms) : OkEs G (.cons m ms) := by
  intro X W b es g c
  cases es with
  | nil => simp [chkEs] at c
  | cons e es =>
    simp only [chkEs, Bool.and_eq_true] at c
    refine PA.imp (pa_cons (h1.pe X W b e g c.1.1) (h2 X W b es g c.2) (star_of c.1.2)) fun σ H Q h => ?_
    obtain ⟨B, F, Γ, tmp, rel, P⟩ := h
    refine ⟨B, F, Γ, tmp, rel, (Post.bind (rep := rT X.K) (fp := []) P).imp ?_⟩
    rintro x H1 ⟨t, Γ1, F1, fa, rel1, ra, sH1, sF1, P1⟩
    refine ⟨B, F1, Γ1, fa ++ tmp, rel1, (Post.bind (rep := rTs X.K) (fp := fa) P1).imp ?_⟩
    rintro xs H2 ⟨ts, Γ2, F2, fb, rel2, rb, sH2, sF2, P2⟩
    refine P2 (x :: xs) F2 H2 (fa ++ fb) (rel2.less fun a => by simp only [List.count_append]; omega) (.cons (ra.grow sF2 sH2) rb) Sub.refl SubF.refl
/-- arguments, then what is made of them -/
theorem args {K : W.Frag} {W : WX} {m : Es} {f : List T → Env → R T} {r : List V → Hp → VK → Prop}
    (h : ∀ B (F : FF) H σ Γ tmp fp xs ts Q, Rel K B F H σ Γ (fp ++ tmp) → RpTs K F H xs ts fp → Post K G W B F H σ tmp (rT K) (f ts Γ) Q → r xs H Q) :
    ∀ σ H Q, TM K G W (rT K) (fun Γ => (evEs G.cl G.con m Γ).bind fun ts Γ1 => f ts Γ1) σ H Q → TA' K G W m σ H fun vs H1 => r vs H1 Q := by
  rintro σ H Q ⟨B, F, Γ, tmp, rel, P⟩
  refine ⟨B, F, Γ, tmp, rel, (Post.bind (rep := rTs K) (fp := []) P).imp ?_⟩
  rintro x H1 ⟨ta, Γ1, F1, fa, rel1, ra, sH1, sF1, P1⟩
  exact h B F1 H1 σ Γ1 tmp fa x ta Q rel1 ra P1

/-! ### displays -/
theorem ok_lst {m : Es} (hm : OkEs G m) : Ok G (.lst m) := by
  have sh : ∀ {N sc b'} {e : Expr}, chkE N sc b' (.lst m) e = true → ∃ xs pos, e = .List xs pos ∧ chkEs N sc b' m xs = true := by
    intro N sc b' e c
    unfold chkE at c
    split at c
    · exact ⟨_, _, rfl, c⟩
    · cases c
  have pe : ∀ X W b' e, Gd X G W b' → chkE X.N X.env.scope b' (.lst m) e = true → PE X e (TE' X.K G W (.lst m)) := by
    intro X W b' e g c
    obtain ⟨xs, pos, rfl, c1⟩ := sh c
    refine PE.imp (pe_lst (hm X W b' xs g c1)) fun σ H Q h => ?_
    refine args (r := fun xs H Q => xs.length ≤ sizeLine ∧ ∀ p, H p = none → Q (.ref p) (upd H p (.lst xs))) (fun B F H σ Γ tmp fp xs ts Q rel ra P => ?_) σ H Q h
    split at P
    · rename_i hc
      rw [decide_eq_true_eq] at hc
      exact ⟨by rw [ra.length, sizeLine_eq]; exact hc, P.newL rel ra fun c => by simp only [List.count_append]; omega⟩
    · exact P.elim
  refine ⟨pe, fun X W b' e g c => ?_, pw_no fun N sc b op vs pos => rfl⟩
  obtain ⟨xs, pos, rfl, c1⟩ := sh c
  exact tB_of (pe X W b' _ g c) fun _ => rfl
theorem ok_tup {m : Es} (hm : OkEs G m) : Ok G (.tup m) := by
  have sh : ∀ {N sc b'} {e : Expr}, chkE N sc b' (.tup m) e = true → ∃ xs k pos, e = .Tuple xs k pos ∧ chkEs N sc b' m xs = true := by
    intro N sc b' e c
    unfold chkE at c
    split at c
    · exact ⟨_, _, _, rfl, c⟩
    · cases c
  have pe : ∀ X W b' e, Gd X G W b' → chkE X.N X.env.scope b' (.tup m) e = true → PE X e (TE' X.K G W (.tup m)) := by
    intro X W b' e g c
    obtain ⟨xs, k, pos, rfl, c1⟩ := sh c
    refine PE.imp (pe_tup (hm X W b' xs g c1)) fun σ H Q h => ?_
    refine args (r := fun xs H Q => xs.length ≤ sizeLine ∧ ∀ p, H p = none → Q (.ref p) (upd H p (.tup xs))) (fun B F H σ Γ tmp fp xs ts Q rel ra P => ?_) σ H Q h
    split at P
    · rename_i hc
      rw [decide_eq_true_eq] at hc
      exact ⟨by rw [ra.length, sizeLine_eq]; exact hc, P.newT rel ra fun c => by simp only [List.count_append]; omega⟩
    · exact P.elim
  refine ⟨pe, fun X W b' e g c => ?_, pw_no fun N sc b op vs pos => rfl⟩
  obtain ⟨xs, k, pos, rfl, c1⟩ := sh c
  exact tB_of (pe X W b' _ g c) fun _ => rfl

theorem ok_dic0 {t : Bool} : Ok G (.dic0 t) := by
  have sh : ∀ {N sc b'} {e : Expr}, chkE N sc b' (.dic0 t) e = true → ∃ pos, e = .Dict [] [] pos := by
    intro N sc b' e c
    unfold chkE at c
    split at c
    · exact ⟨_, rfl⟩
    · cases c
  have pe : ∀ X W b' e, Gd X G W b' → chkE X.N X.env.scope b' (.dic0 t) e = true → PE X e (TE' X.K G W (.dic0 t)) := by
    intro X W b' e g c
    obtain ⟨pos, rfl⟩ := sh c
    cases t with
    | false =>
      refine PE.imp pe_dnewK fun σ H Q h => ?_
      obtain ⟨B, F, Γ, tmp, rel, P⟩ := h
      intro p hp
      exact P (.ref p) F _ [p] (rel.alloc hp rfl) (.dc (f := []) (.inl upd_same) (DH.k [] rfl .nil) .nil) (upd_sub hp) SubF.refl
    | true =>
      refine PE.imp pe_dnewT fun σ H Q h => ?_
      obtain ⟨B, F, Γ, tmp, rel, P⟩ := h
      intro p hp
      exact P (.ref p) F _ [p] (rel.alloc hp rfl) (.dc (f := []) (.inl upd_same) (DH.t [] rfl .nil) .nil) (upd_sub hp) SubF.refl
  refine ⟨pe, fun X W b' e g c => ?_, pw_no fun N sc b op vs pos => rfl⟩
  obtain ⟨pos, rfl⟩ := sh c
  exact tB_of (pe X W b' _ g c) fun _ => rfl
end

/-! ### behind a call -/
theorem hideA_nil {H : Hp} : hideA H [] = H := by funext a; simp [hideA]
section
variable {K : W.Frag} {G : Glob} {W : WX} {B : Base} {F F' : FF} {H H' F0 : Hp} {σ : L2.St} {Γ : Env} {tmp fp : List Addr} {t : T} {v : V} {Q : VK}
/-- what the call told, for the caller: where nothing was lent -/
theorem Post.callA (P : Post K G W B F H σ tmp (rT K) (.ok t Γ) Q) (rel : Rel K B F H σ Γ tmp) (sH : Sub H H') (c : CallEnd H F.f F' H') (rt : RpT K F' H' v t fp) (hc : ∀ a, fp.count a ≤ 1) (hf : ∀ a ∈ fp, F'.f a = none ∧ H a = none ∧ H' a ≠ none) : Q v H' := by
  have r2 := rel.called (f1 := fp) sH rel.sub c hc hf
  refine P v _ H' fp r2 (rt.moveA (Sub.of fun a o e => ?_) (Sub.of (behind_n rel rel.sub c))) sH (behind_sub rel)
  by_cases q : H a = none
  · rw [behind_f_new q]; exact e
  · rw [behind_f_old q, ← c.newF a q]; exact e
/-- .. where something was -/
theorem Post.callB (P : Post K G W B F H σ tmp (rT K) (.ok t Γ) Q) (rel : Rel K B F H σ Γ tmp) (sH : Sub H H') (c : CallEnd H H F' H') (rt : RpT K F' H' v t fp) (hcl : t.cl = true) (hc : ∀ a, fp.count a ≤ 1) (hf : ∀ a ∈ fp, F'.f a = none ∧ H a = none ∧ H' a ≠ none) : Q v H' := by
  have r2 := rel.called (f1 := fp) sH Sub.refl c hc hf
  exact P v _ H' fp r2 (rt.move (behind_stb rel (fun a o e _ => e) Sub.refl c) (behind_n rel Sub.refl c) hcl) sH (behind_sub rel)
theorem Post.callX {α β : Type} {rep : FF → Hp → β → α → List Addr → Prop} {Q : β → Hp → Prop} {x : Exn} {d : Option Addr} (P : Post K G W B F H σ tmp rep (.ex x Γ) Q) (rel : Rel K B F H σ Γ tmp) (sH : Sub H H') (h0 : Sub F0 H) (hs : Stb H F0) (c : CallEnd H F0 F' H') {cv : Value} (hx : G.exr x cv d F' H') : W cv d σ H' := by
  have r2 := rel.called (f1 := []) sH h0 c (fun a => by simp) (fun a m => by simp at m)
  exact P cv d _ H' (by simpa using r2) sH (behind_sub rel) (G.exst x cv d _ _ H' (behind_stb rel hs h0 c) hx)
end
theorem toVs {K : W.Frag} {F0 H : Hp} {xs : List V} {ds : List D} (h : RpDs K F0 xs ds) : RpTs K ⟨F0, stF F0⟩ H xs (ds.map .v) [] := RpDs.toV (F := ⟨F0, stF F0⟩) h
theorem noBs_v (ds : List D) : T.noBs (ds.map .v) = true := by
  rw [noBs_all, List.all_map, List.all_eq_true]
  intro d _; rfl
/-- a call of the small run: what its promise asks, what comes of it -/
theorem call_spM {K : W.Frag} {G : Glob} {W : WX} {B : Base} {F : FF} {H : Hp} {σ : L2.St} {Γ : Env} {tmp fa : List Addr} {f : String} {xs : List V} {ts : List T} {Q : VK} (rel : Rel K B F H σ Γ (fa ++ tmp)) (ra : RpTs K F H xs ts fa)
    (P : Post K G W B F H σ tmp (rT K) (callT ts (G.cl f ((T.ers ts).map .v)) Γ) Q) : spM K G [] f xs H Q (WE W σ) := by
  unfold callT at P
  cases nb : T.noBs ts with
  | true =>
    have rd := ra.freeze rel.sub rel.nsub nb
    have rel2 := rel.freezeTmp (f1 := fa) (g := tmp) fun c => by simp only [List.count_append]; omega
    have P2 := P.later (H1 := H) Sub.refl (addF_sub (f := fa) rel.sub rel.nsub)
    refine ⟨_, _, [], by rw [hideA_nil]; exact rel2.sub, rel2.stf, toVs rd, noBs_v _, fun a => by simp, fun a m => by simp at m, ?_⟩
    cases ec : G.cl f ((T.ers ts).map .v) with
    | bad => rw [ec] at P; exact P.elim
    | ret t os =>
      rw [ec] at P2
      cases os with
      | cons _ _ => exact P2.elim
      | nil =>
        simp only [nb, Bool.true_or, if_true] at P2
        rw [hideA_nil]
        intro v F' H' fp vo fo sH c rt nbt ep ro nbo hc hf
        cases ep
        cases ro
        exact P2.callA rel2 sH c rt (fun a => by simpa using hc a) (fun a m => hf a (by simpa using m))
    | ex x os =>
      rw [ec] at P2
      cases os with
      | cons _ _ => exact P2.elim
      | nil =>
        rw [hideA_nil]
        intro cv d F' H' vo fo sH c ep ro nbo hc hf hx
        exact P2.callX rel2 sH rel2.sub rel2.stf c hx
  | false =>
    have rd := rel.rds ra
    have rel2 := rel.less (tmp' := tmp) fun c => by simp only [List.count_append]; omega
    refine ⟨H, _, [], by rw [hideA_nil]; exact Sub.refl, fun a o e _ => e, toVs rd, noBs_v _, fun a => by simp, fun a m => by simp at m, ?_⟩
    cases ec : G.cl f ((T.ers ts).map .v) with
    | bad => rw [ec] at P; exact P.elim
    | ret t os =>
      rw [ec] at P
      cases os with
      | cons _ _ => exact P.elim
      | nil =>
        simp only [nb, Bool.false_or] at P
        split at P
        · rename_i hcl
          rw [hideA_nil]
          intro v F' H' fp vo fo sH c rt nbt ep ro nbo hc hf
          cases ep
          cases ro
          exact P.callB rel2 sH c rt hcl (fun a => by simpa using hc a) (fun a m => hf a (by simpa using m))
        · exact P.elim
    | ex x os =>
      rw [ec] at P
      cases os with
      | cons _ _ => exact P.elim
      | nil =>
        rw [hideA_nil]
        intro cv d F' H' vo fo sH c ep ro nbo hc hf hx
        exact P.callX rel2 sH Sub.refl (fun a o e _ => e) c hx
section
variable {G : Glob}
theorem chkEs_split {N sc b m} {y : Expr} {ys : List Expr} (c : chkEs N sc b m (y :: ys) = true) : ∃ m1 ms, m = .cons m1 ms ∧ chkEs N sc b ms ys = true ∧ notStar y = true := by
  cases m with
  | nil => simp [chkEs] at c
  | cons m1 ms => simp only [chkEs, Bool.and_eq_true] at c; exact ⟨m1, ms, rfl, c.2, c.1.2⟩
theorem ok_call {f : String} {m : Es} (hm : OkEs G m) : Ok G (.call f m) := by
  have sh : ∀ {N sc b'} {e : Expr}, chkE N sc b' (.call f m) e = true → ∃ p y ys pos, e = .Call (.Name (Str.ofString f) p) (y :: ys) [] pos ∧ f ∈ b'.fns ∧ glB sc (Str.ofString f) = true ∧ (Str.ofString f == ("__debug__" : Str)) = false ∧ chkEs N sc b' m (y :: ys) = true := by
    intro N sc b' e c
    unfold chkE at c
    split at c
    · simp only [Bool.and_eq_true, decide_eq_true_eq, Bool.not_eq_true', List.contains_iff_mem] at c
      obtain ⟨⟨⟨⟨c1, c2⟩, c3⟩, c4⟩, c5⟩ := c
      subst c1
      exact ⟨_, _, _, _, rfl, c2, c3, c4, c5⟩
    · cases c
  have pe : ∀ X W b' e, Gd X G W b' → chkE X.N X.env.scope b' (.call f m) e = true → PE X e (TE' X.K G W (.call f m)) := by
    intro X W b' e g c
    obtain ⟨p, y, ys, pos, rfl, c1, c2, c3, c4⟩ := sh c
    obtain ⟨a, k, f1, ⟨fd, ps, f2, f3, f4⟩, f5⟩ := g.fn f c1
    obtain ⟨m1, ms, e1, e2, e3⟩ := chkEs_split c4
    have hg : Gl X (Str.ofString f) := (of_decide_eq_true c2 : X.env.scope.names.lookup (Str.ofString f) = some .globalImplicit)
    refine PE.imp (pe_callS (E := WE W) f4 f5 hg f1 f2 f3 (fun σ => passAt g.tk σ) (hm X W b' (y :: ys) g c4) c3 (star_of e3) (plain_of e2)) fun σ H Q h => ?_
    obtain ⟨B, F, Γ, tmp, rel, P⟩ := h
    refine ⟨B, F, Γ, tmp, rel, (Post.bind (rep := rTs X.K) (fp := []) P).imp ?_⟩
    rintro xs H1 ⟨ts, Γ1, F1, fa, rel1, ra, sH1, sF1, P1⟩
    show spM X.K G [] f xs H1 Q (WE W σ)
    exact call_spM rel1 ra P1
  refine ⟨pe, fun X W b' e g c => ?_, pw_no fun N sc b op vs pos => rfl⟩
  obtain ⟨p, y, ys, pos, rfl, c1, c2, c3, c4⟩ := sh c
  exact tB_of (pe X W b' _ g c) fun _ => rfl
end
end Tv

namespace Tv
open PySem PySem.Spec PyProof.Rows L2

/-! ### calls of methods, of classes: what is raised is wished for at the caller's slots -/
theorem form_of {N sc b} {env : PySem.Env} {pos : Pos} : ∀ {m : Es} {es : List Expr}, chkEs N sc b m es = true → ((backTo pos (starEach es env)).all (fun x => !x.1)) = true ∧ (backTo pos (starEach es env)).length = es.length
  | .nil, [], _ => ⟨rfl, rfl⟩
  | .nil, _ :: _, h => by simp [chkEs] at h
  | .cons _ _, [], h => by simp [chkEs] at h
  | .cons m ms, e :: es, h => by
    simp only [chkEs, Bool.and_eq_true] at h
    rw [star_of h.1.2]
    obtain ⟨h1, h2⟩ := form_of (env := env) (pos := pos) h.2
    show ((false, _) :: backTo pos (starEach es env)).all _ = true ∧ ((false, _) :: backTo pos (starEach es env)).length = _
    rw [List.all_cons, h1, List.length_cons, h2]
    exact ⟨rfl, rfl⟩
theorem meth_tree {o : Expr} {m : Str} {apos pos : Pos} {args : List Expr} {env : PySem.Env} (hb : attributeBase o m env (eval o env) = eval o env) (hl : apos.endLine = pos.line) (hn : args.length < 29)
    (hs : ((backTo pos (starEach args env)).all (fun x => !x.1)) = true) :
    eval (.Call (.Attribute o m apos) args [] pos) env = (do
      let ov ← eval o env
      standAt apos.atName
      let (f, first) ← holding [ov] (getMethod ov m (do return (← importBound o env).getD true))
      callWith pos f first (backTo pos (starEach args env)) (backToKw pos (keywordEach [] env))) := by
  refine mcall_of hb fun ov => ?_
  have hf : methodCallForm (args.length + ([] : List Keyword).length) (backTo pos (starEach args env)) (backToKw pos (keywordEach [] env)) = true := by
    unfold methodCallForm
    rw [hs]
    show (true && true && decide (args.length + 0 + 0 < 30)) = true
    simp; omega
  unfold methodCall methodCallPos calleeOf
  rw [hf]
  have h2 : (apos.endLine == pos.line) = true := by rw [hl]; exact beq_self_eq_true _
  simp only [if_true, h2, Bool.not_true, Bool.false_or, pure_bind]
section
variable {X : Cx} {CX : CXT} {k : Nat} {f C : Addr} {fd : FuncData} {ps : List Str} {sp : Sp} {E : L2.St → XK} {x m : Str} {p pos apos : Pos} {e o : Expr} {es : List Expr} {ta : TE} {t : TA}
def tMethS (C : Addr) (m : Str) (sp : Sp) (E : L2.St → XK) (ta : TE) (t : TA) : TE := fun σ H Q => ta σ H fun x H1 => ∃ a dx fs, x = .ref a ∧ H1 a = some (.ins C dx fs) ∧ fs.lookup m = none ∧
  t σ H1 fun vs H2 => sp (x :: vs) H2 Q (E σ)
theorem pe_methS {pl : Sem Bool} (he : PE X o ta) (c : Cls X.K C) (hm : Meth X.K C m f) (F : FnOk X.prog X.w X.K X.mg X.base CX k f fd ps sp) (hr : Room k X.A) (hb : Binds X.K fd ps []) (hx : ∀ σ, PassesAt CX X σ (E σ)) (ha : PA X (e :: es) t)
    (hst : starEach (e :: es) X.env = (false, eval e X.env) :: starEach es X.env) (hpl : (backTo pos (starEach es X.env)).any (·.1) = false)
    (ht : eval (.Call (.Attribute o m apos) (e :: es) [] pos) X.env = (do
      let ov ← eval o X.env
      standAt apos.atName
      let (f, first) ← holding [ov] (getMethod ov m pl)
      callWith pos f first (backTo pos (starEach (e :: es) X.env)) (backToKw pos (keywordEach [] X.env)))) :
    PE X (.Call (.Attribute o m apos) (e :: es) [] pos) (tMethS C m sp E ta t) := by
  refine ⟨fun pins s σ H Q I h => ?_⟩
  refine PySem.W.methodCall_KW (pl := pl) (thn (he.run pins s σ H _ I h) fun u s1 ⟨x, H1, I1, rx, a, dx, fs, ex, ea, l, q⟩ => ?_) ht
  subst ex
  obtain rfl : u = Value.ref a := rx
  refine getmeth_ok I1 ea c hm l ?_
  refine PySem.W.callWith_K (first := [.ref a]) (h₀ := X.base) I.ok.mod.kin hm.kp (thn (ha.run pos pins s1 σ H1 _ I1 q) fun us s2 ⟨vs, H2, I2, r, q2⟩ => ⟨I2.kIn, ?_⟩) hst hpl
  exact run_fnS (us := .ref a :: us) (vs := .ref a :: vs) F hr hb (hx σ) I2 (.cons rfl r) q2
theorem pe_methS0 {pl : Sem Bool} (he : PE X o ta) (c : Cls X.K C) (hm : Meth X.K C m f) (F : FnOk X.prog X.w X.K X.mg X.base CX k f fd ps sp) (hr : Room k X.A) (hb : Binds X.K fd ps []) (hx : ∀ σ, PassesAt CX X σ (E σ))
    (ht : eval (.Call (.Attribute o m apos) [] [] pos) X.env = (do
      let ov ← eval o X.env
      standAt apos.atName
      let (f, first) ← holding [ov] (getMethod ov m pl)
      callWith pos f first (backTo pos (starEach [] X.env)) (backToKw pos (keywordEach [] X.env)))) :
    PE X (.Call (.Attribute o m apos) [] [] pos) (tMethS C m sp E ta tNil) := by
  refine ⟨fun pins s σ H Q I h => ?_⟩
  refine PySem.W.methodCall_KW (pl := pl) (thn (he.run pins s σ H _ I h) fun u s1 ⟨x, H1, I1, rx, a, dx, fs, ex, ea, l, q⟩ => ?_) ht
  subst ex
  obtain rfl : u = Value.ref a := rx
  refine getmeth_ok I1 ea c hm l ?_
  exact PySem.W.callWith_K0 (first := [.ref a]) I1.kIn hm.kp (run_fnS (us := [.ref a]) (vs := [.ref a]) F hr hb (hx σ) I1 (.cons rfl .nil) q)
def tMakeS (C : Addr) (sp : Sp) (E : L2.St → XK) (t : TA) : TE := fun σ H Q => t σ H fun vs H1 => ∀ x dx, H1 x = none → H1 dx = none → dx ≠ x →
  sp (.ref x :: vs) (upd (upd H1 dx (.own x)) x (.ins C dx [])) (fun v H2 => v = .non ∧ Q (.ref x) H2) (E σ)
theorem run_makeS {pins : List (Addr × Obj)} {σ : L2.St} {H : Hp} {s : Shared} {Q : VK} {us : List Value} {vs : List V} (M : Mk X.K C f) (F : FnOk X.prog X.w X.K X.mg X.base CX k f fd ps sp) (hr : Room (k + 1) X.A) (hb : Binds X.K fd ps [])
    (hx : PassesAt CX X σ (E σ)) (hx2 : ∀ {H1 H2 : Hp} {s1 : Shared} {e s'}, Inv X pins σ H1 s1 → CX X.stack H1 s1 (E σ) e s' → X.xe e s') (I : Inv X pins σ H s) (r : Vals vs us)
    (h : ∀ x dx, H x = none → H dx = none → dx ≠ x → sp (.ref x :: vs) (upd (upd H dx (.own x)) x (.ins C dx [])) (fun v H2 => v = .non ∧ Q (.ref x) H2) (E σ)) :
    wpAny (model X.prog X.w) X.A (call (.ref C) us) (EP X pins σ Q) X.xe s := by
  have hq := h (s.heap.objs.size + 1) s.heap.objs.size (I.hok.fresh (Nat.le_succ _)) (I.hok.fresh (Nat.le_refl _)) (Nat.ne_of_lt (Nat.lt_succ_self _))
  have I2 := Inv.made (C := C) I
  have r2 : Vals (V.ref (s.heap.objs.size + 1) :: vs) (Value.ref (s.heap.objs.size + 1) :: us) := .cons rfl r
  have hl : (Value.ref (s.heap.objs.size + 1) :: us).length = ps.length := by
    have e := r2.length
    rw [F.len _ _ _ _ hq] at e
    exact e.symm
  have b := hb _ (Value.ref (s.heap.objs.size + 1) :: us) I2.kIn (by rw [List.append_nil]; exact hl)
  rw [List.append_nil] at b
  refine wpAny_call (make_map (f := f) I.kIn M.makes M.init (beq_iff_eq.mp M.fn) (codeAny_mono (F.run _ X.stack _ _ ⟨Value.ref (s.heap.objs.size + 1) :: us, []⟩ (Value.ref (s.heap.objs.size + 1) :: us) _ _ (E σ) (hr.make C us [])
    (I2.env0.make C us []) b r2 hq) fun r s' hq' => ?_))
  cases r with
  | error e => exact hx pins _ _ e s' I2 hq'
  | ok fl =>
    cases fl with
    | ret u =>
      obtain ⟨v, H', I3, rv, ev, q3⟩ := I2.after hq'
      subst ev
      exact ⟨rv, ⟨V.ref (s.heap.objs.size + 1), H', I3, rfl, q3⟩⟩
    | next => exact False.elim hq'
    | brk => exact False.elim hq'
    | cont => exact False.elim hq'
theorem pe_makeS (M : Mk X.K C f) (F : FnOk X.prog X.w X.K X.mg X.base CX k f fd ps sp) (hr : Room (k + 1) X.A) (hg : Gl X x) (hm : X.mg x = some (.ref C)) (hb : Binds X.K fd ps []) (hx : ∀ σ, PassesAt CX X σ (E σ))
    (ha : PA X (e :: es) t) (hdb : (x == ("__debug__" : Str)) = false) (he : starEach (e :: es) X.env = (false, eval e X.env) :: starEach es X.env) (hpl : (backTo pos (starEach es X.env)).any (·.1) = false) :
    PE X (.Call (.Name x p) (e :: es) [] pos) (tMakeS C sp E t) := by
  refine ⟨fun pins s σ H Q I h => ?_⟩
  refine wpAny_Call_Name_kw (ld_glob I hg hm ?_ hdb)
  refine PySem.W.callWith_K (h₀ := X.base) I.ok.mod.kin M.kp (thn (ha.run pos pins s σ H _ I h) fun us s1 ⟨vs, H1, I1, r, q⟩ => ⟨I1.kIn, ?_⟩) he hpl
  exact run_makeS M F hr hb (hx σ) (fun {H1 _ s1 e s'} I c => hx σ pins H1 s1 e s' I c) I1 r q
theorem pe_makeS0 (M : Mk X.K C f) (F : FnOk X.prog X.w X.K X.mg X.base CX k f fd ps sp) (hr : Room (k + 1) X.A) (hg : Gl X x) (hm : X.mg x = some (.ref C)) (hb : Binds X.K fd ps []) (hx : ∀ σ, PassesAt CX X σ (E σ))
    (hdb : (x == ("__debug__" : Str)) = false) : PE X (.Call (.Name x p) [] [] pos) (tMakeS C sp E tNil) := by
  refine ⟨fun pins s σ H Q I h => ?_⟩
  refine wpAny_Call_Name_kw (ld_glob I hg hm ?_ hdb)
  exact PySem.W.callWith_K0 I.kIn M.kp (run_makeS (us := []) M F hr hb (hx σ) (fun {H1 _ s1 e s'} I c => hx σ pins H1 s1 e s' I c) I .nil h)
end

/-! ### names -/
theorem ofString_inj {a b : String} (h : Str.ofString a = Str.ofString b) : a = b := by
  have e := congrArg TL.tl h
  rw [TL.tl_ofString, TL.tl_ofString] at e
  have inj : ∀ {xs ys : List Char}, xs.map Char.toNat = ys.map Char.toNat → xs = ys := by
    intro xs
    induction xs with
    | nil => intro ys e; cases ys with
      | nil => rfl
      | cons _ _ => cases e
    | cons x xs ih => intro ys e; cases ys with
      | nil => cases e
      | cons y ys =>
        simp only [List.map_cons, List.cons.injEq] at e
        have : x = y := Char.ext (by
          have := e.1
          unfold Char.toNat at this
          exact UInt32.toNat_inj.mp this)
        rw [this, ih e.2]
  exact String.ext (inj e)
/-- the attribute of the name -/
theorem fld_ok {K : W.Frag} {F : FF} {H : Hp} {f : String} : ∀ {fs : List (Str × V)} {ns : List String} {ts : List T} {g : List Addr} {t : T}, fs.map Prod.fst = ns.map Str.ofString → RpTs K F H (fs.map Prod.snd) ts g →
    ((ns.zip ts).find? fun q => q.1 == f).map Prod.snd = some t → f ∈ ns ∧ ∃ v g', fs.lookup (Str.ofString f) = some v ∧ RpT K F H v t g' ∧ ∀ c, g'.count c ≤ g.count c
  | [], ns, ts, g, t, e, r, h => by
    cases ns with
    | nil => simp at h
    | cons _ _ => simp at e
  | (x, y) :: fs, ns, ts, g, t, e, r, h => by
    cases ns with
    | nil => simp at e
    | cons n ns =>
      simp only [List.map_cons, List.cons.injEq] at e
      obtain ⟨rfl, e⟩ := e
      cases r with
      | @cons _ _ t' ts' f1 g1 a b =>
        rw [List.zip_cons_cons, List.find?_cons] at h
        by_cases c : n = f
        · subst c
          simp only [beq_self_eq_true, Option.map_some, Option.some.injEq] at h
          subst h
          exact ⟨List.mem_cons_self, y, f1, by rw [List.lookup_cons]; simp, a, fun c => by rw [List.count_append]; omega⟩
        · have cf : (n == f) = false := beq_eq_false_iff_ne.mpr c
          simp only [cf] at h
          obtain ⟨h1, v, g', h2, h3, h4⟩ := fld_ok e b h
          refine ⟨List.mem_cons_of_mem _ h1, v, g', ?_, h3, fun c => by rw [List.count_append]; have := h4 c; omega⟩
          rw [List.lookup_cons]
          have : (Str.ofString f == Str.ofString n) = false := beq_eq_false_iff_ne.mpr fun q => c (ofString_inj q).symm
          rw [this]; exact h2
theorem lookup_no {m : String} : ∀ {fs : List (Str × V)} {ns : List String}, fs.map Prod.fst = ns.map Str.ofString → ns.contains m = false → fs.lookup (Str.ofString m) = none
  | [], _, _, _ => rfl
  | (x, y) :: fs, ns, e, h => by
    cases ns with
    | nil => simp at e
    | cons n ns =>
      simp only [List.map_cons, List.cons.injEq] at e
      obtain ⟨rfl, e⟩ := e
      rw [List.contains_cons, Bool.or_eq_false_iff] at h
      rw [List.lookup_cons]
      have : (Str.ofString m == Str.ofString n) = false := beq_eq_false_iff_ne.mpr fun q => by
        have := ofString_inj q
        subst this
        simp at h
      rw [this]
      exact lookup_no e h.2
/-! ### keys -/
theorem eqD_key1 (a b : Key) : eqD (keyD1 a) (keyD1 b) = decide (a = b) := by
  cases a with
  | inl i => cases b with
    | inl j => show PyData.eqv (.int i) (.int j) = _; unfold PyData.eqv; rw [Bool.eq_iff_iff]; simp
    | inr y => show PyData.eqv (.int i) (D.str _).py = _; rw [py_str]; rfl
  | inr x => cases b with
    | inl j => show PyData.eqv (D.str _).py (.int j) = _; rw [py_str]; rfl
    | inr y => show PyData.eqv (D.str _).py (D.str _).py = _; rw [py_str, py_str]; unfold PyData.eqv; rw [Bool.eq_iff_iff]; simp
theorem eqD_tup {xs ys : List D} : eqD (.tup xs) (.tup ys) = PyData.eqvAll (D.pys xs) (D.pys ys) := by
  show PyData.eqv (D.tup xs).py (D.tup ys).py = _
  simp only [D.py]
  rw [PyData.eqv]
theorem eqD_keys (a b : List Key) : eqD (.tup (a.map keyD1)) (.tup (b.map keyD1)) = decide (a = b) := by
  rw [eqD_tup]
  have key : ∀ a b : List Key, PyData.eqvAll (D.pys (a.map keyD1)) (D.pys (b.map keyD1)) = decide (a = b) := by
    intro a
    induction a with
    | nil => intro b; cases b with
      | nil => rfl
      | cons _ _ => rfl
    | cons x xs ih => intro b; cases b with
      | nil => rfl
      | cons y ys =>
        show PyData.eqvAll ((keyD1 x).py :: _) ((keyD1 y).py :: _) = _
        rw [PyData.eqvAll, ih ys]
        have : PyData.eqv (keyD1 x).py (keyD1 y).py = decide (x = y) := eqD_key1 x y
        rw [this, Bool.eq_iff_iff]
        simp
  exact key a b
section
variable {κ : Type} [DecidableEq κ] {emb : κ → D} {K : W.Frag} {F : FF} {H : Hp}
theorem dget_emb (he : ∀ a b, eqD (emb a) (emb b) = decide (a = b)) (k : κ) : ∀ {kvs : List (κ × V)} {ts : List T} {g : List Addr}, RpTs K F H (kvs.map Prod.snd) ts g →
    (∃ v t g', valV kvs k = some v ∧ dGet (kvs.map fun p => emb p.1) ts (emb k) = some t ∧ RpT K F H v t g' ∧ (∀ c, g'.count c ≤ g.count c) ∧ dHas (kvs.map fun p => emb p.1) (emb k) = true) ∨
    (valV kvs k = none ∧ dGet (kvs.map fun p => emb p.1) ts (emb k) = none ∧ dHas (kvs.map fun p => emb p.1) (emb k) = false)
  | [], ts, g, r => .inr ⟨rfl, by simp [dGet], rfl⟩
  | (x, y) :: kvs, ts, g, r => by
    cases r with
    | @cons _ _ t ts' f1 g1 a b =>
      by_cases c : x = k
      · subst c
        refine .inl ⟨y, t, f1, valV_pos rfl, ?_, a, fun c => by rw [List.count_append]; omega, ?_⟩
        · unfold dGet
          rw [List.map_cons, List.zip_cons_cons, List.find?_cons]
          simp [he]
        · unfold dHas
          rw [List.map_cons, List.any_cons]
          simp [he]
      · have e1 : dGet (((x, y) :: kvs).map fun p => emb p.1) (t :: ts') (emb k) = dGet (kvs.map fun p => emb p.1) ts' (emb k) := by
          unfold dGet
          rw [List.map_cons, List.zip_cons_cons, List.find?_cons]
          simp [he, c]
        have e2 : dHas (((x, y) :: kvs).map fun p => emb p.1) (emb k) = dHas (kvs.map fun p => emb p.1) (emb k) := by
          unfold dHas
          rw [List.map_cons, List.any_cons]
          simp [he, c]
        rw [e1, e2, valV_neg c]
        rcases dget_emb he k b with ⟨v, t', g', h1, h2, h3, h4, h5⟩ | h
        · exact .inl ⟨v, t', g', h1, h2, h3, fun c => by rw [List.count_append]; have := h4 c; omega, h5⟩
        · exact .inr h
theorem dhas_emb (he : ∀ a b, eqD (emb a) (emb b) = decide (a = b)) (k : κ) (kvs : List (κ × V)) : dHas (kvs.map fun p => emb p.1) (emb k) = (kvs.any fun kv => decide (kv.1 = k)) := by
  unfold dHas
  rw [List.any_map]
  congr 1
  funext p
  exact he p.1 k
theorem RpTs.zipUpd (he : ∀ a b, eqD (emb a) (emb b) = decide (a = b)) (k : κ) {y : V} {u : T} : ∀ {kvs : List (κ × V)} {ts : List T} {g : List Addr}, (kvs.map Prod.fst).Nodup → RpTs K F H (kvs.map Prod.snd) ts g → ∀ {fu : List Addr}, RpT K F H y u fu →
    ∃ g', RpTs K F H ((kvs.map fun kv => if kv.1 = k then (kv.1, y) else kv).map Prod.snd) ((((kvs.map fun p => emb p.1).zip ts).map fun p => if eqD p.1 (emb k) then u else p.2)) g' ∧ ∀ c, g'.count c ≤ g.count c + fu.count c
  | [], ts, g, _, r, fu, h => by
    cases r
    exact ⟨[], .nil, fun c => by simp⟩
  | (x, z) :: kvs, ts, g, nd, r, fu, h => by
    cases r with
    | @cons _ _ t ts' f1 g1 a b =>
      rw [List.map_cons, List.nodup_cons] at nd
      by_cases c : x = k
      · subst c
        have rest : ∀ {kvs : List (κ × V)} {ts : List T} {g : List Addr}, x ∉ kvs.map Prod.fst → RpTs K F H (kvs.map Prod.snd) ts g → RpTs K F H ((kvs.map fun kv => if kv.1 = x then (kv.1, y) else kv).map Prod.snd) ((((kvs.map fun p => emb p.1).zip ts).map fun p => if eqD p.1 (emb x) then u else p.2)) g := by
          intro kvs
          induction kvs with
          | nil => intro ts g _ r; cases r; exact .nil
          | cons q kvs ih =>
            intro ts g n r
            cases r with
            | cons a b =>
              rw [List.map_cons, List.mem_cons, not_or] at n
              have n1 : ¬ q.1 = x := fun e => n.1 e.symm
              rw [List.map_cons, List.map_cons, List.map_cons, List.zip_cons_cons, List.map_cons, if_neg n1]
              simp only [he, n1, decide_false, Bool.false_eq_true, if_false]
              exact .cons a (ih n.2 b)
        refine ⟨fu ++ g1, ?_, fun c => by simp only [List.count_append]; omega⟩
        rw [List.map_cons, List.map_cons, List.map_cons, List.zip_cons_cons, List.map_cons, if_pos rfl]
        simp only [he, decide_true, if_true]
        exact .cons h (rest nd.1 b)
      · obtain ⟨g', h1, h2⟩ := RpTs.zipUpd he k nd.2 b h
        refine ⟨f1 ++ g', ?_, fun c => by have := h2 c; simp only [List.count_append]; omega⟩
        rw [List.map_cons, List.map_cons, List.map_cons, List.zip_cons_cons, List.map_cons, if_neg c]
        simp only [he, c, decide_false, Bool.false_eq_true, if_false]
        exact .cons a h1
end
/-- a key's value -/
theorem key_of1 {K : W.Frag} {H : Hp} {y : V} {d : D} (r : RpD K H y d) (h : d.kyB = true) : ∃ k : Key, y = kV k ∧ d = keyD1 k ∧ keyOk k = true := by
  cases r with
  | int i => exact ⟨.inl i, rfl, rfl, rfl⟩
  | str z hz => exact ⟨.inr z, rfl, rfl, hz⟩
  | _ => cases h
theorem keys_of1 {K : W.Frag} {H : Hp} : ∀ {ys : List V} {ds : List D}, RpDs K H ys ds → ds.all D.kyB = true → ∃ k : List Key, ys = k.map kV ∧ ds = k.map keyD1 ∧ k.all keyOk = true
  | _, _, .nil, _ => ⟨[], rfl, rfl, rfl⟩
  | _, _, .cons a b, h => by
    rw [List.all_cons, Bool.and_eq_true] at h
    obtain ⟨k, rfl, rfl, hk⟩ := key_of1 a h.1
    obtain ⟨ks, rfl, rfl, hks⟩ := keys_of1 b h.2
    exact ⟨k :: ks, rfl, rfl, by rw [List.all_cons, hk, hks]; rfl⟩
/-- what the dict has at a key: found with its thing, or not -/
theorem dict_at {K : W.Frag} {F : FF} {H : Hp} {a : Addr} {u : HO} {t : Bool} {ks : List D} {xs : List V} {ts : List T} {g : List Addr} {y : V} {d : D} (hu : Rd H a u) (q : DH t u ks xs) (r : RpTs K F H xs ts g) (ry : RpD K H y d) (hk : keyFits t d = true) :
    ∃ o, DGet H a y o ∧ ((∃ v w g', o = some v ∧ dGet ks ts d = some w ∧ RpT K F H v w g' ∧ (∀ c, g'.count c ≤ g.count c) ∧ dHas ks d = true) ∨ (o = none ∧ dGet ks ts d = none ∧ dHas ks d = false)) := by
  cases q with
  | k kvs hok nd =>
    have hk : d.kyB = true := hk
    obtain ⟨k, rfl, rfl, _⟩ := key_of1 ry hk
    refine ⟨_, .inl ⟨kvs, k, hu, rfl, rfl⟩, ?_⟩
    rcases dget_emb eqD_key1 k r with ⟨v, w, g', h1, h2, h3, h4, h5⟩ | ⟨h1, h2, h3⟩
    · exact .inl ⟨v, w, g', h1, h2, h3, h4, h5⟩
    · exact .inr ⟨h1, h2, h3⟩
  | t kvs hok nd =>
    cases d with
    | tup ds =>
      have hk : ds.all D.kyB = true := hk
      cases ry with
      | tup hb rs =>
        obtain ⟨k, rfl, rfl, _⟩ := keys_of1 rs hk
        refine ⟨_, .inr ⟨kvs, k, _, hu, rfl, hb, rfl⟩, ?_⟩
        rcases dget_emb (emb := fun k : List Key => D.tup (k.map keyD1)) eqD_keys k r with ⟨v, w, g', h1, h2, h3, h4, h5⟩ | ⟨h1, h2, h3⟩
        · exact .inl ⟨v, w, g', h1, h2, h3, h4, h5⟩
        · exact .inr ⟨h1, h2, h3⟩
    | _ => cases hk
section
variable {G : Glob}
/-- no call without arguments but of a class: super is none -/
theorem attr_of {N sc b m e} {n : Str} (h : chkE N sc b m e = true) : ∀ env w, attributeBase e n env w = w := by
  intro env w
  cases e with
  | Call fn as kw pos =>
    cases fn with
    | Name id p =>
      cases as with
      | cons _ _ => rfl
      | nil =>
        cases kw with
        | cons _ _ => rfl
        | nil =>
          cases m with
          | new c as =>
            simp only [chkE, Bool.and_eq_true] at h
            exact abase_call h.1.1.2
          | _ => simp [chkE, chkName, isGl] at h
    | _ => rfl
  | _ => rfl
theorem star_any {N sc b} {env : PySem.Env} {m : Es} {es : List Expr} (h : chkEs N sc b m es = true) : ∀ (e : Expr) (r : List Expr), es = e :: r → starEach (e :: r) env = (false, eval e env) :: starEach r env := by
  rintro e r rfl
  obtain ⟨_, _, _, _, e3⟩ := chkEs_split h
  exact star_of e3
theorem ok_cme {cn mn : String} {o : E} {m : Es} (ho : Ok G o) (hm : OkEs G m) : Ok G (.cme cn mn o m) := by
  have sh : ∀ {N sc b'} {e : Expr}, chkE N sc b' (.cme cn mn o m) e = true → ∃ x ap ys cp, e = .Call (.Attribute x (Str.ofString mn) ap) ys [] cp ∧ ap.endLine = cp.line ∧ ys.length < 29 ∧ (cn, mn) ∈ b'.mts ∧ chkE N sc b' o x = true ∧ chkEs N sc b' m ys = true := by
    intro N sc b' e c
    unfold chkE at c
    split at c
    · simp only [Bool.and_eq_true, decide_eq_true_eq, List.contains_iff_mem] at c
      obtain ⟨⟨⟨⟨⟨c1, c2⟩, c3⟩, c4⟩, c5⟩, c6⟩ := c
      subst c1
      exact ⟨_, _, _, _, rfl, c2, c3, c4, c5, c6⟩
    · cases c
  have pe : ∀ X W b' e, Gd X G W b' → chkE X.N X.env.scope b' (.cme cn mn o m) e = true → PE X e (TE' X.K G W (.cme cn mn o m)) := by
    intro X W b' e g c
    obtain ⟨x, ap, ys, cp, rfl, c1, c2, c3, c4, c5⟩ := sh c
    obtain ⟨f, k, hme, ⟨fd, ps, f2, f3, f4⟩, f5, hcl⟩ := g.mts _ c3
    obtain ⟨st1, _⟩ := form_of (env := X.env) (pos := cp) c5
    have tree := meth_tree (o := x) (m := Str.ofString mn) (apos := ap) (pos := cp) (args := ys) (env := X.env) (attr_of c4 _ _) c1 c2 st1
    have key : PE X (.Call (.Attribute x (Str.ofString mn) ap) ys [] cp) (tMethS (clsA X.K cn) (Str.ofString mn) (spM X.K G [] (cn ++ "." ++ mn)) (WE W) (TE' X.K G W o) (TA' X.K G W m)) := by
      have hmA := hm X W b' ys g c5
      have hoA := ho.pe X W b' x g c4
      cases ys with
      | nil =>
        have := pe_methS0 (E := WE W) hoA hcl hme f4 f5 f3 (fun σ => passAt g.tk σ) tree
        refine PE.imp this fun σ H Q h => ?_
        obtain ⟨B, F, Γ, tmp, rel, P⟩ := h
        refine ⟨B, F, Γ, tmp, rel, P.imp ?_⟩
        rintro v H1 ⟨a, dx, fs, rfl, h1, h2, h3⟩
        refine ⟨a, dx, fs, rfl, h1, h2, ?_⟩
        cases m with
        | nil =>
          obtain ⟨B2, F2, Γ2, tmp2, rel2, P2⟩ := h3
          exact P2 [] F2 H1 [] (by simpa using rel2) .nil Sub.refl SubF.refl
        | cons _ _ => simp [chkEs] at c5
      | cons y ys =>
        exact pe_methS (E := WE W) hoA hcl hme f4 f5 f3 (fun σ => passAt g.tk σ) hmA (star_any c5 _ _ rfl) (plain_of (chkEs_split c5).choose_spec.choose_spec.2.1) tree
    refine PE.imp key fun σ H Q h => ?_
    obtain ⟨B, F, Γ, tmp, rel, P⟩ := h
    refine ⟨B, F, Γ, tmp, rel, (P.bind (rep := rT X.K) (fp := [])).imp ?_⟩
    rintro xv H1 ⟨tx, Γ1, F1, fa, rel1, ra, sH1, sF1, P1⟩
    have rel1 : Rel X.K B F1 H1 σ Γ1 (fa ++ tmp) := rel1
    cases eo : objQ tx with
    | none => simp only [eo] at P1; exact P1.elim
    | some p =>
      obtain ⟨c', ns, us⟩ := p
      simp only [eo] at P1
      split at P1
      · rename_i hcc
        simp only [Bool.and_eq_true, beq_iff_eq, Bool.not_eq_true'] at hcc
        obtain ⟨rfl, hno⟩ := hcc
        obtain ⟨a, dx, fs, g1, rfl, hc, hh, hn, rs, cg⟩ := objQ_ok eo rel1.hs ra
        refine ⟨a, dx, fs, rfl, hh, lookup_no hn hno, B, F1, Γ1, fa ++ tmp, rel1, (Post.bind (rep := rTs X.K) (fp := fa) P1).imp ?_⟩
        rintro xs H2 ⟨ts, Γ2, F2, fb, rel2, rb, sH2, sF2, P2⟩
        have ra2 := ra.grow sF2 sH2
        exact call_spM (fa := fa ++ fb) (ts := tx :: ts) (rel2.less fun c => by simp only [List.count_append]; omega) (.cons ra2 rb) P2
      · exact P1.elim
  refine ⟨pe, fun X W b' e g c => ?_, pw_no fun N sc b op vs pos => rfl⟩
  obtain ⟨x, ap, ys, cp, rfl, _⟩ := sh c
  exact tB_of (pe X W b' _ g c) fun _ => rfl
theorem ok_fld {a : E} {f : String} (ha : Ok G a) : Ok G (.fld a f) := by
  have sh : ∀ {N sc b'} {e : Expr}, chkE N sc b' (.fld a f) e = true → ∃ x pos, e = .Attribute x (Str.ofString f) pos ∧ chkE N sc b' a x = true := by
    intro N sc b' e c
    unfold chkE at c
    split at c
    · simp only [Bool.and_eq_true, decide_eq_true_eq] at c
      obtain ⟨c1, c2⟩ := c
      subst c1
      exact ⟨_, _, rfl, c2⟩
    · cases c
  have pe : ∀ X W b' e, Gd X G W b' → chkE X.N X.env.scope b' (.fld a f) e = true → PE X e (TE' X.K G W (.fld a f)) := by
    intro X W b' e g c
    obtain ⟨x, pos, rfl, c1⟩ := sh c
    refine PE.imp (pe_fld (ha.pe X W b' x g c1) (attr_of c1 _ _)) fun σ H Q h => ?_
    refine one (rep := rT X.K) (r := fun x H (Q : VK) => ∃ a C dx fs v, x = V.ref a ∧ H a = some (.ins C dx fs) ∧ Cls X.K C ∧ NoAttr X.K C (Str.ofString f) ∧ fs.lookup (Str.ofString f) = some v ∧ Q v H) (fun B F H σ Γ tmp fa x ta Q rel ra P => ?_) σ H Q h
    unfold fldT at P
    cases eo : objQ ta with
    | none => simp only [eo] at P; exact P.elim
    | some p =>
      obtain ⟨c', ns, us⟩ := p
      simp only [eo, Option.bind_some] at P
      obtain ⟨a, dx, fs, g1, rfl, hc, hh, hn, rs, cg⟩ := objQ_ok eo rel.hs ra
      cases ef : ((ns.zip us).find? fun q => q.1 == f).map Prod.snd with
      | none => rw [ef] at P; exact P.elim
      | some t =>
        rw [ef] at P
        obtain ⟨hf, v, g2, h1, h2, h3⟩ := fld_ok hn rs ef
        exact ⟨a, _, dx, fs, v, rfl, hh, hc.cls, hc.no f hf, h1, P v F H g2 (rel.less fun c => by have := cg c; have := h3 c; simp only [List.count_append]; omega) h2 Sub.refl SubF.refl⟩
  refine ⟨pe, fun X W b' e g c => ?_, pw_no fun N sc b op vs pos => rfl⟩
  obtain ⟨x, pos, rfl, _⟩ := sh c
  exact tB_of (pe X W b' _ g c) fun _ => rfl
theorem noSl_of {N sc b m e} (h : chkE N sc b m e = true) : NoSl e := by
  cases e with
  | Slice a c d p => cases m <;> cases h
  | _ => exact fun _ _ => rfl
theorem ok_dix {a i : E} (ha : Ok G a) (hi : Ok G i) : Ok G (.dix a i) := by
  have sh : ∀ {N sc b'} {e : Expr}, chkE N sc b' (.dix a i) e = true → ∃ x y pos, e = .Subscript x y pos ∧ chkE N sc b' a x = true ∧ chkE N sc b' i y = true := by
    intro N sc b' e c
    unfold chkE at c
    split at c
    · rw [Bool.and_eq_true] at c
      exact ⟨_, _, _, rfl, c.1, c.2⟩
    · cases c
  have pe : ∀ X W b' e, Gd X G W b' → chkE X.N X.env.scope b' (.dix a i) e = true → PE X e (TE' X.K G W (.dix a i)) := by
    intro X W b' e g c
    obtain ⟨x, y, pos, rfl, c1, c2⟩ := sh c
    refine PE.imp (pe_dget (by have := g.hu; omega) (ha.pe X W b' x g c1) (hi.pe X W b' y g c2) (noSl_of c2)) fun σ H Q h => ?_
    refine two (r := fun x y H (Q : VK) => ∃ a v, x = V.ref a ∧ DGet H a y (some v) ∧ Q v H) (f := fun x y Γ => R.op (dixT x y) Γ) (fun B F H σ Γ tmp fa fb x y ta tb Q rel ra rb P => ?_) σ H Q h
    unfold dixT at P
    cases eo : dicQ ta with
    | none => simp only [eo] at P; exact P.elim
    | some p =>
      obtain ⟨t, ks, us⟩ := p
      simp only [eo, Option.bind_some] at P
      split at P
      · rename_i hk
        obtain ⟨a, u, xs, g1, rfl, hu, q, rs, cg⟩ := dicQ_ok eo rel.hs ra
        obtain ⟨o, dg, h⟩ := dict_at hu q rs (rel.rd rb) hk
        rcases h with ⟨v, w, g2, rfl, h2, h3, h4, _⟩ | ⟨rfl, h2, _⟩
        · simp only [h2] at P
          exact ⟨a, v, rfl, dg, P v F H g2 (rel.less fun c => by have := cg c; have := h4 c; simp only [List.count_append]; omega) h3 Sub.refl SubF.refl⟩
        · simp only [h2] at P; exact P.elim
      · exact P.elim
  refine ⟨pe, fun X W b' e g c => ?_, pw_no fun N sc b op vs pos => rfl⟩
  obtain ⟨x, y, pos, rfl, c1, c2⟩ := sh c
  exact tB_of (pe X W b' _ g c) fun _ => rfl
theorem ok_din {n : Bool} {k d : E} (hk : Ok G k) (hd : Ok G d) : Ok G (.din n k d) := by
  have sh : ∀ {N sc b'} {e : Expr}, chkE N sc b' (.din n k d) e = true → ∃ x y pos, e = .Compare x [if n then CmpOp.NotIn else CmpOp.In] [y] pos ∧ chkE N sc b' k x = true ∧ chkE N sc b' d y = true := by
    intro N sc b' e c
    unfold chkE at c
    split at c
    · simp only [Bool.and_eq_true, decide_eq_true_eq] at c
      obtain ⟨⟨c1, c2⟩, c3⟩ := c
      subst c1
      exact ⟨_, _, _, rfl, c2, c3⟩
    · cases c
  have rd : ∀ {K : W.Frag} {W : WX} σ H Q, TE' K G W (.din n k d) σ H Q → TE' K G W k σ H fun y H1 => TE' K G W d σ H1 fun x H2 => ∃ a o, x = V.ref a ∧ DGet H2 a y o ∧ Q (.bl (if n then !o.isSome else o.isSome)) H2 := fun {K W} σ H Q h =>
    two (r := fun y x H (Q : VK) => ∃ a o, x = V.ref a ∧ DGet H a y o ∧ Q (.bl (if n then !o.isSome else o.isSome)) H) (f := fun y x Γ => R.op ((dinT x y).map fun c => T.v (.bl (if n then !c else c))) Γ) (fun B F H σ Γ tmp fa fb y x tb ta Q rel rb ra P => by
      unfold dinT at P
      cases eo : dicQ ta with
      | none => simp only [eo] at P; exact P.elim
      | some p =>
        obtain ⟨t, ks, us⟩ := p
        simp only [eo, Option.bind_some] at P
        cases hkf : keyFits t tb.er with
        | true =>
          simp only [hkf, if_true] at P
          obtain ⟨a, u, xs, g1, rfl, hu, q, rs, cg⟩ := dicQ_ok eo rel.hs ra
          obtain ⟨o, dg, h⟩ := dict_at hu q rs (rel.rd rb) hkf
          refine ⟨a, o, rfl, dg, ?_⟩
          have e : o.isSome = dHas ks tb.er := by
            rcases h with ⟨v, w, g2, rfl, h2, h3, h4, h5⟩ | ⟨rfl, h2, h5⟩ <;> rw [h5] <;> rfl
          rw [e]
          exact Post.flatv (Γ := Γ) (tmp := tmp) P rel (fun c => by simp only [List.count_append]; omega) (.bl _)
        | false => simp only [hkf, Bool.false_eq_true, if_false] at P; exact P.elim) σ H Q h
  have pc : ∀ X W b' x y, Gd X G W b' → chkE X.N X.env.scope b' k x = true → chkE X.N X.env.scope b' d y = true → PC X (if n then CmpOp.NotIn else CmpOp.In) x y (fun σ H Q => TE' X.K G W k σ H fun y H1 => TE' X.K G W d σ H1 fun x H2 => ∃ a o, x = V.ref a ∧ DGet H2 a y o ∧ Q (.bl (if n then !o.isSome else o.isSome)) H2) := by
    intro X W b' x y g c1 c2
    cases n with
    | true => exact pc_dnotin (by have := g.hu; omega) (hk.pe X W b' x g c1) (hd.pe X W b' y g c2)
    | false => exact pc_din (by have := g.hu; omega) (hk.pe X W b' x g c1) (hd.pe X W b' y g c2)
  refine ⟨fun X W b' e g c => ?_, fun X W b' e g c => ?_, pw_no fun N sc b op vs pos => rfl⟩
  · obtain ⟨x, y, pos, rfl, c1, c2⟩ := sh c
    exact PE.imp (pe_cmp (pc X W b' x y g c1 c2) (marks_of (chk_notSet c2))) rd
  · obtain ⟨x, y, pos, rfl, c1, c2⟩ := sh c
    exact PT.imp (pt_cmp (pc X W b' x y g c1 c2) (marks_of (chk_notSet c2))) fun σ H Q h => rd σ H _ h
theorem hide_new {H : Hp} {x dx : Addr} {o o' : HO} (hx : H x = none) (hn : dx ≠ x) : hideA (upd (upd H dx o) x o') [x] = upd H dx o := by
  funext a
  unfold hideA
  by_cases e : a = x
  · subst e
    rw [if_pos (by simp), upd_ne (Ne.symm hn), hx]
  · rw [if_neg (by simpa using e), upd_ne e]
theorem new_spM {K : W.Frag} {G : Glob} {W : WX} {B : Base} {F : FF} {H : Hp} {σ : L2.St} {Γ : Env} {tmp fa : List Addr} {f c : String} {xs : List V} {ts : List T} {Q : VK} {x dx : Addr} (hcls : Cls K (clsA K c)) (rel : Rel K B F H σ Γ (fa ++ tmp)) (ra : RpTs K F H xs ts fa)
    (P : Post K G W B F H σ tmp (rT K) (newT ts (G.cl f (.ob c [] [] :: (T.ers ts).map .v)) Γ) Q) (hx : H x = none) (hdx : H dx = none) (hn : dx ≠ x) :
    spM K G [0] f (.ref x :: xs) (upd (upd H dx (.own x)) x (.ins (clsA K c) dx [])) (fun v H2 => v = .non ∧ Q (.ref x) H2) (WE W σ) := by
  have hid := hide_new (o := .own x) (o' := .ins (clsA K c) dx []) hx hn
  have ob : ∀ F0 : FF, RpT K F0 (upd (upd H dx (.own x)) x (.ins (clsA K c) dx [])) (.ref x) (.ob c [] []) [x] := fun F0 => .ob (f := []) (fs := []) ⟨hcls, fun f hf => by cases hf⟩ upd_same rfl rfl .nil
  have fsc : ∀ a, [x].count a ≤ 1 := fun a => by rw [List.count_cons, List.count_nil]; split <;> omega
  have fsn : ∀ a ∈ [x], (upd (upd H dx (.own x)) x (.ins (clsA K c) dx [])) a ≠ none ∧ ∀ o u, (upd (upd H dx (.own x)) x (.ins (clsA K c) dx [])) a ≠ some (.frz o u) := fun a ha => by
    have := List.mem_singleton.mp ha
    subst this
    rw [upd_same]
    exact ⟨by simp, fun o u e => by cases e⟩
  have stb2 : ∀ {F0 : Hp}, Stb (upd H dx (.own x)) F0 → Stb (upd (upd H dx (.own x)) x (.ins (clsA K c) dx [])) F0 := fun {F0} s a o e st => by
    by_cases q : a = x
    · subst q; rw [upd_same] at e; cases e; cases st
    · rw [upd_ne q] at e; exact s a o e st
  unfold newT at P
  have fin : ∀ {F2 : FF} {F0 : Hp} {t' : T} (rel3 : Rel K B F2 (upd H dx (.own x)) σ Γ tmp), (∀ {F' H' fo}, Sub (upd H dx (.own x)) H' → CallEnd (upd H dx (.own x)) F0 F' H' → RpT K F' H' (.ref x) t' fo → (∀ a, fo.count a ≤ 1) → (∀ a ∈ fo, F'.f a = none ∧ (upd H dx (.own x)) a = none ∧ H' a ≠ none) → Q (.ref x) H') →
      ∀ v F' H' fp vo fo, Sub (upd H dx (.own x)) H' → CallEnd (upd H dx (.own x)) F0 F' H' → RpT K F' H' v (.v .non) fp → T.noB (.v .non) = true → pick (V.ref x :: xs) [0] = some vo → RpTs K F' H' vo [t'] fo → T.noBs [t'] = true → (∀ a, (fp ++ fo).count a ≤ 1) → (∀ a ∈ fp ++ fo, F'.f a = none ∧ (upd H dx (.own x)) a = none ∧ H' a ≠ none) → v = .non ∧ Q (.ref x) H' := by
    intro F2 F0 t' rel3 q v F' H' fp vo fo sH c rt _ ep ro _ hc hf
    have ev : vo = [.ref x] := by
      have : pick (V.ref x :: xs) [0] = some [.ref x] := rfl
      rw [this] at ep; exact (Option.some.inj ep).symm
    subst ev
    cases rt with
    | v rt =>
      cases rt
      refine ⟨rfl, ?_⟩
      cases ro with
      | cons a b =>
        cases b
        exact q sH c a (fun a => by simpa using hc a) (fun a m => hf a (by simpa using m))
  cases nb : T.noBs ts with
  | true =>
    have rd := ra.freeze rel.sub rel.nsub nb
    have rel2 := rel.freezeTmp (f1 := fa) (g := tmp) fun c => by simp only [List.count_append]; omega
    have rel3 := (rel2.alloc (p := dx) (o := .own x) hdx rfl).less (tmp' := tmp) fun c => by rw [List.count_cons]; omega
    have P2 := P.later (H1 := upd H dx (.own x)) (upd_sub hdx) (addF_sub (f := fa) rel.sub rel.nsub)
    refine ⟨_, .ob c [] [] :: (T.ers ts).map .v, [x], by rw [hid]; exact rel3.sub, stb2 rel3.stf, .cons (f := [x]) (g := []) (ob _) (toVs rd), ?_, fsc, fsn, ?_⟩
    · show ((T.ob c [] []).noB && T.noBs ((T.ers ts).map .v)) = true
      rw [noBs_v]; rfl
    · rw [hid]
      cases ec : G.cl f (.ob c [] [] :: (T.ers ts).map .v) with
      | bad => rw [ec] at P; exact P.elim
      | ret t os =>
        rw [ec] at P2
        split at P2
        · rename_i t' e
          cases e
          simp only [nb, Bool.true_or, if_true] at P2
          exact fin rel3 fun {F' H' fo} sH c rt hc hf => P2.callA rel3 sH c rt hc hf
        · rename_i e; cases e
        · exact P2.elim
      | ex y os =>
        rw [ec] at P2
        intro cv d F' H' vo fo sH c ep ro nbo hc hf hx'
        exact P2.callX rel3 sH rel3.sub rel3.stf c hx'
  | false =>
    have rd := (rel.rds ra).mono (upd_sub (o := .own x) hdx)
    have rel3 := (rel.alloc (p := dx) (o := .own x) hdx rfl).less (tmp' := tmp) fun c => by simp only [List.count_cons, List.count_append]; omega
    have P2 := P.later (H1 := upd H dx (.own x)) (upd_sub hdx) SubF.refl
    refine ⟨upd H dx (.own x), .ob c [] [] :: (T.ers ts).map .v, [x], by rw [hid]; exact Sub.refl, stb2 (fun a o e _ => e), .cons (f := [x]) (g := []) (ob _) (toVs rd), ?_, fsc, fsn, ?_⟩
    · show ((T.ob c [] []).noB && T.noBs ((T.ers ts).map .v)) = true
      rw [noBs_v]; rfl
    · rw [hid]
      cases ec : G.cl f (.ob c [] [] :: (T.ers ts).map .v) with
      | bad => rw [ec] at P; exact P.elim
      | ret t os =>
        rw [ec] at P2
        split at P2
        · rename_i t' e
          cases e
          simp only [nb, Bool.false_or] at P2
          split at P2
          · rename_i hcl
            exact fin rel3 fun {F' H' fo} sH c rt hc hf => P2.callB rel3 sH c rt hcl hc hf
          · exact P2.elim
        · rename_i e; cases e
        · exact P2.elim
      | ex y os =>
        rw [ec] at P2
        intro cv d F' H' vo fo sH c ep ro nbo hc hf hx'
        exact P2.callX rel3 sH Sub.refl (fun a o e _ => e) c hx'
theorem ok_new {cn : String} {m : Es} (hm : OkEs G m) : Ok G (.new cn m) := by
  have sh : ∀ {N sc b'} {e : Expr}, chkE N sc b' (.new cn m) e = true → ∃ p ys pos, e = .Call (.Name (Str.ofString cn) p) ys [] pos ∧ cn ∈ b'.cls ∧ glB sc (Str.ofString cn) = true ∧ (Str.ofString cn == ("__debug__" : Str)) = false ∧ chkEs N sc b' m ys = true := by
    intro N sc b' e c
    unfold chkE at c
    split at c
    · simp only [Bool.and_eq_true, decide_eq_true_eq, Bool.not_eq_true', List.contains_iff_mem] at c
      obtain ⟨⟨⟨⟨⟨c1, c2⟩, c3⟩, c3'⟩, c4⟩, c5⟩ := c
      subst c1
      exact ⟨_, _, _, rfl, c2, c3, c4, c5⟩
    · cases c
  have pe : ∀ X W b' e, Gd X G W b' → chkE X.N X.env.scope b' (.new cn m) e = true → PE X e (TE' X.K G W (.new cn m)) := by
    intro X W b' e g c
    obtain ⟨p, ys, pos, rfl, c1, c2, c3, c4⟩ := sh c
    obtain ⟨f, k, hmg, hcl, hmk, ⟨fd, ps, f2, f3, f4⟩, f5⟩ := g.cls cn c1
    have hg : Gl X (Str.ofString cn) := (of_decide_eq_true c2 : X.env.scope.names.lookup (Str.ofString cn) = some .globalImplicit)
    have key : PE X (.Call (.Name (Str.ofString cn) p) ys [] pos) (tMakeS (clsA X.K cn) (spM X.K G [0] (cn ++ ".__init__")) (WE W) (TA' X.K G W m)) := by
      cases ys with
      | nil =>
        refine PE.imp (pe_makeS0 (E := WE W) hmk f4 f5 hg hmg f3 (fun σ => passAt g.tk σ) c3) fun σ H Q h => ?_
        cases m with
        | nil =>
          obtain ⟨B2, F2, Γ2, tmp2, rel2, P2⟩ := h
          exact P2 [] F2 H [] (by simpa using rel2) .nil Sub.refl SubF.refl
        | cons _ _ => simp [chkEs] at c4
      | cons y ys => exact pe_makeS (E := WE W) hmk f4 f5 hg hmg f3 (fun σ => passAt g.tk σ) (hm X W b' (y :: ys) g c4) c3 (star_any c4 _ _ rfl) (plain_of (chkEs_split c4).choose_spec.choose_spec.2.1)
    refine PE.imp key fun σ H Q h => ?_
    obtain ⟨B, F, Γ, tmp, rel, P⟩ := h
    refine ⟨B, F, Γ, tmp, rel, (Post.bind (rep := rTs X.K) (fp := []) P).imp ?_⟩
    rintro xs H1 ⟨ts, Γ1, F1, fa, rel1, ra, sH1, sF1, P1⟩
    intro x dx hx hdx hn
    exact new_spM hcl rel1 ra P1 hx hdx hn
  refine ⟨pe, fun X W b' e g c => ?_, pw_no fun N sc b op vs pos => rfl⟩
  obtain ⟨p, ys, pos, rfl, _⟩ := sh c
  exact tB_of (pe X W b' _ g c) fun _ => rfl
def OkX (G : Glob) (m : OE) : Prop := ∀ X W b e, Gd X G W b → (match m with
  | .no => False
  | .so m => chkE X.N X.env.scope b m e = true) → PE X e (TM X.K G W (rT X.K) (evX G.cl G.con m))
theorem okx_no : OkX G .no := fun X W b e g c => c.elim
theorem okx_so {m : E} (hm : Ok G m) : OkX G (.so m) := fun X W b e g c => hm.pe X W b e g c
theorem ok_get {d k : E} {x : OE} (hd : Ok G d) (hk : Ok G k) (hx : OkX G x) : Ok G (.get d k x) := by
  have sh : ∀ {N sc b'} {e : Expr}, chkE N sc b' (.get d k x) e = true → ∃ y ap as cp, e = .Call (.Attribute y (Str.ofString "get") ap) as [] cp ∧ ap.endLine = cp.line ∧ chkE N sc b' d y = true ∧ ((x = .no ∧ ∃ z, as = [z] ∧ chkE N sc b' k z = true) ∨ ∃ z u m, x = .so m ∧ as = [z, u] ∧ chkE N sc b' k z = true ∧ chkE N sc b' m u = true) := by
    intro N sc b' e c
    unfold chkE at c
    split at c
    · simp only [Bool.and_eq_true, decide_eq_true_eq] at c
      obtain ⟨⟨⟨c1, c2⟩, c3⟩, c4⟩ := c
      subst c1
      refine ⟨_, _, _, _, rfl, c2, c3, ?_⟩
      split at c4
      · exact .inl ⟨rfl, _, rfl, c4⟩
      · rw [Bool.and_eq_true] at c4
        exact .inr ⟨_, _, _, rfl, rfl, c4.1, c4.2⟩
      · cases c4
    · cases c
  have fin : ∀ {K : W.Frag} {W : WX} {B : Base} {F1 : FF} {H1 : Hp} {σ : L2.St} {Γ3 : Env} {tmp fa fk fx : List Addr} {xv yv zv : V} {dt kt xt : T} {t : Bool} {ks : List D} {vs : List T} {Q : VK}, dicQ dt = some (t, ks, vs) → Rel K B F1 H1 σ Γ3 (fx ++ (fk ++ (fa ++ tmp))) → RpT K F1 H1 xv dt fa → RpT K F1 H1 yv kt fk → RpT K F1 H1 zv xt fx →
      Post K G W B F1 H1 σ tmp (rT K) (if keyFits t kt.er then .ok ((dGet ks vs kt.er).getD xt) Γ3 else .bad) Q → ∀ a, xv = .ref a → ∃ o, DGet H1 a yv o ∧ Q (o.getD zv) H1 := by
    intro K W B F1 H1 σ Γ3 tmp fa fk fx xv yv zv dt kt xt t ks vs Q eo rel ra rk rx P a ea
    cases hkf : keyFits t kt.er with
    | false => simp only [hkf, Bool.false_eq_true, if_false] at P; exact P.elim
    | true =>
      simp only [hkf, if_true] at P
      obtain ⟨a', u, xs, g1, e1, hu, q, rs, cg⟩ := dicQ_ok eo rel.hs ra
      rw [ea] at e1
      cases e1
      obtain ⟨o, dg, h⟩ := dict_at hu q rs (rel.rd rk) hkf
      refine ⟨o, dg, ?_⟩
      rcases h with ⟨v, w, g2, rfl, h2, h3, h4, _⟩ | ⟨rfl, h2, _⟩
      · rw [h2] at P
        exact P v F1 H1 g2 (rel.less fun c => by have := cg c; have := h4 c; simp only [List.count_append]; omega) h3 Sub.refl SubF.refl
      · rw [h2] at P
        exact P zv F1 H1 fx (rel.less fun c => by simp only [List.count_append]; omega) rx Sub.refl SubF.refl
  have isd : ∀ {K : W.Frag} {F1 : FF} {H1 : Hp} {xv : V} {dt : T} {fa : List Addr} {p}, dicQ dt = some p → Hs F1 H1 → RpT K F1 H1 xv dt fa → ∃ a, xv = .ref a ∧ IsD H1 a := by
    rintro K F1 H1 xv dt fa ⟨t, ks, vs⟩ eo hs ra
    obtain ⟨a', u, xs, g1, rfl, hu, q, rs, cg⟩ := dicQ_ok eo hs ra
    have q : DH t u ks xs := q
    refine ⟨a', rfl, ?_⟩
    cases q with
    | k kvs _ _ => exact .inl ⟨kvs, hu⟩
    | t kvs _ _ => exact .inr ⟨kvs, hu⟩
  have pe : ∀ X W b' e, Gd X G W b' → chkE X.N X.env.scope b' (.get d k x) e = true → PE X e (TE' X.K G W (.get d k x)) := by
    intro X W b' e g c
    obtain ⟨y, ap, as, cp, rfl, c1, c2, c3⟩ := sh c
    have hline : (ap.endLine == cp.line) = true := by rw [c1]; exact beq_self_eq_true _
    rcases c3 with ⟨rfl, z, rfl, c4⟩ | ⟨z, u, m, rfl, rfl, c4, c5⟩
    · have st : starEach [z] X.env = (false, eval z X.env) :: starEach [] X.env := star_of (chk_notStar c4)
      refine PE.imp (pe_dget1 (by have := g.hu; omega) (hd.pe X W b' y g c2) (hk.pe X W b' z g c4) ⟨attr_of c2 _ _, by rw [st]; rfl, hline, by rw [st]; rfl⟩) fun σ H Q h => ?_
      obtain ⟨B, F, Γ, tmp, rel, P⟩ := h
      refine ⟨B, F, Γ, tmp, rel, (P.bind (rep := rT X.K) (fp := [])).imp ?_⟩
      rintro xv H1 ⟨dt, Γ1, F1, fa, rel1, ra, sH1, sF1, P1⟩
      cases eo : dicQ dt with
      | none => simp only [eo] at P1; exact P1.elim
      | some p =>
        obtain ⟨t, ks, vs⟩ := p
        simp only [eo] at P1
        obtain ⟨a, rfl, hisd⟩ := isd eo rel1.hs ra
        refine ⟨a, rfl, hisd, B, F1, Γ1, fa ++ tmp, rel1, (P1.bind (rep := rT X.K) (fp := fa)).imp ?_⟩
        rintro yv H2 ⟨kt, Γ2, F2, fk, rel2, rk, sH2, sF2, P2⟩
        simp only [evX, R.bind] at P2
        exact fin (fx := []) eo (by simpa using rel2) (ra.grow sF2 sH2) rk (.v .non) P2 a rfl
    · have st1 : starEach [z, u] X.env = (false, eval z X.env) :: starEach [u] X.env := star_of (chk_notStar c4)
      have st2 : starEach [u] X.env = (false, eval u X.env) :: starEach [] X.env := star_of (chk_notStar c5)
      refine PE.imp (pe_dget2 (by have := g.hu; omega) (hd.pe X W b' y g c2) (hk.pe X W b' z g c4) (hx X W b' u g c5) ⟨attr_of c2 _ _, by rw [st1, st2]; rfl, hline, by rw [st1, st2]; rfl⟩) fun σ H Q h => ?_
      obtain ⟨B, F, Γ, tmp, rel, P⟩ := h
      refine ⟨B, F, Γ, tmp, rel, (P.bind (rep := rT X.K) (fp := [])).imp ?_⟩
      rintro xv H1 ⟨dt, Γ1, F1, fa, rel1, ra, sH1, sF1, P1⟩
      cases eo : dicQ dt with
      | none => simp only [eo] at P1; exact P1.elim
      | some p =>
        obtain ⟨t, ks, vs⟩ := p
        simp only [eo] at P1
        obtain ⟨a, rfl, hisd⟩ := isd eo rel1.hs ra
        refine ⟨a, rfl, hisd, B, F1, Γ1, fa ++ tmp, rel1, (P1.bind (rep := rT X.K) (fp := fa)).imp ?_⟩
        rintro yv H2 ⟨kt, Γ2, F2, fk, rel2, rk, sH2, sF2, P2⟩
        rw [← List.append_assoc] at rel2
        refine ⟨B, F2, Γ2, (fk ++ fa) ++ tmp, rel2, (P2.bind (rep := rT X.K) (fp := fk ++ fa)).imp ?_⟩
        rintro zv H3 ⟨xt, Γ3, F3, fx, rel3, rx, sH3, sF3, P3⟩
        rw [List.append_assoc] at rel3
        exact fin eo rel3 ((ra.grow sF2 sH2).grow sF3 sH3) (rk.grow sF3 sH3) rx P3 a rfl
  refine ⟨pe, fun X W b' e g c => ?_, pw_no fun N sc b op vs pos => rfl⟩
  obtain ⟨y, ap, as, cp, rfl, _⟩ := sh c
  exact tB_of (pe X W b' _ g c) fun _ => rfl
end
end Tv

namespace Tv
open PySem PySem.Spec PyProof.Rows L2

/-! ### built-ins by name -/
theorem CallR.or {X : Cx} {f : Value} {r r' : List V → Hp → VK → Prop} (a : CallR X f r) (b : CallR X f r') : CallR X f (fun xs H Q => r xs H Q ∨ r' xs H Q) := by
  intro pins s σ H xs us Q I rx h
  rcases h with h | h
  · exact a pins s σ H xs us Q I rx h
  · exact b pins s σ H xs us Q I rx h
def BF.val (f : BF) : Value := if f.ty then .type f.nm else .builtin f.nm
def rF (K : W.Frag) : BF → List V → Hp → VK → Prop
  | .len => fun xs H Q => ∃ x n, xs = [x] ∧ LenV K x H n ∧ Q (.int n) H
  | .max => fun xs H Q => (∃ i j, xs = [V.int i, V.int j] ∧ Q (.int (if j > i then j else i)) H) ∨ rMax K xs H Q
  | .min => fun xs H Q => (∃ i j, xs = [V.int i, V.int j] ∧ Q (.int (if j < i then j else i)) H) ∨ rMin K xs H Q
  | .sum => fun xs H Q => rSum K xs H Q ∨ rSumL K xs H Q
  | .sorted => fun xs H Q => rSortedI K xs H Q ∨ rSortedPO K xs H Q
  | .all => rAll K
  | .list => fun xs H Q => ∃ p ys, xs = [V.ref p] ∧ (SqL K H p ys ∨ SqT K H p ys) ∧ ∀ l, H l = none → Q (.ref l) (upd H l (.lst ys))
  | .tuple => fun xs H Q => ∃ p ys, xs = [V.ref p] ∧ ((SqL K H p ys ∧ ∀ l, H l = none → Q (.ref l) (upd H l (.tup ys))) ∨ (SqT K H p ys ∧ Q (.ref p) H))
  | .str => fun xs H Q => ∃ i, xs = [V.int i] ∧ i.natAbs.log2 < 1920 ∧ Q (.str (toString i)) H
  | .int => fun xs H Q => (∃ i, xs = [V.int i] ∧ Q (.int i) H) ∨ ∃ k, xs = [V.bl k] ∧ Q (.int (if k then 1 else 0)) H
  | .abs => fun xs H Q => ∃ i, xs = [V.int i] ∧ Q (.int (if i < 0 then -i else i)) H
theorem cr_F {X : Cx} (hc : X.calm = true) (f : BF) : CallR X f.val (rF X.K f) := by
  cases f with
  | len => exact call_len
  | max => exact CallR.or (call_max2 hc) (cr_max hc)
  | min => exact CallR.or (call_min2 hc) (cr_min hc)
  | sum => exact CallR.or (cr_sum hc) (cr_sumL hc)
  | sorted => exact CallR.or cr_sortedI cr_sortedPO
  | all => exact cr_all hc
  | list => exact call_list_of
  | tuple => exact call_tuple_of
  | str => exact call_str_int
  | int => exact call_int1
  | abs => exact call_abs
theorem boot_F (f : BF) : bootBuiltins (Str.ofString f.nm) = some f.val ∧ Str.ofString f.nm ≠ "__name__" ∧ (Str.ofString f.nm == ("__debug__" : Str)) = false ∧ f.nm ∈ bltNames := by
  cases f <;> exact ⟨by decide +kernel, by decide +kernel, by decide +kernel, by decide⟩
section
variable {K : W.Frag} {F : FF} {H : Hp} {x : V} {xs : List V} {t : T} {ts : List T} {f : List Addr}
theorem boolsT_ok : ∀ {xs : List V} {ts : List T} {f : List Addr} {ns : List Bool}, boolsT ts = some ns → RpTs K F H xs ts f → xs = ns.map V.bl
  | _, [], _, ns, e, .nil => by cases e; rfl
  | _, t :: ts, _, ns, e, .cons a b => by
    unfold boolsT at e
    split at e
    · rename_i e0; cases e0
    · rename_i i ts' e0
      cases e0
      cases h : boolsT ts with
      | none => rw [h] at e; cases e
      | some r =>
        rw [h] at e
        cases e
        obtain ⟨rfl, _⟩ := bl_inv a
        rw [boolsT_ok h b]; rfl
    · cases e
theorem strsT_ok : ∀ {xs : List V} {ts : List T} {f : List Addr} {ns : List (List Nat)}, strsT ts = some ns → RpTs K F H xs ts f → ∃ zs : List Str, xs = zs.map V.str ∧ zs.map (fun z => z.cps.toList) = ns ∧ ∀ s ∈ ns, okS s = true
  | _, [], _, ns, e, .nil => by cases e; exact ⟨[], rfl, rfl, fun _ h => by cases h⟩
  | _, t :: ts, _, ns, e, .cons a b => by
    unfold strsT at e
    split at e
    · rename_i e0; cases e0
    · rename_i i ts' e0
      cases e0
      cases h : strsT ts with
      | none => rw [h] at e; cases e
      | some r =>
        rw [h] at e
        cases e
        obtain ⟨z, rfl, h1, h2, _⟩ := str_inv a
        obtain ⟨zs, h3, h4, h5⟩ := strsT_ok h b
        refine ⟨z :: zs, by rw [h3]; rfl, by rw [List.map_cons, h4, h1], fun s hs => ?_⟩
        rcases List.mem_cons.mp hs with rfl | hs
        · exact h2
        · exact h5 s hs
    · cases e
end
theorem maxL_spec : ∀ (xs : List Int) (a : Int), (maxL a xs = a ∨ maxL a xs ∈ xs) ∧ a ≤ maxL a xs ∧ ∀ y ∈ xs, y ≤ maxL a xs
  | [], a => ⟨.inl rfl, Int.le_refl _, fun _ h => by cases h⟩
  | x :: xs, a => by
    have e : maxL a (x :: xs) = maxL (if x > a then x else a) xs := rfl
    rw [e]
    obtain ⟨h1, h2, h3⟩ := maxL_spec xs (if x > a then x else a)
    refine ⟨?_, ?_, fun y hy => ?_⟩
    · rcases h1 with h1 | h1
      · rw [h1]; split
        · exact .inr (by simp)
        · exact .inl rfl
      · exact .inr (List.mem_cons_of_mem _ h1)
    · split at h2 <;> split <;> omega
    · rcases List.mem_cons.mp hy with rfl | hy
      · split at h2 <;> split <;> omega
      · exact h3 y hy
theorem maxL_is {a : Int} {xs : List Int} {m : Int} (h : m ∈ a :: xs) (k : ∀ y ∈ a :: xs, y ≤ m) : m = maxL a xs := by
  obtain ⟨h1, h2, h3⟩ := maxL_spec xs a
  have l1 : m ≤ maxL a xs := by
    rcases List.mem_cons.mp h with e | h
    · omega
    · exact h3 m h
  have l2 : maxL a xs ≤ m := by
    rcases h1 with e | e
    · rw [e]; exact k a (by simp)
    · exact k _ (List.mem_cons_of_mem _ e)
  omega
theorem minL_spec : ∀ (xs : List Int) (a : Int), (minL a xs = a ∨ minL a xs ∈ xs) ∧ minL a xs ≤ a ∧ ∀ y ∈ xs, minL a xs ≤ y
  | [], a => ⟨.inl rfl, Int.le_refl _, fun _ h => by cases h⟩
  | x :: xs, a => by
    have e : minL a (x :: xs) = minL (if x < a then x else a) xs := rfl
    rw [e]
    obtain ⟨h1, h2, h3⟩ := minL_spec xs (if x < a then x else a)
    refine ⟨?_, ?_, fun y hy => ?_⟩
    · rcases h1 with h1 | h1
      · rw [h1]; split
        · exact .inr (by simp)
        · exact .inl rfl
      · exact .inr (List.mem_cons_of_mem _ h1)
    · split at h2 <;> split <;> omega
    · rcases List.mem_cons.mp hy with rfl | hy
      · split at h2 <;> split <;> omega
      · exact h3 y hy
theorem minL_is {a : Int} {xs : List Int} {m : Int} (h : m ∈ a :: xs) (k : ∀ y ∈ a :: xs, m ≤ y) : m = minL a xs := by
  obtain ⟨h1, h2, h3⟩ := minL_spec xs a
  have l1 : minL a xs ≤ m := by
    rcases List.mem_cons.mp h with e | h
    · omega
    · exact h3 m h
  have l2 : m ≤ minL a xs := by
    rcases h1 with e | e
    · rw [e]; exact k a (by simp)
    · exact k _ (List.mem_cons_of_mem _ e)
  omega
theorem rpTs_one {K : W.Frag} {F : FF} {H : Hp} {xs : List V} {t : T} {f : List Addr} (r : RpTs K F H xs [t] f) : ∃ x, xs = [x] ∧ RpT K F H x t f := by
  cases r with | cons a b => cases b with | nil => exact ⟨_, rfl, by simpa using a⟩
theorem rpTs_two {K : W.Frag} {F : FF} {H : Hp} {xs : List V} {t u : T} {f : List Addr} (r : RpTs K F H xs [t, u] f) : ∃ x y g h, xs = [x, y] ∧ RpT K F H x t g ∧ RpT K F H y u h ∧ f = g ++ h := by
  cases r with | cons a b => cases b with | cons c d => cases d with | nil => exact ⟨_, _, _, _, rfl, a, c, by simp⟩
theorem okS_show (i : Int) (h : i.natAbs.log2 < 1920) : okS (showI i) = true := by
  unfold okS showI
  simp only [Bool.and_eq_true, decide_eq_true_eq, List.all_eq_true]
  refine ⟨?_, fun c hc => ?_⟩
  · have := int_text_fits h
    rw [strLen] at this
    exact this
  · have e : (Str.ofString (toString i)).cps.toList = (toString i).toList.map Char.toNat := TL.tl_ofString _
    rw [e] at hc
    obtain ⟨ch, _, rfl⟩ := List.mem_map.mp hc
    have := ch.valid
    simp only [UInt32.isValidChar, Nat.isValidChar] at this
    show ch.val.toNat < 1114112
    omega
theorem ints_rp {K : W.Frag} {F : FF} {H : Hp} : ∀ ns : List Int, RpTs K F H (ns.map V.int) (ns.map fun i => T.v (.int i)) []
  | [] => .nil
  | n :: ns => .cons (f := []) (g := []) (.v (.int n)) (ints_rp ns)
theorem rowsT_ok {K : W.Frag} {F : FF} {H : Hp} : ∀ {cs : List V} {us : List T} {f : List Addr} {rs : List (List T)}, rowsT us = some rs → Hs F H → RpTs K F H cs us f →
    ∃ (yss : List (List V)) (g : List Addr), (∀ (i : Nat) (c : V), cs[i]? = some c → ∃ d ys, c = V.ref d ∧ yss[i]? = some ys ∧ H d = some (.lst ys)) ∧ yss.length = cs.length ∧ RpTs K F H yss.flatten rs.flatten g ∧ ∀ c, g.count c ≤ f.count c
  | _, [], _, rs, e, _, .nil => by
    cases e
    exact ⟨[], [], fun i c h => by simp at h, rfl, .nil, fun c => Nat.le_refl _⟩
  | _, t :: ts, _, rs, e, hF, .cons a b => by
    unfold rowsT at e
    split at e
    · rename_i r rs' e1 e2
      cases e
      obtain ⟨p, xs, g, rfl, hp, r1, c1⟩ := asL_ok e1 hF a
      obtain ⟨yss, g', k1, k2, k3, k4⟩ := rowsT_ok e2 hF b
      refine ⟨xs :: yss, g ++ g', fun i c h => ?_, by simp [k2], by rw [List.flatten_cons, List.flatten_cons]; exact r1.append k3, fun c => ?_⟩
      · cases i with
        | zero => simp at h; subst h; exact ⟨p, xs, rfl, rfl, hp⟩
        | succ i =>
          obtain ⟨d, ys, h1, h2, h3⟩ := k1 i c (by simpa using h)
          exact ⟨d, ys, h1, by simpa using h2, h3⟩
      · have := c1 c
        have := k4 c
        simp only [List.count_append]
        omega
    · cases e
theorem bltT_ok {K : W.Frag} {G : Glob} {W : WX} {B : Base} {F : FF} {H : Hp} {σ : L2.St} {Γ : Env} {tmp fp : List Addr} {f : BF} {xs : List V} {ts : List T} {Q : VK} (rel : Rel K B F H σ Γ (fp ++ tmp)) (ra : RpTs K F H xs ts fp)
    (P : Post K G W B F H σ tmp (rT K) (R.op (bltT f ts) Γ) Q) : rF K f xs H Q := by
  have hc : ∀ c, tmp.count c ≤ (fp ++ tmp).count c := fun c => by simp only [List.count_append]; omega
  unfold bltT at P
  split at P
  · -- len
    rename_i t
    obtain ⟨x, rfl, r⟩ := rpTs_one ra
    cases e : sizeT t with
    | none => rw [e] at P; exact P.elim
    | some n =>
      rw [e] at P
      refine ⟨x, n, rfl, ?_, Post.flatv (Γ := Γ) P rel hc (.int _)⟩
      unfold sizeT at e
      split at e
      · cases e
        obtain ⟨z, rfl, h1, h2, _⟩ := str_inv r
        exact ⟨by rw [strLen, h1, sizeLine_eq]; exact okS_le h2, by rw [strLen, h1]⟩
      · cases e2 : asQ t with
        | none => rw [e2] at e; cases e
        | some us =>
          rw [e2] at e
          cases e
          obtain ⟨p, ys, g, rfl, hq, r1, _⟩ := asQ_ok e2 rel.hs r
          rcases hq with hq | hq
          · exact .inl ⟨_, hq, r1.length.symm⟩
          · exact .inr ⟨_, hq, r1.length.symm⟩
  · obtain ⟨x, y, g, h, rfl, r1, r2, rfl⟩ := rpTs_two ra
    obtain ⟨rfl, _⟩ := int_inv r1
    obtain ⟨rfl, _⟩ := int_inv r2
    exact .inl ⟨_, _, rfl, Post.flatv (Γ := Γ) P rel hc (.int _)⟩
  · obtain ⟨x, y, g, h, rfl, r1, r2, rfl⟩ := rpTs_two ra
    obtain ⟨rfl, _⟩ := int_inv r1
    obtain ⟨rfl, _⟩ := int_inv r2
    exact .inl ⟨_, _, rfl, Post.flatv (Γ := Γ) P rel hc (.int _)⟩
  · -- max of a list
    rename_i t
    obtain ⟨x, rfl, r⟩ := rpTs_one ra
    split at P
    · rename_i a r' e
      cases e1 : lOnly t with
      | none => rw [e1] at e; cases e
      | some us =>
        rw [e1] at e
        obtain ⟨p, ys, g, rfl, hq, r1, _⟩ := lOnly_ok e1 rel.hs r
        have := intsT_ok e r1
        subst this
        refine .inr ⟨p, a :: r', rfl, hq, by simp, fun m hm hk => ?_⟩
        rw [maxL_is hm hk]
        exact Post.flatv (Γ := Γ) P rel hc (.int _)
    · exact P.elim
  · rename_i t
    obtain ⟨x, rfl, r⟩ := rpTs_one ra
    split at P
    · rename_i a r' e
      cases e1 : lOnly t with
      | none => rw [e1] at e; cases e
      | some us =>
        rw [e1] at e
        obtain ⟨p, ys, g, rfl, hq, r1, _⟩ := lOnly_ok e1 rel.hs r
        have := intsT_ok e r1
        subst this
        refine .inr ⟨p, a :: r', rfl, hq, by simp, fun m hm hk => ?_⟩
        rw [minL_is hm hk]
        exact Post.flatv (Γ := Γ) P rel hc (.int _)
    · exact P.elim
  · -- sum
    rename_i t
    obtain ⟨x, rfl, r⟩ := rpTs_one ra
    cases e1 : lOnly t with
    | none => simp only [e1, Option.bind_none, Option.map_none] at P; exact P.elim
    | some us =>
      cases e2 : intsT us with
      | none => simp only [e1, Option.bind_some, e2, Option.map_none] at P; exact P.elim
      | some ns =>
        simp only [e1, Option.bind_some, e2, Option.map_some] at P
        obtain ⟨p, ys, g, rfl, hq, r1, _⟩ := lOnly_ok e1 rel.hs r
        have := intsT_ok e2 r1
        subst this
        exact .inl ⟨p, ns, rfl, hq, Post.flatv (Γ := Γ) P rel hc (.int _)⟩
  · -- sum of rows
    rename_i t
    obtain ⟨x, y, g, h, rfl, r1, r2, rfl⟩ := rpTs_two ra
    cases e1 : lOnly t with
    | none => simp only [e1, Option.bind_none] at P; exact P.elim
    | some us =>
      cases e2 : rowsT us with
      | none => simp only [e1, Option.bind_some, e2] at P; exact P.elim
      | some rs =>
        simp only [e1, Option.bind_some, e2] at P
        split at P
        · rename_i hz
          obtain ⟨p, cs, g', rfl, hq, r1', c1⟩ := lOnly_ok e1 rel.hs r1
          obtain ⟨yss, g'', k1, k2, k3, k4⟩ := rowsT_ok e2 rel.hs r1'
          cases r2 with
          | l hb r0 =>
            cases r0
            refine .inr ⟨p, _, cs, yss, rfl, hq, hb, k1, k2, by rw [k3.length]; exact Nat.le_trans hz (by rw [sizeLine_eq]; exact Nat.le_refl _), fun e => ?_, Post.newL (Γ := Γ) P rel k3 fun c => ?_⟩
            · have hy : yss = [] := List.length_eq_zero_iff.mp (by rw [k2, e]; rfl)
              subst hy
              have hn : rs.flatten = [] := by
                have := k3.length
                exact List.length_eq_zero_iff.mp this.symm
              rw [hn] at P
              exact P (.ref _) F H [_] (rel.less fun c => by simp only [List.count_append]; omega) (.l hb .nil) Sub.refl SubF.refl
            · have := c1 c
              have := k4 c
              simp only [List.count_append]
              omega
        · exact P.elim
  · -- sorted
    rename_i t
    obtain ⟨x, rfl, r⟩ := rpTs_one ra
    cases e1 : lOnly t with
    | none => simp only [e1, Option.bind_none, Option.map_none] at P; exact P.elim
    | some us =>
      obtain ⟨p, ys, g, rfl, hq, r1, c1⟩ := lOnly_ok e1 rel.hs r
      cases e2 : intsT us with
      | some ns =>
        simp only [e1, Option.bind_some, e2] at P
        have := intsT_ok e2 r1
        subst this
        refine .inl ⟨p, ns, rfl, hq, fun ns' q hp hs hn => ?_⟩
        rw [sortI_is hp hs]
        exact Post.newL (Γ := Γ) P rel (fs := []) (xs := (sortI ns).map V.int) (ints_rp _) (fun c => by simpa using hc c) q hn
      | none =>
        cases e3 : pairsT us with
        | none => simp only [e1, Option.bind_some, e2, e3, Option.map_none] at P; exact P.elim
        | some ps =>
          simp only [e1, Option.bind_some, e2, e3, Option.map_some] at P
          have e4 := pairsT_is e3
          subst e4
          obtain ⟨k1, k2⟩ := pairs_all rel.sub r1
          refine .inr ⟨p, ys, kH H, rfl, hq, k2, fun zs q hs hb hn => ?_⟩
          obtain ⟨qs, g', h1, h2, h3⟩ := pairs_perm hb.perm.symm r1
          obtain ⟨m1, _⟩ := pairs_all rel.sub h1
          have hqs : qs = sortP ps := sortP_is h2 (by rw [← m1]; exact srtd_pairs hs)
          rw [hqs] at h1
          exact Post.newL (Γ := Γ) P rel h1 (fun c => by have := c1 c; have := h3 c; simp only [List.count_append]; omega) q hn
  · -- all
    rename_i t
    obtain ⟨x, rfl, r⟩ := rpTs_one ra
    cases e1 : lOnly t with
    | none => simp only [e1, Option.bind_none, Option.map_none] at P; exact P.elim
    | some us =>
      cases e2 : boolsT us with
      | none => simp only [e1, Option.bind_some, e2, Option.map_none] at P; exact P.elim
      | some ns =>
        simp only [e1, Option.bind_some, e2, Option.map_some] at P
        obtain ⟨p, ys, g, rfl, hq, r1, _⟩ := lOnly_ok e1 rel.hs r
        have := boolsT_ok e2 r1
        subst this
        exact ⟨p, ns, rfl, hq, Post.flatv (Γ := Γ) P rel hc (.bl _)⟩
  · -- list
    rename_i t
    obtain ⟨x, rfl, r⟩ := rpTs_one ra
    cases e1 : asQ t with
    | none => rw [e1] at P; exact P.elim
    | some us =>
      rw [e1] at P
      obtain ⟨p, ys, g, rfl, hq, r1, c1⟩ := asQ_ok e1 rel.hs r
      exact ⟨p, ys, rfl, hq, Post.newL (Γ := Γ) P rel r1 fun c => by have := c1 c; simp only [List.count_append]; omega⟩
  · -- tuple
    rename_i t0
    obtain ⟨x, rfl, r⟩ := rpTs_one ra
    split at P
    · cases r with
      | v rd =>
        cases rd with
        | tup h rs => exact ⟨_, _, rfl, .inr ⟨.of (rel.sub.eq h rfl), Post.flatv (Γ := Γ) P rel hc (.tup h rs)⟩⟩
    · cases r with
      | tp h rs => exact ⟨_, _, rfl, .inr ⟨.of ((rel.nsub.trans rel.sub).eq h rfl), P _ F H _ rel (.tp h rs) Sub.refl SubF.refl⟩⟩
    · cases e1 : lOnly t0 with
      | none => rw [e1] at P; exact P.elim
      | some us =>
        rw [e1] at P
        obtain ⟨p, ys, g, rfl, hq, r1, c1⟩ := lOnly_ok e1 rel.hs r
        exact ⟨p, ys, rfl, .inl ⟨hq, Post.newT (Γ := Γ) P rel r1 fun c => by have := c1 c; simp only [List.count_append]; omega⟩⟩
  · -- str
    obtain ⟨x, rfl, r⟩ := rpTs_one ra
    obtain ⟨rfl, _⟩ := int_inv r
    split at P
    · rename_i h
      exact ⟨_, rfl, h, Post.flatv (Γ := Γ) P rel hc (str_mk rfl (okS_show _ h))⟩
    · exact P.elim
  · obtain ⟨x, rfl, r⟩ := rpTs_one ra
    obtain ⟨rfl, _⟩ := int_inv r
    exact .inl ⟨_, rfl, Post.flatv (Γ := Γ) P rel hc (.int _)⟩
  · obtain ⟨x, rfl, r⟩ := rpTs_one ra
    obtain ⟨rfl, _⟩ := bl_inv r
    exact .inr ⟨_, rfl, Post.flatv (Γ := Γ) P rel hc (.int _)⟩
  · obtain ⟨x, rfl, r⟩ := rpTs_one ra
    obtain ⟨rfl, _⟩ := int_inv r
    exact ⟨_, rfl, Post.flatv (Γ := Γ) P rel hc (.int _)⟩
  · exact P.elim
section
variable {G : Glob}
theorem ok_blt {f : BF} {m : Es} (hm : OkEs G m) : Ok G (.blt f m) := by
  have sh : ∀ {N sc b'} {e : Expr}, chkE N sc b' (.blt f m) e = true → ∃ fn y ys pos, e = .Call fn (y :: ys) [] pos ∧ isGl sc f.nm fn = true ∧ chkEs N sc b' m (y :: ys) = true := by
    intro N sc b' e c
    unfold chkE at c
    split at c
    · rw [Bool.and_eq_true] at c
      exact ⟨_, _, _, _, rfl, c.1, c.2⟩
    · cases c
  have pe : ∀ X W b' e, Gd X G W b' → chkE X.N X.env.scope b' (.blt f m) e = true → PE X e (TE' X.K G W (.blt f m)) := by
    intro X W b' e g c
    obtain ⟨fn, y, ys, pos, rfl, c1, c2⟩ := sh c
    obtain ⟨p, rfl, hg⟩ := isGl_of c1
    have c4 : ∃ m1 ms, m = .cons m1 ms ∧ chkEs X.N X.env.scope b' ms ys = true ∧ notStar y = true := by
      cases m with
      | nil => simp [chkEs] at c2
      | cons m1 ms => simp only [chkEs, Bool.and_eq_true] at c2; exact ⟨m1, ms, rfl, c2.2, c2.1.2⟩
    obtain ⟨m1, ms, e1, e2, e3⟩ := c4
    obtain ⟨b1, b2, b3, b4⟩ := boot_F f
    have key : PE X (.Call (.Name (Str.ofString f.nm) p) (y :: ys) [] pos) (tCB (rF X.K f) (TA' X.K G W m)) := by
      have cr := cr_F g.calm f
      have ha := hm X W b' (y :: ys) g c2
      unfold BF.val at cr b1
      by_cases ht : f.ty = true
      · rw [if_pos ht] at cr b1
        exact pe_callTy cr hg (g.blt _ b4) b1 ha b2 b3 (star_of e3) (plain_of e2)
      · rw [if_neg ht] at cr b1
        exact pe_callB cr hg (g.blt _ b4) b1 ha b2 b3 (star_of e3) (plain_of e2)
    refine PE.imp key fun σ H Q h => ?_
    exact args (r := rF X.K f) (fun B F H σ Γ tmp fp xs ts Q rel ra P => bltT_ok rel ra P) σ H Q h
  refine ⟨pe, fun X W b' e g c => ?_, pw_no fun N sc b op vs pos => rfl⟩
  obtain ⟨fn, y, ys, pos, rfl, c1, c2⟩ := sh c
  exact tB_of (pe X W b' _ g c) fun _ => rfl
theorem rg_rp {K : W.Frag} {F : FF} {H : Hp} (j : Int) : RpTs K F H (rgV 0 j) ((List.range j.toNat).map fun (i : Nat) => T.v (.int (i : Int))) [] := by
  have e : rgV 0 j = ((List.range j.toNat).map fun (i : Nat) => (i : Int)).map V.int := by
    unfold rgV
    rw [Int.sub_zero, List.map_map]
    exact List.map_congr_left fun i _ => by show V.int (0 + (i : Int)) = V.int (i : Int); rw [Int.zero_add]
  have e2 : ((List.range j.toNat).map fun (i : Nat) => T.v (.int (i : Int))) = ((List.range j.toNat).map fun (i : Nat) => (i : Int)).map fun i => T.v (.int i) := by rw [List.map_map]; rfl
  rw [e, e2]
  exact ints_rp _
theorem ok_lrn {a : E} (ha : Ok G a) : Ok G (.lrn a) := by
  have sh : ∀ {N sc b'} {e : Expr}, chkE N sc b' (.lrn a) e = true → ∃ fn gn y pos pos2, e = .Call fn [.Call gn [y] [] pos2] [] pos ∧ isGl sc "list" fn = true ∧ isGl sc "range" gn = true ∧ chkE N sc b' a y = true ∧ notStar y = true := by
    intro N sc b' e c
    unfold chkE at c
    split at c
    · simp only [Bool.and_eq_true] at c
      exact ⟨_, _, _, _, _, rfl, c.1.1.1, c.1.1.2, c.1.2, c.2⟩
    · cases c
  have pe : ∀ X W b' e, Gd X G W b' → chkE X.N X.env.scope b' (.lrn a) e = true → PE X e (TE' X.K G W (.lrn a)) := by
    intro X W b' e g c
    obtain ⟨fn, gn, y, pos, pos2, rfl, c1, c2, c3, c4⟩ := sh c
    obtain ⟨p, rfl, hg⟩ := isGl_of c1
    obtain ⟨p2, rfl, hg2⟩ := isGl_of c2
    refine PE.imp (pe_listRg g.calm hg (g.blt "list" (by decide)) (prg_1 hg2 (g.blt "range" (by decide)) (ha.pe X W b' y g c3) (star_of c4))) fun σ H Q h => ?_
    refine one (r := fun x H1 Q => ∃ n, x = V.int n ∧ RgOk 0 n ∧ ∀ q, H1 q = none → Q (.ref q) (upd H1 q (.lst (rgV 0 n)))) (fun B F H σ Γ tmp fa x ta Q rel ra P => ?_) σ H Q h
    split at P
    · obtain ⟨rfl, rfl⟩ := int_inv ra
      split at P
      · rename_i hs
        rw [Bool.and_eq_true, decide_eq_true_eq] at hs
        have h12 := hs.1
        unfold small62 at h12
        obtain ⟨h1, h2⟩ := of_decide_eq_true h12
        refine ⟨_, rfl, ⟨by decide, by decide, h1, h2, ?_⟩, Post.newL (Γ := Γ) P rel (rg_rp _) fun c => by simp⟩
        have := hs.2
        rw [Int.sub_zero]
        show Int.toNat _ ≤ 16777216
        have e : LIM = 16777216 := rfl
        rw [e] at this
        omega
      · exact P.elim
    · exact P.elim
  refine ⟨pe, fun X W b' e g c => ?_, pw_no fun N sc b op vs pos => rfl⟩
  obtain ⟨fn, gn, y, pos, pos2, rfl, c1, c2, c3, c4⟩ := sh c
  exact tB_of (pe X W b' _ g c) fun _ => rfl
end
end Tv

namespace Tv
open PySem PySem.Spec PyProof.Rows L2

/-! ### isinstance -/
def D.tyn : D → String
  | .non => "NoneType" | .bl _ => "bool" | .int _ => "int" | .str _ => "str" | .lst _ => "list" | .scr _ => "list" | .tup _ => "tuple" | .ktp _ => "tuple" | .dct _ _ _ => "dict" | .obj _ _ _ => "object" | .exc _ _ _ => "object"
theorem kit_isi (K : W.Frag) (d : D) (t : Ty) (h : d.tyOk = true) : PySem.W.kitOne K (.type d.tyn) (.type t.nm) = some (d.isi t) := by
  cases d <;> first | (cases h; done) | (cases t <;> rfl)
theorem ty_seqL {K : W.Frag} {H : Hp} {a : Addr} {xs : List V} (h : SqL K H a xs) : TyX K H (.ref a) (.type "list") := by
  rcases h with (h | ⟨o, h⟩) | ⟨o, its, n, h1, h2, _⟩
  · exact .base (.lst h)
  · exact .base (.frz h)
  · exact .kList h1 h2
theorem ty_seqT {K : W.Frag} {H : Hp} {a : Addr} {xs : List V} (h : SqT K H a xs) : TyX K H (.ref a) (.type "tuple") := by
  rcases h with (h | ⟨o, h⟩) | ⟨o, its, n, h1, h2, _⟩
  · exact .base (.tup h)
  · exact .fTuple h
  · exact .kTuple h1 h2
theorem RpD.ty {K : W.Frag} {H : Hp} {x : V} {d : D} (r : RpD K H x d) (ok : d.tyOk = true) : TyX K H x (.type d.tyn) := by
  cases r with
  | non => exact .base .non
  | bl b => exact .base (.bl b)
  | int i => exact .base (.int i)
  | str z _ => exact .base (.str z)
  | lst h _ => exact .base (.lst h)
  | tup h _ => exact ty_seqT (.of h)
  | ktp h _ => exact ty_seqT h
  | scr h => exact ty_seqL h
  | dct h q r =>
    cases q with
    | k kvs _ _ =>
      rcases h with h | ⟨o, h⟩
      · exact .base (.dK h)
      · exact .fDict h
    | t kvs _ _ => cases ok
  | obj _ _ _ _ _ => cases ok
  | exc _ _ _ _ _ => cases ok
theorem boot_Ty (t : Ty) : bootBuiltins (Str.ofString t.nm) = some (.type t.nm) ∧ Str.ofString t.nm ≠ "__name__" ∧ (Str.ofString t.nm == ("__debug__" : Str)) = false ∧ t.nm ∈ bltNames := by
  cases t <;> exact ⟨by decide +kernel, by decide +kernel, by decide +kernel, by decide⟩
section
variable {G : Glob}
theorem ok_isi {a : E} {t : Ty} (ha : Ok G a) : Ok G (.isi a t) := by
  have sh : ∀ {N sc b'} {e : Expr}, chkE N sc b' (.isi a t) e = true → ∃ fn x y pos, e = .Call fn [x, y] [] pos ∧ isGl sc "isinstance" fn = true ∧ chkE N sc b' a x = true ∧ isGl sc t.nm y = true := by
    intro N sc b' e c
    unfold chkE at c
    split at c
    · simp only [Bool.and_eq_true] at c
      exact ⟨_, _, _, _, rfl, c.1.1, c.1.2, c.2⟩
    · cases c
  have pe : ∀ X W b' e, Gd X G W b' → chkE X.N X.env.scope b' (.isi a t) e = true → PE X e (TE' X.K G W (.isi a t)) := by
    intro X W b' e g c
    obtain ⟨fn, x, y, pos, rfl, c1, c2, c3⟩ := sh c
    obtain ⟨p, rfl, hg⟩ := isGl_of c1
    obtain ⟨p2, rfl, hg2⟩ := isGl_of c3
    obtain ⟨b1, b2, b3, b4⟩ := boot_Ty t
    have hx := ha.pe X W b' x g c2
    have py : PE X (.Name (Str.ofString t.nm) p2) (tC (.ty t.nm)) := pe_bltn hg2 (g.blt _ b4) b1 rfl b2 b3
    have st : starEach (x :: [Expr.Name (Str.ofString t.nm) p2]) X.env = (false, eval x X.env) :: starEach [Expr.Name (Str.ofString t.nm) p2] X.env := star_of (chk_notStar c2)
    refine PE.imp (pe_callB call_isi hg (g.blt "isinstance" (by decide)) (by decide +kernel) (pa_cons hx (pa_cons py pa_nil) st) (by decide +kernel) (by decide +kernel) st rfl) fun σ H Q h => ?_
    refine one (rep := rT X.K) (r := fun x H (Q : VK) => rIsi X.K [x, .ty t.nm] H Q) (fun B F H σ Γ tmp fa x ta Q rel ra P => ?_) σ H Q h
    cases ok : ta.er.tyOk with
    | false => simp only [ok, Bool.false_eq_true, if_false] at P; exact P.elim
    | true =>
    simp only [ok, if_true] at P
    exact ⟨x, _, _, _, _, rfl, .ty _, (rel.rd ra).ty ok, kit_isi _ _ _ ok, P.flatv rel (fun c => by simp only [List.count_append]; omega) (.bl _)⟩
  refine ⟨pe, fun X W b' e g c => ?_, pw_no fun N sc b op vs pos => rfl⟩
  obtain ⟨fn, x, y, pos, rfl, c1, c2, c3⟩ := sh c
  exact tB_of (pe X W b' _ g c) fun _ => rfl

/-! ### items, slices -/
theorem RpTs.get : ∀ {K : W.Frag} {F : FF} {H : Hp} {xs : List V} {ts : List T} {f : List Addr} (i : Nat) {t : T}, RpTs K F H xs ts f → ts[i]? = some t → ∃ x g, xs[i]? = some x ∧ RpT K F H x t g ∧ ∀ c, g.count c ≤ f.count c
  | _, _, _, _, _, _, _, _, .nil, e => by simp at e
  | _, _, _, _, _, _, 0, _, .cons (f := f) r _, e => by
    simp at e; subst e
    exact ⟨_, f, rfl, r, fun c => by rw [List.count_append]; omega⟩
  | _, _, _, _, _, _, i + 1, t, .cons _ rs, e => by
    obtain ⟨u, g, h1, h2, h3⟩ := RpTs.get i rs (t := t) (by simpa using e)
    exact ⟨u, g, by simpa using h1, h2, fun c => by rw [List.count_append]; have := h3 c; omega⟩
theorem RpTs.atI {K : W.Frag} {F : FF} {H : Hp} {xs : List V} {ts : List T} {f : List Addr} {i : Int} {t : T} (r : RpTs K F H xs ts f) (e : atI ts i = some t) : ∃ x g, L2.atI xs i = some x ∧ RpT K F H x t g ∧ ∀ c, g.count c ≤ f.count c := by
  unfold L2.atI at e ⊢
  rw [r.length]
  cases h : ixN ts.length i with
  | none => rw [h] at e; cases e
  | some j =>
    rw [h] at e
    exact r.get j e
def rIx (K : W.Frag) : R2 := fun x y H Q => rIxL K x y H Q ∨ rIxT K x y H Q ∨ rIxS x y H Q
theorem ix_any {X : Cx} : IxR X (rIx X.K) := IxR.or ix_list (IxR.or ix_tup ix_str)
theorem okS_one {s : List Nat} {c : Nat} (h : okS s = true) (m : c ∈ s) : okS [c] = true := by
  unfold okS at *
  simp only [Bool.and_eq_true, decide_eq_true_eq, List.all_eq_true] at *
  refine ⟨by rw [sizeLine_eq]; exact (by decide : 1 ≤ 16777216), fun x hx => ?_⟩
  rw [List.mem_singleton.mp hx]
  exact h.2 c m
theorem ixT_ok {K : W.Frag} {G : Glob} {W : WX} {B : Base} {F : FF} {H : Hp} {σ : L2.St} {Γ : Env} {tmp fa fb : List Addr} {x y : V} {a b : T} {Q : VK} (rel : Rel K B F H σ Γ (fb ++ (fa ++ tmp))) (ra : RpT K F H x a fa) (rb : RpT K F H y b fb)
    (P : Post K G W B F H σ tmp (rT K) (R.op (ixT a b) Γ) Q) : rIx K x y H Q := by
  have hc : ∀ c, tmp.count c ≤ (fb ++ (fa ++ tmp)).count c := fun c => by simp only [List.count_append]; omega
  unfold ixT at P
  split at P
  · rename_i s k
    obtain ⟨rfl, rfl⟩ := int_inv rb
    obtain ⟨z, rfl, h1, h2, rfl⟩ := str_inv ra
    cases e : L2.atI s k with
    | none => rw [e] at P; exact P.elim
    | some c =>
      rw [e] at P
      have hm : c ∈ s := by
        unfold L2.atI at e
        cases q : ixN s.length k with
        | none => rw [q] at e; cases e
        | some j => rw [q] at e; exact List.mem_of_getElem? e
      exact .inr (.inr ⟨z, k, c, rfl, rfl, by rw [strLen, h1, sizeLine_eq]; exact okS_le h2, by rw [h1]; exact e, Post.flatv (Γ := Γ) P rel hc (str_mk rfl (okS_one h2 hm))⟩)
  · rename_i k _
    obtain ⟨rfl, rfl⟩ := int_inv rb
    cases e : asQ a with
    | none => rw [e] at P; exact P.elim
    | some ts =>
      rw [e] at P
      cases e2 : L2.atI ts k with
      | none => simp only [Option.bind_some, e2] at P; exact P.elim
      | some t =>
        simp only [Option.bind_some, e2] at P
        obtain ⟨p, xs, g, rfl, hq, r1, c1⟩ := asQ_ok e rel.hs ra
        obtain ⟨v, g2, hv, rv, c2⟩ := r1.atI e2
        have q : Q v H := P v F H g2 (rel.less fun c => by have := c1 c; have := c2 c; simp only [List.count_append]; omega) rv Sub.refl SubF.refl
        rcases hq with hq | hq
        · exact .inl ⟨p, xs, k, v, rfl, rfl, hq, hv, q⟩
        · exact .inr (.inl ⟨p, xs, k, v, rfl, rfl, hq, hv, q⟩)
  · exact P.elim
theorem chk_slice {N sc b m a c d p} : chkE N sc b m (.Slice a c d p) = false := by cases m <;> rfl
theorem plainIx_of {N sc b m e} (h : chkE N sc b m e = true) : PlainIx e := by
  cases e with
  | Slice a c d p => rw [chk_slice] at h; cases h
  | _ => exact fun _ _ => rfl
theorem ok_ix {a i : E} (ha : Ok G a) (hi : Ok G i) : Ok G (.ix a i) := by
  have sh : ∀ {N sc b'} {e : Expr}, chkE N sc b' (.ix a i) e = true → ∃ x y pos, e = .Subscript x y pos ∧ chkE N sc b' a x = true ∧ chkE N sc b' i y = true := by
    intro N sc b' e c
    unfold chkE at c
    split at c
    · rw [Bool.and_eq_true] at c
      exact ⟨_, _, _, rfl, c.1, c.2⟩
    · cases c
  have pe : ∀ X W b' e, Gd X G W b' → chkE X.N X.env.scope b' (.ix a i) e = true → PE X e (TE' X.K G W (.ix a i)) := by
    intro X W b' e g c
    obtain ⟨x, y, pos, rfl, c1, c2⟩ := sh c
    exact PE.imp (pe_ix ix_any (ha.pe X W b' x g c1) (hi.pe X W b' y g c2) (plainIx_of c2)) fun σ H Q h => two (f := fun x y Γ => R.op (ixT x y) Γ) (fun B F H σ Γ tmp fa fb x y ta tb Q rel ra rb P => ixT_ok rel ra rb P) σ H Q h
  refine ⟨pe, fun X W b' e g c => ?_, pw_no fun N sc b op vs pos => rfl⟩
  obtain ⟨x, y, pos, rfl, c1, c2⟩ := sh c
  exact tB_of (pe X W b' _ g c) fun _ => rfl
theorem oko_no : OkO G .no := by
  intro X W b e g c
  cases e with
  | none =>
    refine PO.imp po_none fun σ H Q h => ?_
    obtain ⟨B, F, Γ, tmp, rel, P⟩ := h
    exact P none F H [] (by simpa using rel) ⟨rfl, rfl⟩ Sub.refl SubF.refl
  | some e => simp [chkO] at c
theorem oko_so {m : E} (hm : Ok G m) : OkO G (.so m) := by
  intro X W b e g c
  cases e with
  | none => simp [chkO] at c
  | some e =>
    refine PO.imp (po_some (hm.pe X W b e g (by simpa [chkO] using c))) fun σ H Q h => ?_
    refine one (β := Option Int) (rep := fun _ _ v a fp => v = a ∧ fp = []) (r := fun x H Q => ∃ i, x = V.int i ∧ Q (some i) H) (fun B F H σ Γ tmp fa x ta Q rel ra P => ?_) σ H Q h
    split at P
    · obtain ⟨rfl, rfl⟩ := int_inv ra
      exact ⟨_, rfl, P _ F H [] (by simpa using rel) ⟨rfl, rfl⟩ Sub.refl SubF.refl⟩
    · exact P.elim
theorem RpTs.take : ∀ {K : W.Frag} {F : FF} {H : Hp} (n : Nat) {xs : List V} {ts : List T} {f : List Addr}, RpTs K F H xs ts f → ∃ g, RpTs K F H (xs.take n) (ts.take n) g ∧ ∀ c, g.count c ≤ f.count c
  | _, _, _, 0, _, _, _, _ => ⟨[], by simpa using .nil, fun c => by simp⟩
  | _, _, _, n + 1, _, _, _, .nil => ⟨[], .nil, fun c => by simp⟩
  | _, _, _, n + 1, _, _, _, .cons (f := f) a b => by
    obtain ⟨g, h1, h2⟩ := RpTs.take n b
    exact ⟨f ++ g, .cons a h1, fun c => by rw [List.count_append, List.count_append]; have := h2 c; omega⟩
theorem RpTs.drop : ∀ {K : W.Frag} {F : FF} {H : Hp} (n : Nat) {xs : List V} {ts : List T} {f : List Addr}, RpTs K F H xs ts f → ∃ g, RpTs K F H (xs.drop n) (ts.drop n) g ∧ ∀ c, g.count c ≤ f.count c
  | _, _, _, 0, _, _, f, r => ⟨f, r, fun c => Nat.le_refl _⟩
  | _, _, _, n + 1, _, _, _, .nil => ⟨[], .nil, fun c => by simp⟩
  | _, _, _, n + 1, _, _, _, .cons a b => by
    obtain ⟨g, h1, h2⟩ := RpTs.drop n b
    exact ⟨g, h1, fun c => by rw [List.count_append]; have := h2 c; omega⟩
theorem RpTs.cut {K : W.Frag} {F : FF} {H : Hp} {xs : List V} {ts : List T} {f : List Addr} (r : RpTs K F H xs ts f) (lo hi : Option Int) : ∃ g, RpTs K F H (cutV xs lo hi) (cutL ts lo hi) g ∧ ∀ c, g.count c ≤ f.count c := by
  unfold cutV cutL
  rw [r.length]
  obtain ⟨g, h1, h2⟩ := r.drop (HT.sIx ts.length 0 lo)
  obtain ⟨g', h3, h4⟩ := h1.take (HT.sIx ts.length ts.length hi - HT.sIx ts.length 0 lo)
  exact ⟨g', h3, fun c => Nat.le_trans (h4 c) (h2 c)⟩
theorem RpTs.rev : ∀ {K : W.Frag} {F : FF} {H : Hp} {xs : List V} {ts : List T} {f : List Addr}, RpTs K F H xs ts f → ∃ g, RpTs K F H xs.reverse ts.reverse g ∧ ∀ c, g.count c ≤ f.count c
  | _, _, _, _, _, _, .nil => ⟨[], .nil, fun c => by simp⟩
  | _, _, _, _, _, _, .cons (f := f) a b => by
    obtain ⟨g, h1, h2⟩ := RpTs.rev b
    refine ⟨g ++ (f ++ []), ?_, fun c => by simp only [List.count_append, List.count_nil]; have := h2 c; omega⟩
    rw [List.reverse_cons, List.reverse_cons]
    exact h1.append (.cons a .nil)
theorem okS_sub {s t : List Nat} (h : okS s = true) (m : ∀ c ∈ t, c ∈ s) (hl : t.length ≤ s.length) : okS t = true := by
  unfold okS at *
  simp only [Bool.and_eq_true, decide_eq_true_eq, List.all_eq_true] at *
  exact ⟨by omega, fun x hx => h.2 x (m x hx)⟩
def rSl (K : W.Frag) : V → Option Int → Option Int → Hp → VK → Prop := fun x lo hi H Q => rSlL K x lo hi H Q ∨ rSlS x lo hi H Q
theorem sl_any {X : Cx} : SlR X (rSl X.K) := SlR.or sl_list sl_str
theorem slT_ok {K : W.Frag} {G : Glob} {W : WX} {B : Base} {F : FF} {H : Hp} {σ : L2.St} {Γ : Env} {tmp tmp2 fa : List Addr} {x : V} {a : T} {lo hi : Option Int} {Q : VK} (rel : Rel K B F H σ Γ tmp2) (hc : ∀ c, fa.count c + tmp.count c ≤ tmp2.count c) (ra : RpT K F H x a fa)
    (P : Post K G W B F H σ tmp (rT K) (R.op (slT a lo hi) Γ) Q) : rSl K x lo hi H Q := by
  unfold slT at P
  split at P
  · rename_i s
    obtain ⟨z, rfl, h1, h2, rfl⟩ := str_inv ra
    refine .inr ⟨z, rfl, by rw [strLen, h1, sizeLine_eq]; exact okS_le h2, Post.flatv (Γ := Γ) P rel (fun c => by have := hc c; omega) ?_⟩
    refine str_mk ?_ ?_
    · unfold cutS cutL
      rw [strLen, h1]
    · unfold cutL
      refine okS_sub h2 (fun c m => ?_) ?_
      · exact List.mem_of_mem_drop (List.mem_of_mem_take m)
      · rw [List.length_take, List.length_drop]; omega
  · cases e : lOnly a with
    | none => rw [e] at P; exact P.elim
    | some ts =>
      rw [e] at P
      obtain ⟨p, xs, g, rfl, hq, r1, c1⟩ := lOnly_ok e rel.hs ra
      obtain ⟨g2, r2, c2⟩ := r1.cut lo hi
      exact .inl ⟨p, xs, rfl, hq, Post.newL (Γ := Γ) P rel r2 fun c => by have := c1 c; have := c2 c; have := hc c; omega⟩
theorem ok_sl {a : E} {lo hi : OE} (ha : Ok G a) (hl : OkO G lo) (hh : OkO G hi) : Ok G (.sl a lo hi) := by
  have sh : ∀ {N sc b'} {e : Expr}, chkE N sc b' (.sl a lo hi) e = true → ∃ x l h p pos, e = .Subscript x (.Slice l h none p) pos ∧ chkE N sc b' a x = true ∧ chkO N sc b' lo l = true ∧ chkO N sc b' hi h = true := by
    intro N sc b' e c
    unfold chkE at c
    split at c
    · simp only [Bool.and_eq_true] at c
      exact ⟨_, _, _, _, _, rfl, c.1.1, c.1.2, c.2⟩
    · cases c
  have pe : ∀ X W b' e, Gd X G W b' → chkE X.N X.env.scope b' (.sl a lo hi) e = true → PE X e (TE' X.K G W (.sl a lo hi)) := by
    intro X W b' e g c
    obtain ⟨x, l, h, p, pos, rfl, c1, c2, c3⟩ := sh c
    refine PE.imp (pe_slice sl_any (ha.pe X W b' x g c1) (hl X W b' l g c2) (hh X W b' h g c3)) ?_
    rintro σ H Q ⟨B, F, Γ, tmp, rel, P⟩
    refine ⟨B, F, Γ, tmp, rel, (P.bind (rep := rT X.K) (fp := [])).imp ?_⟩
    rintro x H1 ⟨ta, Γ1, F1, fa, rel1, ra, sH1, sF1, P1⟩
    refine ⟨B, F1, Γ1, fa ++ tmp, rel1, (Post.bind (rep := fun _ _ v a fp => v = a ∧ fp = []) (fp := fa) P1).imp ?_⟩
    rintro l H2 ⟨l', Γ2, F2, fl, rel2, ⟨rfl, rfl⟩, sH2, sF2, P2⟩
    refine ⟨B, F2, Γ2, fa ++ tmp, by simpa using rel2, (Post.bind (rep := fun _ _ v a fp => v = a ∧ fp = []) (fp := fa) P2).imp ?_⟩
    rintro h H3 ⟨h', Γ3, F3, fh, rel3, ⟨rfl, rfl⟩, sH3, sF3, P3⟩
    exact slT_ok (Γ := Γ3) rel3 (fun c => by simp only [List.count_append]; omega) ((ra.grow sF2 sH2).grow sF3 sH3) P3
  refine ⟨pe, fun X W b' e g c => ?_, pw_no fun N sc b op vs pos => rfl⟩
  obtain ⟨x, l, h, p, pos, rfl, c1, c2, c3⟩ := sh c
  exact tB_of (pe X W b' _ g c) fun _ => rfl
theorem ok_rev {a : E} (ha : Ok G a) : Ok G (.rev a) := by
  have sh : ∀ {N sc b'} {e : Expr}, chkE N sc b' (.rev a) e = true → ∃ x k p1 p2 p3 pos, e = .Subscript x (.Slice none none (some (.UnaryOp .USub (.Constant (.int 1) k p1) p2)) p3) pos ∧ chkE N sc b' a x = true := by
    intro N sc b' e c
    unfold chkE at c
    split at c
    · exact ⟨_, _, _, _, _, _, rfl, c⟩
    · cases c
  have pe : ∀ X W b' e, Gd X G W b' → chkE X.N X.env.scope b' (.rev a) e = true → PE X e (TE' X.K G W (.rev a)) := by
    intro X W b' e g c
    obtain ⟨x, k, p1, p2, p3, pos, rfl, c1⟩ := sh c
    refine PE.imp (pe_revL (ha.pe X W b' x g c1)) fun σ H Q h => ?_
    refine one (rep := rT X.K) (r := fun x H (Q : VK) => ∃ a xs, x = V.ref a ∧ SqL X.K H a xs ∧ ∀ p, H p = none → Q (.ref p) (upd H p (.lst xs.reverse))) (fun B F H σ Γ tmp fa x ta Q rel ra P => ?_) σ H Q h
    unfold revT at P
    cases e : lOnly ta with
    | none => rw [e] at P; exact P.elim
    | some ts =>
      rw [e] at P
      obtain ⟨p, xs, g, rfl, hq, r1, c1⟩ := lOnly_ok e rel.hs ra
      obtain ⟨g2, r2, c2⟩ := r1.rev
      exact ⟨p, xs, rfl, hq, Post.newL (Γ := Γ) P rel r2 fun c => by have := c1 c; have := c2 c; simp only [List.count_append]; omega⟩
  refine ⟨pe, fun X W b' e g c => ?_, pw_no fun N sc b op vs pos => rfl⟩
  obtain ⟨x, k, p1, p2, p3, pos, rfl, c1⟩ := sh c
  exact tB_of (pe X W b' _ g c) fun _ => rfl
end
end Tv

namespace Tv
open PySem PySem.Spec PyProof.Rows L2

/-! ### what is walked -/
/-- frozen things -/
inductive RpF (K : W.Frag) (F : FF) : V → T → Prop
  | v {x : V} {d : D} (r : RpD K F.f x d) : RpF K F x (.v d)
  | w {x : V} {d : D} (r : RpD K F.n x d) : RpF K F x (.w d)
theorem RpF.rt {K : W.Frag} {F : FF} {x : V} {t : T} (r : RpF K F x t) (H : Hp) : RpT K F H x t [] := by
  cases r with
  | v r => exact .v r
  | w r => exact .w r
theorem RpF.noB {K : W.Frag} {F : FF} {x : V} {t : T} (r : RpF K F x t) : t.noB = true := by cases r <;> rfl
theorem RpF.mono {K : W.Frag} {F F' : FF} (h : SubF F F') {x : V} {t : T} (r : RpF K F x t) : RpF K F' x t := by
  cases r with
  | v r => exact .v (r.mono h.f)
  | w r => exact .w (r.mono h.n)
structure RpFs (K : W.Frag) (F : FF) (xs : List V) (ts : List T) : Prop where
  length : xs.length = ts.length
  getV : ∀ (i : Nat) {x : V}, xs[i]? = some x → ∃ t, ts[i]? = some t ∧ RpF K F x t
theorem RpFs.ofV {K : W.Frag} {F : FF} {xs : List V} {ds : List D} (r : RpDs K F.f xs ds) : RpFs K F xs (ds.map .v) := ⟨by rw [r.length, List.length_map], fun i x e => by
  obtain ⟨d, h1, h2⟩ := r.getV i e
  exact ⟨.v d, by rw [List.getElem?_map, h1]; rfl, .v h2⟩⟩
theorem RpFs.ofW {K : W.Frag} {F : FF} (hN : Sub F.n F.f) {xs : List V} {ds : List D} (r : RpDs K F.n xs ds) : RpFs K F xs (ds.map subW) := ⟨by rw [r.length, List.length_map], fun i x e => by
  obtain ⟨d, h1, h2⟩ := r.getV i e
  refine ⟨subW d, by rw [List.getElem?_map, h1]; rfl, ?_⟩
  unfold subW
  split
  · exact .v (h2.mono hN)
  · exact .w h2⟩
theorem RpFs.ints {K : W.Frag} {F : FF} (ns : List Int) : RpFs K F (ns.map V.int) (ns.map fun n => T.v (.int n)) := ⟨by simp, fun i x e => by
  rw [List.getElem?_map] at e
  obtain ⟨n, h1, rfl⟩ := Option.map_eq_some_iff.mp e
  exact ⟨_, by rw [List.getElem?_map, h1]; rfl, .v (.int n)⟩⟩
theorem RpFs.mono {K : W.Frag} {F F' : FF} (h : SubF F F') {xs : List V} {ts : List T} (r : RpFs K F xs ts) : RpFs K F' xs ts := ⟨r.length, fun i x e => by
  obtain ⟨t, h1, h2⟩ := r.getV i e
  exact ⟨t, h1, h2.mono h⟩⟩
def YD (K : W.Frag) (F : FF) (ts : List T) : Nat → Hp → V → Hp → Prop := fun i H x H' => ∃ t, ts[i]? = some t ∧
  ((H' = H ∧ RpF K F x t) ∨ (∃ A a b x1 x2, t = .tp [a, b] ∧ x = .ref A ∧ H A = none ∧ H' = upd H A (.tup [x1, x2]) ∧ RpF K F x1 a ∧ RpF K F x2 b))
def rI' (K : W.Frag) : FF → Hp → It → List T → List Addr → Prop := fun F H J ts fp => fp = [] ∧ Walk J ts.length (fun H => Sub F.f H) (YD K F ts)
def OkI (G : Glob) (m : I) : Prop := ∀ X W b tg e, Gd X G W b → chkI X.N X.env.scope b m tg e = true → PI X tg e (TM X.K G W (rI' X.K) (evI G.cl G.con m)) ∧ notSet e = true
def iSeq (K : W.Frag) (tl : TE) : TI := fun σ H R => tl σ H fun x H1 => (∃ a, x = V.ref a ∧ (∃ xs, SqL K H1 a xs) ∧ R (Itl K a) H1) ∨ (∃ a, x = V.ref a ∧ (∃ xs, SqT K H1 a xs) ∧ R (Itt K a) H1) ∨ (∃ z, x = V.str z ∧ R (Its z) H1)
theorem pi_seq {X : Cx} {tg l : Expr} {tl : TE} (hl : PE X l tl) : PI X tg l (iSeq X.K tl) := by
  refine ⟨fun pins s σ H R I h => ?_⟩
  refine thn (hl.run pins s σ H _ I h) fun v s1 ⟨x, H1, I1, r1, q1⟩ => ?_
  rcases q1 with ⟨a, e, ⟨xs, hq⟩, q⟩ | ⟨a, e, ⟨xs, hq⟩, q⟩ | ⟨z, e, q⟩
  · subst e
    cases r1
    obtain ⟨its, rv, p, hz⟩ := I1.list hq
    refine wpAny_pyIter_list p.isList ?_
    refine ⟨s1.heap.objs.size, [s1.heap.objs.size], _, _, H1, rfl, I1.kept (t' := s1.toks) fun b o e => Heap.get?_push_of_some _ e, turn_list a _, ⟨_, Heap.get?_push_size _ rfl, rfl, rfl⟩, fun b hb => ?_, q⟩
    have e : b = s1.heap.objs.size := by simpa using hb
    subst e
    exact I1.fpOk (Nat.le_refl _) (I1.hok.fresh (Nat.le_refl _))
  · subst e
    cases r1
    obtain ⟨its, rv, p, hz⟩ := I1.tuple hq
    refine wpAny_pyIter_tuple (show s1.heap.IsTuple a its.toArray from p) ?_
    refine ⟨s1.heap.objs.size, [s1.heap.objs.size], _, _, H1, rfl, I1.kept (t' := s1.toks) fun b o e => Heap.get?_push_of_some _ e, turn_tuple a _, ⟨_, Heap.get?_push_size _ rfl, rfl, rfl⟩, fun b hb => ?_, q⟩
    have e : b = s1.heap.objs.size := by simpa using hb
    subst e
    exact I1.fpOk (Nat.le_refl _) (I1.hok.fresh (Nat.le_refl _))
  · subst e
    obtain ⟨t, rfl⟩ := r1
    cases ha : z.cps.all (· < 128)
    · exact wpAny_pyIter_wide ha (pi_one (tk := s1.toks) I1 _ (turn_str _ z t "str_iterator" (.inr rfl)) ⟨_, Heap.get?_push_size _ rfl, rfl, rfl⟩ q)
    · exact wpAny_pyIter_ascii ha (pi_one (tk := s1.toks) I1 _ (turn_str _ z t "str_ascii_iterator" (.inl rfl)) ⟨_, Heap.get?_push_size _ rfl, rfl, rfl⟩ q)
section
variable {K : W.Frag} {F : FF}
theorem walkD_list {a : Addr} {xs : List V} {ts : List T} (h : SqL K F.f a xs) (r : RpFs K F xs ts) : Walk (Itl K a) ts.length (fun H => Sub F.f H) (YD K F ts) := by
  rw [← r.length]
  refine (walk_list (K := K) (a := a) (xs := xs)).mono (fun H s => s.sqL h) ?_
  rintro i H x H' hi _ ⟨rfl, hx⟩
  obtain ⟨d, h1, h2⟩ := r.getV i hx
  exact ⟨d, h1, .inl ⟨rfl, h2⟩⟩
theorem walkD_tup {a : Addr} {xs : List V} {ts : List T} (h : SqT K F.f a xs) (r : RpFs K F xs ts) : Walk (Itt K a) ts.length (fun H => Sub F.f H) (YD K F ts) := by
  rw [← r.length]
  refine (walk_tup (K := K) (a := a) (xs := xs)).mono (fun H s => s.sqT h) ?_
  rintro i H x H' hi _ ⟨rfl, hx⟩
  obtain ⟨d, h1, h2⟩ := r.getV i hx
  exact ⟨d, h1, .inl ⟨rfl, h2⟩⟩
theorem walkD_str {z : Str} (h : okS z.cps.toList = true) : Walk (Its z) (z.cps.toList.map fun c => T.v (.str [c])).length (fun H => Sub F.f H) (YD K F (z.cps.toList.map fun c => T.v (.str [c]))) := by
  have e : (z.cps.toList.map fun c => T.v (.str [c])).length = z.cps.size := by simp
  rw [e]
  refine (walk_str (z := z)).mono (fun H s => trivial) ?_
  rintro i H x H' hi _ ⟨rfl, c, hc, rfl⟩
  have hc' : z.cps.toList[i]? = some c := by rw [Array.getElem?_toList]; exact hc
  refine ⟨.v (.str [c]), by rw [List.getElem?_map, hc']; rfl, .inl ⟨rfl, .v ?_⟩⟩
  exact str_mk (z := ⟨#[c]⟩) rfl (okS_one h (List.mem_of_getElem? hc'))
theorem listT_ok {x : V} {u : T} {ts : List T} {H : Hp} {f : List Addr} (hN : Sub F.n F.f) (e : listT u = some ts) (r : RpT K F H x u f) : ∃ a xs, x = .ref a ∧ SqL K F.f a xs ∧ RpFs K F xs ts := by
  unfold listT at e
  split at e
  · cases e
    cases r with | v r => cases r with | lst h r => exact ⟨_, _, rfl, .of h, .ofV r⟩
  · cases e
    cases r with | v r => cases r with | scr h => exact ⟨_, _, rfl, h, .ints _⟩
  · cases e
    cases r with | w r => cases r with | lst h r => exact ⟨_, _, rfl, .of (hN.eq h rfl), .ofW hN r⟩
  · cases e
theorem walkD_rangeC (lo : Int) (n : Nat) (c : Int) : Walk (Itc lo c n) (rangeT lo n c).length (fun H => Sub F.f H) (YD K F (rangeT lo n c)) := by
  have e : (rangeT lo n c).length = n := by unfold rangeT; simp
  rw [e]
  refine (walk_rangeC (lo := lo) (c := c) (n := n)).mono (fun H s => trivial) ?_
  rintro i H x H' hi _ ⟨rfl, rfl⟩
  exact ⟨.v (.int (lo + i * c)), by unfold rangeT; simp [hi], .inl ⟨rfl, .v (.int _)⟩⟩
theorem walkD_range (lo : Int) (n : Nat) : Walk (Itr lo n) (rangeT lo n 1).length (fun H => Sub F.f H) (YD K F (rangeT lo n 1)) := by
  have e : (rangeT lo n 1).length = n := by unfold rangeT; simp
  rw [e]
  refine (walk_range (lo := lo) (n := n)).mono (fun H s => trivial) ?_
  rintro i H x H' hi _ ⟨rfl, rfl⟩
  exact ⟨.v (.int (lo + i)), by unfold rangeT; simp [hi], .inl ⟨rfl, .v (.int _)⟩⟩
theorem walkD_enum {a : Addr} {xs : List V} {ts : List T} (h : SqL K F.f a xs) (r : RpFs K F xs ts) : Walk (Ite K a) (ts.zipIdx.map fun p => T.tp [.v (.int p.2), p.1]).length (fun H => Sub F.f H) (YD K F (ts.zipIdx.map fun p => T.tp [.v (.int p.2), p.1])) := by
  have e : (ts.zipIdx.map fun p => T.tp [.v (.int p.2), p.1]).length = xs.length := by simp [r.length]
  rw [e]
  refine (walk_enum (K := K) (a := a) (xs := xs)).mono (fun H s => s.sqL h) ?_
  rintro i H v H' hi _ ⟨A, x, y, rfl, h2, h3, h4, h5⟩
  cases h4
  obtain ⟨d, h6, h7⟩ := r.getV i h5
  refine ⟨.tp [.v (.int i), d], ?_, .inr ⟨A, .v (.int i), d, .int i, y, rfl, rfl, h2, h3, .v (.int _), h7⟩⟩
  rw [List.getElem?_map, List.getElem?_zipIdx, h6]
  simp
theorem walkD_zip {a b : Addr} {xs ys : List V} {ts us : List T} (h : SqL K F.f a xs) (h' : SqL K F.f b ys) (r : RpFs K F xs ts) (r' : RpFs K F ys us) : Walk (Itz K a b) ((ts.zip us).map fun p => T.tp [p.1, p.2]).length (fun H => Sub F.f H) (YD K F ((ts.zip us).map fun p => T.tp [p.1, p.2])) := by
  have e : ((ts.zip us).map fun p => T.tp [p.1, p.2]).length = min xs.length ys.length := by simp [r.length, r'.length]
  rw [e]
  refine (walk_zip (K := K) (a := a) (b := b) (xs := xs) (ys := ys) rfl).mono (fun H s => ⟨s.sqL h, s.sqL h'⟩) ?_
  rintro i H v H' hi _ ⟨A, x, y, rfl, h2, h3, h4, h5⟩
  obtain ⟨d, h6, h7⟩ := r.getV i h4
  obtain ⟨e', h8, h9⟩ := r'.getV i h5
  refine ⟨.tp [d, e'], ?_, .inr ⟨A, d, e', x, y, rfl, rfl, h2, h3, h7, h9⟩⟩
  rw [List.getElem?_map, List.getElem?_zip_eq_some (z := (d, e')) |>.mpr ⟨h6, h8⟩]
  rfl
theorem walkD_rev {a : Addr} {xs : List V} {ts : List T} (h : SqL K F.f a xs) (r : RpFs K F xs ts) : Walk (Itv K a xs.length) ts.reverse.length (fun H => Sub F.f H) (YD K F ts.reverse) := by
  have e : ts.reverse.length = xs.length := by simp [r.length]
  rw [e]
  refine (walk_rev (K := K) (a := a) (xs := xs)).mono (fun H s => s.sqL h) ?_
  rintro i H x H' hi _ ⟨rfl, hx⟩
  obtain ⟨d, h1, h2⟩ := r.getV _ hx
  refine ⟨d, ?_, .inl ⟨rfl, h2⟩⟩
  rw [List.getElem?_reverse (by rw [← r.length]; exact hi), ← r.length]
  exact h1
end
section
variable {G : Glob}
theorem Post.walk {K : W.Frag} {W : WX} {B : Base} {F F' : FF} {H H' : Hp} {σ : L2.St} {Γ : Env} {tmp : List Addr} {ts : List T} {R : It → Hp → Prop} {J : It} (P : Post K G W B F H σ tmp (rI' K) (.ok ts Γ) R) (rel : Rel K B F' H' σ Γ tmp) (w : Walk J ts.length (fun H => Sub F'.f H) (YD K F' ts)) (hH : Sub H H') (hF : SubF F F') : R J H' :=
  P J F' H' [] (by simpa using rel) ⟨rfl, w⟩ hH hF
theorem oki_seq {m : E} (hm : Ok G m) : OkI G (.seq m) := by
  intro X W b tg e g c
  simp only [chkI, Bool.and_eq_true] at c
  refine ⟨PI.imp (pi_seq (hm.pe X W b e g c.1)) fun σ H R h => ?_, c.2⟩
  refine one (β := It) (rep := rI' X.K) (r := fun x H1 R => (∃ a, x = V.ref a ∧ (∃ xs, SqL X.K H1 a xs) ∧ R (Itl X.K a) H1) ∨ (∃ a, x = V.ref a ∧ (∃ xs, SqT X.K H1 a xs) ∧ R (Itt X.K a) H1) ∨ (∃ z, x = V.str z ∧ R (Its z) H1)) (fun B F H σ Γ tmp fa x ta Q rel ra P => ?_) σ H R h
  cases e1 : ta.fz with
  | none => simp only [e1, Option.bind_none] at P; exact P.elim
  | some u =>
    cases e2 : itemsT u with
    | none => simp only [e1, Option.bind_some, e2] at P; exact P.elim
    | some ts =>
      simp only [e1, Option.bind_some, e2] at P
      have rd := (fz_ok e1 rel ra).1
      have rel2 := rel.freezeTmp (f1 := fa) (g := tmp) fun c => by simp only [List.count_append]; omega
      have sF := addF_sub (f := fa) rel.sub rel.nsub
      have P' : Post X.K G W B F H σ tmp (rI' X.K) (.ok ts Γ) Q := P
      unfold itemsT at e2
      split at e2
      · cases e2
        cases rd with | v rd => cases rd with | lst h r => exact .inl ⟨_, rfl, ⟨_, .of (rel2.sub.eq h rfl)⟩, P'.walk rel2 (walkD_list (.of h) (.ofV r)) Sub.refl sF⟩
      · cases e2
        cases rd with | v rd => cases rd with | tup h r => exact .inr (.inl ⟨_, rfl, ⟨_, .of (rel2.sub.eq h rfl)⟩, P'.walk rel2 (walkD_tup (.of h) (.ofV r)) Sub.refl sF⟩)
      · cases e2
        cases rd with | v rd => cases rd with | scr h => exact .inl ⟨_, rfl, ⟨_, rel2.sub.sqL h⟩, P'.walk rel2 (walkD_list h (.ints _)) Sub.refl sF⟩
      · cases e2
        cases rd with | v rd => cases rd with | str z h => exact .inr (.inr ⟨z, rfl, P'.walk rel2 (walkD_str h) Sub.refl sF⟩)
      · cases e2
        cases rd with | w rd => cases rd with | lst h r => exact .inl ⟨_, rfl, ⟨_, .of ((rel2.nsub.trans rel2.sub).eq h rfl)⟩, P'.walk rel2 (walkD_list (.of (rel2.nsub.eq h rfl)) (.ofW rel2.nsub r)) Sub.refl sF⟩
      · cases e2
        cases rd with | w rd => cases rd with | tup h r => exact .inr (.inl ⟨_, rfl, ⟨_, .of ((rel2.nsub.trans rel2.sub).eq h rfl)⟩, P'.walk rel2 (walkD_tup (.of (rel2.nsub.eq h rfl)) (.ofW rel2.nsub r)) Sub.refl sF⟩)
      · cases e2
/-- one argument's list, by a rule over argument lists -/
theorem arg1 {X : Cx} {W : WX} {b : CP} {m : E} {e : Expr} (hm : Ok G m) (g : Gd X G W b) (c : chkE X.N X.env.scope b m e = true) : PA X [e] (tCons (TE' X.K G W m) tNil) := pa_cons (hm.pe X W b e g c) pa_nil (star_of (chk_notStar c))
theorem small62_of {i : Int} (h : small62 i = true) : -(2 ^ 62) ≤ i ∧ i < 2 ^ 62 := of_decide_eq_true h
theorem oki_rng1 {m : E} (hm : Ok G m) : OkI G (.rng1 m) := by
  intro X W b tg e g c
  unfold chkI at c
  split at c
  · simp only [Bool.and_eq_true] at c
    obtain ⟨p, rfl, hg⟩ := isGl_of c.1.1
    refine ⟨PI.imp (pi_range1 hg (g.blt "range" (by decide)) (arg1 hm g c.1.2) (star_of c.2)) fun σ H R h => ?_, rfl⟩
    refine one (β := It) (rep := rI' X.K) (r := fun x H1 R => ∃ j : Int, [x] = [V.int j] ∧ -(2 ^ 62) ≤ j ∧ j < 2 ^ 62 ∧ R (Itr 0 j.toNat) H1) (fun B F H σ Γ tmp fa x ta Q rel ra P => ?_) σ H R h
    split at P
    · obtain ⟨rfl, rfl⟩ := int_inv ra
      split at P
      · rename_i hs
        rw [Bool.and_eq_true] at hs
        obtain ⟨h1, h2⟩ := small62_of hs.1
        exact ⟨_, rfl, h1, h2, P.walk (by simpa using rel) (walkD_range 0 _) Sub.refl SubF.refl⟩
      · exact P.elim
    · exact P.elim
  · cases c
theorem oki_rng2 {m n : E} (hm : Ok G m) (hn : Ok G n) : OkI G (.rng2 m n) := by
  intro X W b tg e g c
  unfold chkI at c
  split at c
  · simp only [Bool.and_eq_true] at c
    obtain ⟨⟨⟨⟨c1, c2⟩, c3⟩, c4⟩, c5⟩ := c
    obtain ⟨p, rfl, hg⟩ := isGl_of c1
    refine ⟨PI.imp (pi_range2 hg (g.blt "range" (by decide)) (pa_cons (hm.pe X W b _ g c2) (arg1 hn g c3) (star_of c4)) ((star_of c4).trans (by rw [star_of c5]; rfl)) (star_of c5)) ?_, rfl⟩
    rintro σ H R ⟨B, F, Γ, tmp, rel, P⟩
    refine ⟨B, F, Γ, tmp, rel, (P.bind (rep := rT X.K) (fp := [])).imp ?_⟩
    rintro x H1 ⟨ta, Γ1, F1, fa, rel1, ra, sH1, sF1, P1⟩
    refine ⟨B, F1, Γ1, fa ++ tmp, rel1, (P1.bind (rep := rT X.K) (fp := fa)).imp ?_⟩
    rintro y H2 ⟨tb, Γ2, F2, fb, rel2, rb, sH2, sF2, P2⟩
    split at P2
    · have ra := ra.grow sF2 sH2
      obtain ⟨rfl, rfl⟩ := int_inv ra
      obtain ⟨rfl, rfl⟩ := int_inv rb
      split at P2
      · rename_i hs
        simp only [Bool.and_eq_true] at hs
        obtain ⟨h1, h2⟩ := small62_of hs.1.1
        obtain ⟨h3, h4⟩ := small62_of hs.1.2
        exact ⟨_, _, rfl, ⟨h1, h2, h3, h4⟩, P2.walk (by simpa using rel2) (walkD_range _ _) Sub.refl SubF.refl⟩
      · exact P2.elim
    · exact P2.elim
  · cases c
theorem rgN_ok (a b c : Int) : Builtin.Range.rangeSize a b c = (rgN a b c : Int) := rangeSize_toNat a b c
theorem oki_rng3 {m n k : E} (hm : Ok G m) (hn : Ok G n) (hk : Ok G k) : OkI G (.rng3 m n k) := by
  intro X W b tg e g c
  unfold chkI at c
  split at c
  · simp only [Bool.and_eq_true] at c
    obtain ⟨⟨⟨⟨⟨⟨c1, c2⟩, c3⟩, c4⟩, c5⟩, c6⟩, c7⟩ := c
    obtain ⟨p, rfl, hg⟩ := isGl_of c1
    refine ⟨PI.imp (pi_range3 hg (g.blt "range" (by decide)) (pa_cons (hm.pe X W b _ g c2) (pa_cons (hn.pe X W b _ g c3) (arg1 hk g c4) (star_of c6)) (star_of c5)) (star_of c5) (by rw [star_of c6, star_of c7]; rfl)) ?_, rfl⟩
    rintro σ H R ⟨B, F, Γ, tmp, rel, P⟩
    refine ⟨B, F, Γ, tmp, rel, (P.bind (rep := rT X.K) (fp := [])).imp ?_⟩
    rintro x H1 ⟨ta, Γ1, F1, fa, rel1, ra, sH1, sF1, P1⟩
    refine ⟨B, F1, Γ1, fa ++ tmp, rel1, (P1.bind (rep := rT X.K) (fp := fa)).imp ?_⟩
    rintro y H2 ⟨tb, Γ2, F2, fb, rel2, rb, sH2, sF2, P2⟩
    rw [← List.append_assoc] at rel2
    refine ⟨B, F2, Γ2, (fb ++ fa) ++ tmp, rel2, (P2.bind (rep := rT X.K) (fp := fb ++ fa)).imp ?_⟩
    rintro z H3 ⟨tc, Γ3, F3, fc, rel3, rc, sH3, sF3, P3⟩
    split at P3
    · have ra := (ra.grow sF2 sH2).grow sF3 sH3
      have rb := rb.grow sF3 sH3
      obtain ⟨rfl, rfl⟩ := int_inv ra
      obtain ⟨rfl, rfl⟩ := int_inv rb
      obtain ⟨rfl, rfl⟩ := int_inv rc
      split at P3
      · rename_i hs
        simp only [Bool.and_eq_true, decide_eq_true_eq] at hs
        obtain ⟨⟨h1, h2, h3, h4⟩, h5⟩ := hs
        exact ⟨_, _, _, _, rfl, ⟨h2, by omega, h1, rgN_ok _ _ _⟩, P3.walk (by simpa using rel3) (walkD_rangeC _ _ _) Sub.refl SubF.refl⟩
      · exact P3.elim
    · exact P3.elim
  · cases c
theorem tuple_of {t : Expr} (h : isTuple t = true) : ∃ es k pos, t = .Tuple es k pos := by
  cases t with
  | Tuple es k pos => exact ⟨_, _, _, rfl⟩
  | _ => cases h
theorem fzl_ok {K : W.Frag} {B : Base} {F : FF} {H : Hp} {σ : L2.St} {Γ : Env} {tmp : List Addr} {x : V} {t : T} {f : List Addr} {ts : List T} (e : t.fz.bind listT = some ts) (rel : Rel K B F H σ Γ tmp) (r : RpT K F H x t f) : ∃ a xs, x = .ref a ∧ SqL K (F.addF H f).f a xs ∧ RpFs K (F.addF H f) xs ts := by
  cases e1 : t.fz with
  | none => rw [e1] at e; cases e
  | some d =>
    rw [e1] at e
    refine listT_ok (Sub.of fun a o q => ?_) e (fz_ok e1 rel r).1
    have q : addH F.n H f a = some o := q
    show addH F.f H f a = some o
    unfold addH at q ⊢
    split at q
    · rename_i m; rw [if_pos m]; exact q
    · rename_i m; rw [if_neg m]; exact rel.subn a o q
theorem oki_enum {m : E} (hm : Ok G m) : OkI G (.enum m) := by
  intro X W b tg e g c
  unfold chkI at c
  split at c
  · simp only [Bool.and_eq_true] at c
    obtain ⟨⟨⟨c1, c2⟩, c3⟩, c4⟩ := c
    obtain ⟨p, rfl, hg⟩ := isGl_of c1
    obtain ⟨es, k, pos, rfl⟩ := tuple_of c4
    refine ⟨PI.imp (pi_enum hg (g.blt "enumerate" (by decide)) (arg1 hm g c2) (star_of c3)) fun σ H R h => ?_, rfl⟩
    refine one (β := It) (rep := rI' X.K) (r := fun x H1 R => ∃ a xs, [x] = [V.ref a] ∧ SqL X.K H1 a xs ∧ R (Ite X.K a) H1) (fun B F H σ Γ tmp fa x ta Q rel ra P => ?_) σ H R h
    split at P
    · rename_i ds e1
      obtain ⟨a, xs, rfl, h1, h2⟩ := fzl_ok e1 rel ra
      have rel2 := rel.freezeTmp (f1 := fa) (g := tmp) fun c => by simp only [List.count_append]; omega
      exact ⟨a, xs, rfl, rel2.sub.sqL h1, P.walk rel2 (walkD_enum h1 h2) Sub.refl (addF_sub rel.sub rel.nsub)⟩
    · exact P.elim
  · cases c
theorem oki_rvd {m : E} (hm : Ok G m) : OkI G (.rvd m) := by
  intro X W b tg e g c
  unfold chkI at c
  split at c
  · simp only [Bool.and_eq_true] at c
    obtain ⟨⟨c1, c2⟩, c3⟩ := c
    obtain ⟨p, rfl, hg⟩ := isGl_of c1
    refine ⟨PI.imp (pi_reversed hg (g.blt "reversed" (by decide)) (arg1 hm g c2) (star_of c3)) fun σ H R h => ?_, rfl⟩
    refine one (β := It) (rep := rI' X.K) (r := fun x H1 R => ∃ a xs, [x] = [V.ref a] ∧ SqL X.K H1 a xs ∧ R (Itv X.K a xs.length) H1) (fun B F H σ Γ tmp fa x ta Q rel ra P => ?_) σ H R h
    split at P
    · rename_i ds e1
      obtain ⟨a, xs, rfl, h1, h2⟩ := fzl_ok e1 rel ra
      have rel2 := rel.freezeTmp (f1 := fa) (g := tmp) fun c => by simp only [List.count_append]; omega
      exact ⟨a, xs, rfl, rel2.sub.sqL h1, P.walk rel2 (walkD_rev h1 h2) Sub.refl (addF_sub rel.sub rel.nsub)⟩
    · exact P.elim
  · cases c
theorem oki_zip {m n : E} (hm : Ok G m) (hn : Ok G n) : OkI G (.zip m n) := by
  intro X W b tg e g c
  unfold chkI at c
  split at c
  · simp only [Bool.and_eq_true] at c
    obtain ⟨⟨⟨⟨⟨c1, c2⟩, c3⟩, c4⟩, c5⟩, c6⟩ := c
    obtain ⟨p, rfl, hg⟩ := isGl_of c1
    obtain ⟨es, k, pos, rfl⟩ := tuple_of c6
    refine ⟨PI.imp (pi_zip hg (g.blt "zip" (by decide)) (pa_cons (hm.pe X W b _ g c2) (arg1 hn g c3) (star_of c4)) (star_of c4) (by rw [star_of c5]; rfl)) ?_, rfl⟩
    rintro σ H R ⟨B, F, Γ, tmp, rel, P⟩
    refine ⟨B, F, Γ, tmp, rel, (P.bind (rep := rT X.K) (fp := [])).imp ?_⟩
    rintro x H1 ⟨ta, Γ1, F1, fa, rel1, ra, sH1, sF1, P1⟩
    refine ⟨B, F1, Γ1, fa ++ tmp, rel1, (P1.bind (rep := rT X.K) (fp := fa)).imp ?_⟩
    rintro y H2 ⟨tb, Γ2, F2, fb, rel2, rb, sH2, sF2, P2⟩
    split at P2
    · rename_i ds es' e1 e2
      obtain ⟨a, xs, rfl, h1, h2⟩ := fzl_ok e1 rel2 (ra.grow sF2 sH2)
      obtain ⟨a', ys, rfl, h3, h4⟩ := fzl_ok e2 rel2 rb
      have rel3 := rel2.freezeTmp (f1 := fb ++ fa) (g := tmp) fun c => by simp only [List.count_append]; omega
      have s1 : SubF (F2.addF H2 fa) (F2.addF H2 (fb ++ fa)) := addF_more rel2.sub rel2.nsub fun a ha => by simp [ha]
      have s2 : SubF (F2.addF H2 fb) (F2.addF H2 (fb ++ fa)) := addF_more rel2.sub rel2.nsub fun a ha => by simp [ha]
      exact ⟨a, a', xs, ys, rfl, (s1.f.trans rel3.sub).sqL h1, (s2.f.trans rel3.sub).sqL h3, P2.walk rel3 (walkD_zip (s1.f.sqL h1) (s2.f.sqL h3) (h2.mono s1) (h4.mono s2)) Sub.refl (addF_sub rel2.sub rel2.nsub)⟩
    · exact P2.elim
  · cases c

/-! ### methods -/
def rM (K : W.Frag) : MF → V → List V → Hp → VK → Prop
  | .join => fun x xs H Q => ∃ a p, ∃ ys : List Str, x = .str a ∧ xs = [.ref p] ∧ (SqL K H p (ys.map V.str) ∨ SqT K H p (ys.map V.str)) ∧ (ys.map (·.length)).sum + ys.length * a.length ≤ 16777216 ∧ Q (.str (Txt.join a ys)) H
  | .find => fun x xs H Q => ∃ a b, x = .str a ∧ xs = [.str b] ∧ Q (.int (Txt.find a b)) H
  | .count => fun x xs H Q => ∃ p ys z, x = .ref p ∧ xs = [z] ∧ SqL K H p ys ∧ flatV z = true ∧ ys.all flatV = true ∧ Q (.int ((ys.filter fun y => eqV y z).length : Nat)) H
  | .index => rIndex K
def MF.ty : MF → String
  | .join => "str" | .find => "str" | .count => "list" | .index => "list"
def MF.id : MF → String
  | .join => "str.join" | .find => "str.find" | .count => "list.count" | .index => "list.index"
theorem countP_eqU {x : V} : ∀ {xs : List V} {us : List Value}, Vals xs us → xs.all flatV = true → us.countP (eqU x) = (xs.filter fun y => eqV y x).length
  | _, _, .nil, _ => rfl
  | y :: xs, u :: us, .cons r t, f => by
    rw [List.all_cons, Bool.and_eq_true] at f
    rw [List.countP_cons, List.filter_cons, eqU_of r f.1, countP_eqU t f.2]
    split <;> simp
theorem mt_cntF {X : Cx} : MtR X "list.count" (rM X.K .count) := by
  intro pins s σ H x xs v us Q I rx rxs h
  obtain ⟨p, ys, z, rfl, rfl, hs, fz, fs, q⟩ := h
  cases rx
  obtain ⟨u, rfl, ru⟩ := rxs.one
  obtain ⟨its, rv, ⟨⟨cls, dd, data, sl⟩, n, ho, hc, hdn, hd⟩, hlen⟩ := I.list hs
  simp only at hc hd
  subst hc hd
  refine call_meets PySem.F.slot_list_count ⟨_, ho, rfl⟩ PySem.F.entry_list_count (PySem.F.args_list_count_2 _ _)
    (SeqAt.list_countAt p its.toArray n dd sl u (eqU z)) ⟨ho, fun y hy => mem_eqAt ru fz rv fs y (by simpa using hy), ?_⟩
  have ec : its.toArray.toList.countP (eqU z) = (ys.filter fun y => eqV y z).length := countP_eqU rv fs
  refine ⟨.int ((ys.filter fun y => eqV y z).length : Nat), H, I.tok _, ⟨s.toks, ?_⟩, q⟩
  show Value.int ((its.toArray.toList.countP (eqU z) : Nat) : Int) s.toks = _
  rw [ec]
theorem filt_of {K : W.Frag} {F : FF} {H : Hp} (hF : Hs F H) {x : V} {d : D} (r : RpD K H x d) (h : d.flat = true) : ∀ {ys : List V} {ts : List T} {f : List Addr}, RpTs K F H ys ts f → (ts.all fun t => t.er.flat) = true →
    ys.all flatV = true ∧ (ys.filter fun y => eqV y x).length = (ts.filter fun t => eqD t.er d).length
  | _, _, _, .nil, _ => ⟨rfl, rfl⟩
  | _, _, _, .cons a b, e => by
    rw [List.all_cons, Bool.and_eq_true] at e
    have q := a.read hF.sub hF.nsub
    obtain ⟨h1, h2⟩ := filt_of hF r h b e.2
    refine ⟨by rw [List.all_cons, flatV_of q e.1, h1]; rfl, ?_⟩
    rw [List.filter_cons, List.filter_cons, eqV_of q r e.1 h]
    split
    · rw [List.length_cons, List.length_cons, h2]
    · exact h2
theorem joinL_ok {a : List Nat} (ha : okS a = true) : ∀ {ss : List (List Nat)}, (∀ s ∈ ss, okS s = true) → (TL.joinL a ss).length ≤ (ss.map List.length).sum + ss.length * a.length ∧ ∀ c ∈ TL.joinL a ss, c < 0x110000
  | [], _ => ⟨by simp [TL.joinL], fun c h => by simp [TL.joinL] at h⟩
  | [s], h => by
    have := h s (by simp)
    unfold okS at this
    simp only [Bool.and_eq_true, decide_eq_true_eq, List.all_eq_true] at this
    exact ⟨by simp [TL.joinL], fun c hc => this.2 c (by simpa [TL.joinL] using hc)⟩
  | s :: s' :: r, h => by
    obtain ⟨h1, h2⟩ := joinL_ok ha (ss := s' :: r) fun x hx => h x (List.mem_cons_of_mem _ hx)
    have hs := h s (by simp)
    unfold okS at hs ha
    simp only [Bool.and_eq_true, decide_eq_true_eq, List.all_eq_true] at hs ha
    refine ⟨?_, fun c hc => ?_⟩
    · simp only [TL.joinL, List.length_append, List.map_cons, List.sum_cons, List.length_cons, Nat.add_mul, Nat.one_mul] at h1 ⊢
      omega
    · simp only [TL.joinL, List.mem_append] at hc
      rcases hc with hc | hc | hc
      · exact hs.2 c hc
      · exact ha.2 c hc
      · exact h2 c hc
theorem methT_ok {K : W.Frag} {W : WX} {B : Base} {F : FF} {H : Hp} {σ : L2.St} {Γ : Env} {tmp fa fb : List Addr} {m : MF} {x y : V} {a b : T} {Q : VK} (rel : Rel K B F H σ Γ (fb ++ (fa ++ tmp))) (ra : RpT K F H x a fa) (rb : RpT K F H y b fb)
    (P : Post K G W B F H σ tmp (rT K) (R.op (methT m a b) Γ) Q) (ix : Post K G W B F H σ tmp (rT K) (R.op (methT .index a b) Γ) Q → rIndex K x [y] H Q) : rM K m x [y] H Q := by
  have hc : ∀ c, tmp.count c ≤ (fb ++ (fa ++ tmp)).count c := fun c => by simp only [List.count_append]; omega
  cases m with
  | join =>
    simp only [methT] at P
    split at P
    · rename_i s t
      obtain ⟨z, rfl, h1, h2, rfl⟩ := str_inv ra
      split at P
      · rename_i ss e
        split at P
        · rename_i hl
          cases e1 : asQ b with
          | none => rw [e1] at e; cases e
          | some ts =>
            rw [e1] at e
            obtain ⟨p, xs, g, rfl, hq, r1, _⟩ := asQ_ok e1 rel.hs rb
            obtain ⟨zs, rfl, h3, h4⟩ := strsT_ok e r1
            have e5 : zs.map (·.length) = ss.map List.length := by
              rw [← h3, List.map_map]
              exact List.map_congr_left fun z _ => strLen z
            have e6 : zs.length = ss.length := by rw [← h3, List.length_map]
            obtain ⟨j1, j2⟩ := joinL_ok h2 h4
            refine ⟨z, p, zs, rfl, rfl, hq, by rw [e5, e6, strLen, h1]; exact hl, Post.flatv (Γ := Γ) P rel hc (str_mk ?_ ?_)⟩
            · rw [TL.join_eq]
              show TL.tl (Str.join z zs) = _
              rw [TL.tl_join, ← h1, ← h3]
            · unfold okS
              simp only [Bool.and_eq_true, decide_eq_true_eq, List.all_eq_true]
              exact ⟨by rw [sizeLine_eq]; exact Nat.le_trans j1 hl, j2⟩
        · exact P.elim
      · exact P.elim
    · exact P.elim
  | find =>
    simp only [methT] at P
    split at P
    · obtain ⟨z, rfl, h1, h2, rfl⟩ := str_inv ra
      obtain ⟨z', rfl, h3, h4, rfl⟩ := str_inv rb
      refine ⟨z, z', rfl, rfl, ?_⟩
      have e1 : z = ⟨(z.cps.toList).toArray⟩ := by simp
      have e2 : z' = ⟨(z'.cps.toList).toArray⟩ := by simp
      have : Txt.find z z' = findS z.cps.toList z'.cps.toList := by unfold findS; rw [← e1, ← e2]
      rw [this, h1, h3]
      exact Post.flatv (Γ := Γ) P rel hc (.int _)
    · exact P.elim
  | count =>
    simp only [methT] at P
    split at P
    · rename_i ts e
      split at P
      · rename_i hf
        rw [Bool.and_eq_true] at hf
        obtain ⟨p, xs, g, rfl, hq, r1, _⟩ := lOnly_ok e rel.hs ra
        have rd := rb.read rel.sub rel.nsub
        obtain ⟨h1, h2⟩ := filt_of rel.hs rd hf.1 r1 hf.2
        exact ⟨p, xs, y, rfl, rfl, hq, flatV_of rd hf.1, h1, by rw [h2]; exact Post.flatv (Γ := Γ) P rel hc (.int _)⟩
      · exact P.elim
    · exact P.elim
  | index => exact ix P
theorem at_of {K : W.Frag} {F : FF} {H : Hp} (hF : Hs F H) {x : V} {d : D} (r : RpD K H x d) (h : d.flat = true) : ∀ {ys : List V} {ts : List T} {f : List Addr}, RpTs K F H ys ts f → (ts.all fun t => t.er.flat) = true →
    ys.all flatV = true ∧ ∀ (i : Nat) (t : T), ts[i]? = some t → ∃ z, ys[i]? = some z ∧ eqV z x = eqD t.er d
  | _, _, _, .nil, _ => ⟨rfl, fun i t e => by simp at e⟩
  | _, _, _, .cons a b, e => by
    rw [List.all_cons, Bool.and_eq_true] at e
    have q := a.read hF.sub hF.nsub
    obtain ⟨h1, h2⟩ := at_of hF r h b e.2
    refine ⟨by rw [List.all_cons, flatV_of q e.1, h1]; rfl, fun i t et => ?_⟩
    cases i with
    | zero => simp at et; subst et; exact ⟨_, rfl, eqV_of q r e.1 h⟩
    | succ i => obtain ⟨z, h3, h4⟩ := h2 i t (by simpa using et); exact ⟨z, by simpa using h3, h4⟩
theorem indexT_ok {K : W.Frag} {G : Glob} {W : WX} {B : Base} {F : FF} {H : Hp} {σ : L2.St} {Γ : Env} {tmp fa fb : List Addr} {x y : V} {a b : T} {Q : VK} (rel : Rel K B F H σ Γ (fb ++ (fa ++ tmp))) (ra : RpT K F H x a fa) (rb : RpT K F H y b fb)
    (P : Post K G W B F H σ tmp (rT K) (R.op (methT .index a b) Γ) Q) : rIndex K x [y] H Q := by
  have hc : ∀ c, tmp.count c ≤ (fb ++ (fa ++ tmp)).count c := fun c => by simp only [List.count_append]; omega
  simp only [methT] at P
  split at P
  · rename_i ts e
    split at P
    · rename_i hf
      rw [Bool.and_eq_true] at hf
      obtain ⟨p, xs, g, rfl, hq, r1, _⟩ := lOnly_ok e rel.hs ra
      have rd := rel.rd rb
      obtain ⟨h1, h2⟩ := at_of rel.hs rd hf.1 r1 hf.2
      cases ei : ts.findIdx? fun t => eqD t.er b.er with
      | none => rw [ei] at P; exact P.elim
      | some j =>
        rw [ei] at P
        obtain ⟨hj, hp, hn⟩ := List.findIdx?_eq_some_iff_getElem.mp ei
        obtain ⟨z, k1, k2⟩ := h2 j ts[j] (List.getElem?_eq_getElem hj)
        refine ⟨p, xs, y, j, z, rfl, rfl, hq, flatV_of rd hf.1, h1, k1, by rw [k2]; exact hp, fun m z' hm hz => ?_, Post.flatv (Γ := Γ) P rel hc (.int _)⟩
        obtain ⟨z2, k3, k4⟩ := h2 m ts[m] (List.getElem?_eq_getElem (by omega))
        rw [hz] at k3; cases k3
        rw [k4]
        have := hn m hm
        simpa using this
    · exact P.elim
  · exact P.elim
theorem bm_M {X : Cx} (m : MF) {o e : Expr} {to : TE} {t : TA} {apos cpos : Pos} (ho : PE X o to) (ha : PA X [e] t) (hb : attributeBase o (Str.ofString m.nm) X.env (eval o X.env) = eval o X.env) (hl : (apos.endLine == cpos.line) = true)
    (hs : starEach (e :: []) X.env = (false, eval e X.env) :: starEach [] X.env) : PE X (.Call (.Attribute o (Str.ofString m.nm) apos) [e] [] cpos) (tBM X.K m.ty (rM X.K m) to t) := by
  have hf : ((backTo cpos (starEach (e :: []) X.env)).all (fun x => !x.1) && (backToKw cpos (keywordEach [] X.env)).all (fun x => x.1.isSome)
      && decide ((e :: []).length + ([] : List Keyword).length + (if ([] : List Keyword).isEmpty then 0 else 1) < 30)) = true := by
    rw [hs]; rfl
  cases m with
  | join => exact pe_bm PySem.F.plainAttrs_str PySem.F.slot_str_join PySem.F.type_str_join mt_join ho ha hb hf hl hs rfl
  | find => exact pe_bm PySem.F.plainAttrs_str PySem.F.slot_str_find PySem.F.type_str_find mt_find ho ha hb hf hl hs rfl
  | count => exact pe_bm PySem.F.plainAttrs_list PySem.F.slot_list_count PySem.F.type_list_count mt_cntF ho ha hb hf hl hs rfl
  | index => exact pe_bm PySem.F.plainAttrs_list PySem.F.slot_list_index PySem.F.type_list_index mt_index ho ha hb hf hl hs rfl
theorem base_of {X : Cx} {o : Expr} {n : Str} (h : ∀ env w, attributeBase o n env w = w) : attributeBase o n X.env (eval o X.env) = eval o X.env := h _ _
theorem ok_meth {m : MF} {a b : E} (ha : Ok G a) (hb : Ok G b) : Ok G (.meth m a b) := by
  have sh : ∀ {N sc b'} {e : Expr}, chkE N sc b' (.meth m a b) e = true → ∃ x ap y cp, e = .Call (.Attribute x (Str.ofString m.nm) ap) [y] [] cp ∧ ap.endLine = cp.line ∧ chkE N sc b' a x = true ∧ chkE N sc b' b y = true := by
    intro N sc b' e c
    unfold chkE at c
    split at c
    · simp only [Bool.and_eq_true, decide_eq_true_eq] at c
      obtain ⟨⟨⟨c1, c2⟩, c3⟩, c4⟩ := c
      subst c1
      exact ⟨_, _, _, _, rfl, c2, c3, c4⟩
    · cases c
  have pe : ∀ X W b' e, Gd X G W b' → chkE X.N X.env.scope b' (.meth m a b) e = true → PE X e (TE' X.K G W (.meth m a b)) := by
    intro X W b' e g c
    obtain ⟨x, ap, y, cp, rfl, c1, c2, c3⟩ := sh c
    refine PE.imp (bm_M m (ha.pe X W b' x g c2) (arg1 hb g c3) (attr_of c2 _ _) (by rw [c1]; exact beq_self_eq_true _) (star_of (chk_notStar c3))) ?_
    rintro σ H Q ⟨B, F, Γ, tmp, rel, P⟩
    refine ⟨B, F, Γ, tmp, rel, (P.bind (rep := rT X.K) (fp := [])).imp ?_⟩
    rintro x H1 ⟨ta, Γ1, F1, fa, rel1, ra, sH1, sF1, P1⟩
    split at P1
    · rename_i ht
      refine ⟨?_, B, F1, Γ1, fa ++ tmp, rel1, (P1.bind (rep := rT X.K) (fp := fa)).imp ?_⟩
      · cases m with
        | join =>
          simp only [mTy] at ht
          split at ht
          · obtain ⟨z, rfl, _⟩ := str_inv ra; exact rfl
          · cases ht
        | find =>
          simp only [mTy] at ht
          split at ht
          · obtain ⟨z, rfl, _⟩ := str_inv ra; exact rfl
          · cases ht
        | count =>
          simp only [mTy] at ht
          cases e : lOnly ta with
          | none => rw [e] at ht; cases ht
          | some ts =>
            obtain ⟨p, xs, g, rfl, hq, r1, _⟩ := lOnly_ok e rel1.hs ra
            exact .inl ⟨rfl, _, hq⟩
        | index =>
          simp only [mTy] at ht
          cases e : lOnly ta with
          | none => rw [e] at ht; cases ht
          | some ts =>
            obtain ⟨p, xs, g, rfl, hq, r1, _⟩ := lOnly_ok e rel1.hs ra
            exact .inl ⟨rfl, _, hq⟩
      · rintro y H2 ⟨tb, Γ2, F2, fb, rel2, rb, sH2, sF2, P2⟩
        exact methT_ok (Γ := Γ2) rel2 (ra.grow sF2 sH2) rb P2 (fun P => indexT_ok (Γ := Γ2) rel2 (ra.grow sF2 sH2) rb P)
    · exact P1.elim
  refine ⟨pe, fun X W b' e g c => ?_, pw_no fun N sc b op vs pos => rfl⟩
  obtain ⟨x, ap, y, cp, rfl, c1, c2, c3⟩ := sh c
  exact tB_of (pe X W b' _ g c) fun _ => rfl
end
end Tv

namespace Tv
open PySem PySem.Spec PyProof.Rows L2

/-! ### targets -/
def gNames : List Nat → TGs
  | [] => gNil
  | i :: is => gCons (gName i) (gNames is)
def gTg (K : W.Frag) : Tg → TG
  | .nm i => gName i
  | .tp is => gTup K is.length (gNames is)
theorem stB_loc {sc : Scope} {b : CP} {x : Str} (h : stB sc b x = true) : Loc sc x := by
  unfold stB at h
  simp only [Bool.or_eq_true, Bool.and_eq_true, decide_eq_true_eq] at h
  rcases h with h | h
  · exact .inl h
  · exact .inr h.2
section
variable {G : Glob} {X : Cx} {W : WX} {b : CP}
theorem stB_fn (g : Gd X G W b) {x : Str} (h : stB X.env.scope b x = true) : X.fn x = true ∨ X.env.scope.names.lookup x = some .local := by
  unfold stB at h
  simp only [Bool.or_eq_true, Bool.and_eq_true, decide_eq_true_eq, Bool.not_eq_true'] at h
  rcases h with h | h
  · exact .inr h
  · exact .inl (g.st h.1 x)
theorem pg_st (g : Gd X G W b) {i : Nat} {e : Expr} (h : chkSt X.N X.env.scope b i e = true) : ∃ x pos, e = .Name x pos ∧ PG X e (gName i) := by
  unfold chkSt at h
  split at h
  · simp only [Bool.and_eq_true, decide_eq_true_eq] at h
    exact ⟨_, _, rfl, pg_name g.nd h.1 (stB_loc h.2) (stB_fn g h.2)⟩
  · cases h
theorem pg_sts (g : Gd X G W b) : ∀ {is : List Nat} {es : List Expr}, chkSts X.N X.env.scope b is es = true → PGs X es (gNames is) ∧ es.length = is.length ∧ (assignEach es X.env).length = is.length ∧ (assignEach es X.env).findIdx? (·.1) = none
  | [], [], _ => ⟨pgs_nil, rfl, rfl, rfl⟩
  | [], _ :: _, h => by simp [chkSts] at h
  | _ :: _, [], h => by simp [chkSts] at h
  | i :: is, e :: es, h => by
    simp only [chkSts, Bool.and_eq_true] at h
    obtain ⟨x, pos, rfl, p⟩ := pg_st g h.1
    obtain ⟨q, l, l2, f⟩ := pg_sts g h.2
    refine ⟨pgs_cons p q, by simp [l], ?_, ?_⟩
    · show ((false, _) :: assignEach es X.env).length = _
      simp [l2]
    · show ((false, _) :: assignEach es X.env).findIdx? (·.1) = none
      rw [List.findIdx?_cons]
      simp [f]
theorem pg_tg (g : Gd X G W b) {tg : Tg} {e : Expr} (h : chkTg X.N X.env.scope b tg e = true) : PG X e (gTg X.K tg) := by
  cases tg with
  | nm i => obtain ⟨x, pos, rfl, p⟩ := pg_st g (show chkSt X.N X.env.scope b i e = true from h); exact p
  | tp is =>
    simp only [chkTg] at h
    split at h
    · obtain ⟨q, l, l2, f⟩ := pg_sts g h
      exact pg_tup g.calm q l2 f
    · cases h
end
theorem wipe_len (σ : L2.St) (vs : List Nat) : (wipe σ vs).length = σ.length := wipe_length σ vs
theorem wipe_set_in {σ : L2.St} {i : Nat} {o : Option V} : ∀ {vs : List Nat}, (i ∈ vs → wipe (σ.set i o) vs = wipe σ vs) ∧ (i ∉ vs → wipe (σ.set i o) vs = (wipe σ vs).set i o)
  | [] => ⟨fun h => (by simp at h), fun _ => rfl⟩
  | v :: vs => by
    obtain ⟨h1, h2⟩ := wipe_set_in (σ := σ) (i := i) (o := o) (vs := vs)
    refine ⟨fun h => ?_, fun h => ?_⟩
    · unfold wipe
      by_cases m : i ∈ vs
      · rw [h1 m]
      · have e : i = v := (List.mem_cons.mp h).resolve_right m
        subst e
        rw [h2 m, List.set_set]
    · unfold wipe
      simp only [List.mem_cons, not_or] at h
      rw [h2 h.2, List.set_comm _ _ (fun e => h.1 e)]
theorem wipe_get {σ : L2.St} {v : Nat} : ∀ {vs : List Nat}, v ∉ vs → (wipe σ vs)[v]? = σ[v]?
  | [], _ => rfl
  | u :: us, h => by
    simp only [List.mem_cons, not_or] at h
    show ((wipe σ us).set u none)[v]? = _
    rw [List.getElem?_set_ne (Ne.symm h.1)]
    exact wipe_get h.2
theorem wipe_cons {σ : L2.St} {v : Nat} {vs : List Nat} : wipe σ (v :: vs) = (wipe σ vs).set v none := rfl
theorem wipe_idem {σ : L2.St} {vs : List Nat} : wipe (wipe σ vs) vs = wipe σ vs := by
  have key : ∀ (us vs : List Nat), (∀ u ∈ us, u ∈ vs) → wipe (wipe σ us) vs = wipe σ vs := by
    intro us
    induction us with
    | nil => intro vs _; rfl
    | cons u us ih =>
      intro vs h
      rw [wipe_cons, (wipe_set_in (σ := wipe σ us) (i := u) (o := none) (vs := vs)).1 (h u (by simp))]
      exact ih vs fun x hx => h x (by simp [hx])
  exact key vs vs fun _ h => h
section
variable {K : W.Frag} {B : Base} {F : FF} {H : Hp} {σ : L2.St} {Γ Γ' : Env} {tmp : List Addr}
theorem Rel.storeV {x : V} {d : D} (r : Rel K B F H σ Γ tmp) (h : RpD K F.f x d) {i : Nat} (hi : i < Γ.length) : Rel K B F H (σ.set i (some x)) (Γ.set i (some (.v d))) tmp :=
  Rel.store (f1 := []) r (.v h) rfl hi
theorem setSlots_ok : ∀ {is : List Nat} {ts : List T} {xs : List V} {f : List Addr} {σ : L2.St} {Γ Γ' : Env} {Q : L2.St → Hp → Prop}, setSlots Γ is ts = some Γ' → Rel K B F H σ Γ (f ++ tmp) → RpTs K F H xs ts f → T.noBs ts = true →
    (∀ σ', Rel K B F H σ' Γ' tmp → (∀ vs : List Nat, (∀ i ∈ is, i ∈ vs) → wipe σ' vs = wipe σ vs) → Q σ' H) → gNames is xs σ H Q ∧ xs.length = is.length
  | [], [], _, _, _, _, _, _, e, r, .nil, _, q => by
    cases e
    exact ⟨⟨rfl, q _ r fun _ _ => rfl⟩, rfl⟩
  | [], _ :: _, _, _, _, _, _, _, e, _, _, _, _ => by cases e
  | _ :: _, [], _, _, _, _, _, _, e, _, _, _, _ => by cases e
  | i :: is, d :: ds, _, _, σ, Γ, Γ', Q, e, r, h, nb, q => by
    cases h with
    | @cons x xs _ _ f1 g1 a b =>
    unfold setSlots at e
    simp only [T.noBs, Bool.and_eq_true] at nb
    split at e
    · rename_i hi
      have r2 := Rel.store (f1 := f1) (tmp := g1 ++ tmp) (by rw [← List.append_assoc]; exact r) a nb.1 hi
      obtain ⟨h1, h2⟩ := setSlots_ok e r2 b nb.2 fun σ' r' w => q σ' r' fun vs hv => by
        rw [w vs fun j hj => hv j (by simp [hj]), (wipe_set_in (vs := vs)).1 (hv i (by simp))]
      exact ⟨⟨x, xs, rfl, h1⟩, by simp [h2]⟩
    · cases e
theorem tupT_ok {t : T} {ts : List T} {x : V} {f : List Addr} (e : tupT t = some ts) (hF : Hs F H) (h : RpT K F H x t f) : ∃ a xs, x = .ref a ∧ SqT K H a xs ∧ RpTs K F H xs ts f ∧ (t.noB = true → T.noBs ts = true) := by
  unfold tupT at e
  split at e
  · cases e
    cases h with | v r => cases r with | tup h r => exact ⟨_, _, rfl, .of (hF.sub.eq h rfl), r.toV, fun _ => noBs_v _⟩
  · cases e
    cases h with | w r => cases r with | tup h r =>
      refine ⟨_, _, rfl, .of ((hF.nsub.trans hF.sub).eq h rfl), r.toW hF.nsub, fun _ => ?_⟩
      rw [noBs_all, List.all_map, List.all_eq_true]
      intro d _
      show (subW d).noB = true
      unfold subW; split <;> rfl
  · cases e
    cases h with | tp h r => exact ⟨_, _, rfl, .of ((hF.nsub.trans hF.sub).eq h rfl), r, fun n => by simpa [T.noB] using n⟩
  · cases e
theorem bindTg_ok {tg : Tg} {t : T} {x : V} {f : List Addr} {Q : L2.St → Hp → Prop} (e : bindTg tg t Γ = some Γ') (r : Rel K B F H σ Γ (f ++ tmp)) (h : RpT K F H x t f) (nb : t.noB = true)
    (q : ∀ σ', Rel K B F H σ' Γ' tmp → (∀ vs : List Nat, (∀ i ∈ tg.slots, i ∈ vs) → wipe σ' vs = wipe σ vs) → Q σ' H) : gTg K tg x σ H Q := by
  cases tg with
  | nm i =>
    simp only [bindTg] at e
    split at e
    · rename_i hi
      cases e
      exact q _ (r.store h nb hi) fun vs hv => (wipe_set_in (vs := vs)).1 (hv i (by simp [Tg.slots]))
    · cases e
  | tp is =>
    simp only [bindTg] at e
    obtain ⟨ts, e1, e2⟩ := Option.bind_eq_some_iff.mp e
    obtain ⟨a, xs, rfl, hs, rs, nb2⟩ := tupT_ok e1 r.hs h
    obtain ⟨h1, h2⟩ := setSlots_ok e2 r rs (nb2 nb) fun σ' r' w => q σ' r' w
    exact ⟨_, _, rfl, hs, h2, h1⟩
/-- an item that a walk gives -/
theorem YD_ok {F0 : FF} {ts : List T} {i : Nat} {x : V} {H' : Hp} (y : YD K F0 ts i H x H') (r : Rel K B F H σ Γ tmp) (hF : SubF F0 F) :
    ∃ t F', ts[i]? = some t ∧ Rel K B F' H' σ Γ tmp ∧ RpT K F' H' x t [] ∧ t.noB = true ∧ SubF F F' ∧ Sub H H' := by
  obtain ⟨t, ht, h⟩ := y
  rcases h with ⟨rfl, h⟩ | ⟨A, a, b, x1, x2, rfl, rfl, h2, rfl, h4, h5⟩
  · exact ⟨t, F, ht, r, (h.mono hF).rt _, h.noB, SubF.refl, Sub.refl⟩
  · obtain ⟨r1, s1⟩ := r.allocS (o := .tup [x1, x2]) h2 rfl
    refine ⟨_, _, ht, r1, .tp (show upd F.n A (.tup [x1, x2]) A = _ from upd_same) (.cons (f := []) (g := []) ((h4.mono (hF.trans s1)).rt _) (.cons (f := []) (g := []) ((h5.mono (hF.trans s1)).rt _) .nil)), ?_, s1, upd_sub h2⟩
    simp [T.noB, T.noBs, h4.noB, h5.noB]
theorem Rel.wipe : ∀ (vs : List Nat), Rel K B F H σ Γ tmp → Rel K B F H (L2.wipe σ vs) (wipeE Γ vs) tmp
  | [], r => r
  | v :: vs, r => (Rel.wipe vs r).forget v none
theorem set_back {σ : L2.St} {v : Nat} {o : Option V} (h : σ[v]? = some o) : (σ.set v none).set v o = σ := by
  rw [List.set_set]
  have hi : v < σ.length := (List.getElem?_eq_some_iff.mp h).1
  apply List.ext_getElem?
  intro j
  by_cases hj : v = j
  · subst hj; rw [List.getElem?_set_self hi, h]
  · rw [List.getElem?_set_ne hj]
theorem keepV_F {o : Option (Option T)} {t : T} (h : keepV o = some t) : o = some (some t) ∧ isF t = true := by
  unfold keepV at h
  split at h
  · cases h; exact ⟨rfl, rfl⟩
  · cases h; exact ⟨rfl, rfl⟩
  · cases h
theorem Rel.unwipe {Γ1 : Env} : ∀ (vs : List Nat) {Γ : Env} {σ : L2.St}, vs.Nodup → Rel K B F H (L2.wipe σ vs) Γ tmp → (∀ (v : Nat) (t : T), keepV (Γ1[v]?) = some t → ∃ x, σ[v]? = some (some x) ∧ RpT K F H x t []) → Rel K B F H σ (restE Γ1 Γ vs) tmp
  | [], _, _, _, r, _ => r
  | v :: vs, Γ, σ, nd, r, h => by
    unfold restE
    rw [wipe_cons] at r
    rw [List.nodup_cons] at nd
    refine Rel.unwipe vs nd.2 ?_ h
    cases e : σ[v]? with
    | none =>
      have hl : (L2.wipe σ vs).length ≤ v := by rw [wipe_len]; exact List.getElem?_eq_none_iff.mp e
      have hl2 : Γ.length ≤ v := by rw [← r.length, List.length_set]; exact hl
      rw [List.set_eq_of_length_le hl] at r
      rw [List.set_eq_of_length_le hl2]
      exact r
    | some o =>
      have ew : (L2.wipe σ vs)[v]? = some o := by rw [wipe_get nd.1]; exact e
      have r1 := r.forget v o
      rw [set_back ew] at r1
      cases ek : keepV (Γ1[v]?) with
      | none => exact r1
      | some t =>
        obtain ⟨x, hx, rx⟩ := h v t ek
        rw [e] at hx
        cases hx
        have nb : t.noB = true := by
          have := (keepV_F ek).2
          cases t <;> first | rfl | cases this
        have := r1.putBack (f1 := []) (tmp := tmp) rx nb ew
        rw [List.set_set] at this
        exact this
end

/-! ### comprehensions -/
def CkC (N : List Str) (sc : Scope) (b : CP) : OE → List Expr → Prop
  | .no, [] => True
  | .so k, [y] => chkE N sc b k y = true
  | _, _ => False
def OkC (G : Glob) (m : OE) : Prop := ∀ X W b es, Gd X G W b → CkC X.N X.env.scope b m es → PTs X es (TM X.K G W (fun _ _ v a fp => v = a ∧ fp = []) (evC G.cl G.con m))
section
variable {G : Glob}
theorem PTs.imp {X : Cx} {e : List Expr} {t t' : TT} (h : PTs X e t) (i : ∀ σ H Q, t' σ H Q → t σ H Q) : PTs X e t' := ⟨fun pins s σ H Q I q => h.run pins s σ H Q I (i σ H Q q)⟩
theorem okc_no : OkC G .no := by
  intro X W b es g c
  cases es with
  | nil =>
    refine PTs.imp pts_nil fun σ H Q h => ?_
    obtain ⟨B, F, Γ, tmp, rel, P⟩ := h
    exact P true F H [] (by simpa using rel) ⟨rfl, rfl⟩ Sub.refl SubF.refl
  | cons e es => exact c.elim
theorem okc_so {m : E} (hm : Ok G m) : OkC G (.so m) := by
  intro X W b es g c
  cases es with
  | nil => exact c.elim
  | cons e es =>
    cases es with
    | cons _ _ => exact c.elim
    | nil =>
      refine PTs.imp (pts_one (hm.pt X W b e g c)) fun σ H Q h => ?_
      refine one (β := Bool) (rep := fun _ _ v a fp => v = a ∧ fp = []) (r := fun x H Q => ∃ c, x = V.bl c ∧ Q c H) (fun B F H σ Γ tmp fa x ta Q rel ra P => ?_) σ H Q h
      split at P
      · obtain ⟨rfl, rfl⟩ := bl_inv ra
        exact ⟨_, rfl, P _ F H [] (by simpa using rel) ⟨rfl, rfl⟩ Sub.refl SubF.refl⟩
      · exact P.elim
/-- within a comprehension nothing is let out -/
def W0 : WX := fun _ _ _ _ => False
theorem Gd.blk {X : Cx} {W : WX} {b : CP} (g : Gd X G W b) (s : Shared) (H : Hp) (scope : Scope) (C : Addr) (cl : List (Str × Addr)) (fp : List Addr) : Gd (X.blk s H scope (compEnvC scope cl C X.env) fp) G W0 ⟨true, b.fns, b.cls, b.mts, b.ats, b.io⟩ where
  nd := g.nd
  calm := g.calm
  own := PassesOwn.never
  tk := takes0
  hu := g.hu
  st := fun h => by cases h
  con := g.con
  blt := g.blt
  fn := g.fn
  cls := g.cls
  mts := g.mts
  ats := g.ats
  pin := g.pin
/-- a step's outcome, seen from a wish for nothing -/
theorem Post.w0 {α β : Type} {K : W.Frag} {B : Base} {F : FF} {H : Hp} {σ : L2.St} {tmp : List Addr} {rep : FF → Hp → β → α → List Addr → Prop} {r : R α} {Q : β → Hp → Prop} (hb : r ≠ .bad) (he : ∀ x Γ, r ≠ .ex x Γ)
    (h : ∀ a Γ, r = .ok a Γ → ∀ v F' H' fp, Rel K B F' H' σ Γ (fp ++ tmp) → rep F' H' v a fp → Sub H H' → SubF F F' → Q v H') : Post K G W0 B F H σ tmp rep r Q := by
  cases r with
  | bad => exact hb rfl
  | ok a Γ => exact h a Γ rfl
  | ex x Γ => exact absurd rfl (he x Γ)
end
end Tv

namespace Tv
open PySem PySem.Spec PyProof.Rows L2

theorem noBs_append {ts us : List T} : T.noBs (ts ++ us) = (T.noBs ts && T.noBs us) := by
  rw [noBs_all, noBs_all, noBs_all, List.all_append]
theorem ownP_2 {N : List Str} {own : List Nat} (h : (ownP N own).map (·.2) = own) : (ownP N own).map (fun x => x.2) = own := h
section
variable {G : Glob}
theorem lc_read {K : W.Frag} {W : WX} {own : List Nat} {tg : Tg} {it : I} {c : OE} {e : E} (nd : own.Nodup) (hs : ∀ i ∈ tg.slots, i ∈ own) :
    ∀ σ H Q, TE' K G W (.lc own tg it c e) σ H Q → tLc (TM K G W (rI' K) (evI G.cl G.con it)) (gTg K tg) (TM K G W0 (fun _ _ v a fp => v = a ∧ fp = []) (evC G.cl G.con c)) (TE' K G W0 e) own σ H Q := by
  rintro σ H Q ⟨B, F, Γ, tmp, rel, P⟩
  refine ⟨B, F, Γ, tmp, rel, (Post.bind (rep := rI' K) (fp := []) P).imp ?_⟩
  rintro J H1 ⟨ds, Γ1, F1, fp1, rel1, ⟨rfl, wk⟩, sH1, sF1, P1⟩
  have rel1 : Rel K B F1 H1 σ Γ1 tmp := by simpa using rel1
  split at P1
  case isFalse => exact P1.elim
  rename_i hlen
  intro D hD
  -- a turn
  generalize hstep : (fun d Γ2 => match bindTg tg d Γ2 with
      | none => R.bad
      | some Γ3 => (evC G.cl G.con c Γ3).bind fun b Γ4 => match b with
        | false => R.ok none (wipeE Γ4 own)
        | true => (evE G.cl G.con e Γ4).bind fun t Γ5 => if t.noB = true then R.ok (some t) (wipeE Γ5 own) else R.bad) = step at P1
  refine lc_it wk (fun i H => ∃ F Γ ts xs fs, Rel K B F H (wipe σ own) Γ (D :: (fs ++ tmp)) ∧ H D = some (.lst xs) ∧ RpTs K F H xs ts fs ∧ ts.length ≤ i ∧ T.noBs ts = true ∧ SubF F1 F ∧ Sub H1 H ∧
    Post K G W B F1 H1 σ tmp (rT K) ((lcL step (ds.drop i) Γ ts).bind fun ts Γ6 => .ok (.l ts) (restE Γ1 Γ6 own)) Q) ?_ ?_ ?_ ?_
  · exact ⟨F1, wipeE Γ1 own, [], [], [], by simpa using (rel1.wipe own).alloc hD rfl, upd_same, .nil, Nat.le_refl _, rfl, SubF.refl, upd_sub hD, P1⟩
  · rintro i H' hi ⟨F2, Γ2, ts, xs, fs, r2, h2, rp, hl, nb, sF, sH, P2⟩
    exact sF.f.trans r2.sub
  · rintro i x H2 H3 hi ⟨F2, Γ2, ts, xs, fs, r2, h2, rp, hl, nb, sF, sH, P2⟩ y
    obtain ⟨d, F3, hd, r3, rdx, rnb, sF3, sH3⟩ := YD_ok y r2 sF
    have ed : ds.drop i = d :: ds.drop (i + 1) := by
      rw [List.drop_eq_getElem_cons hi]
      rw [List.getElem?_eq_getElem hi] at hd
      rw [Option.some.inj hd]
    rw [ed] at P2
    simp only [lcL] at P2
    have es := congrFun (congrFun hstep.symm d) Γ2
    cases eb : bindTg tg d Γ2 with
    | none =>
      have e3 : step d Γ2 = .bad := by rw [es, eb]
      rw [e3] at P2; exact P2.elim
    | some Γ3 =>
      refine bindTg_ok (f := []) eb (by simpa using r3) rdx rnb fun σ2 r4 w4 => ?_
      have w4 : wipe σ2 own = wipe σ own := by rw [w4 own hs, wipe_idem]
      refine ⟨w4, ⟨B, F3, Γ3, _, r4, Post.w0 (fun q => ?_) (fun x Γx q => ?_) ?_⟩⟩
      · have e3 : step d Γ2 = .bad := by rw [es, eb]; simp only [q]; rfl
        rw [e3] at P2; exact P2
      · have e3 : step d Γ2 = .ex x Γx := by rw [es, eb]; simp only [q]; rfl
        rw [e3] at P2; exact P2
      · rintro b Γ4 q v F4 H4 fp r4' ⟨rfl, rfl⟩ sH4 sF4
        have hD3 : H4 D = some (.lst xs) := (sH3.trans sH4).eq h2 rfl
        cases v with
        | false =>
          have e3 : step d Γ2 = .ok none (wipeE Γ4 own) := by rw [es, eb]; simp only [q]; rfl
          rw [e3] at P2
          rw [if_neg Bool.false_ne_true]
          have r5 : Rel K B F4 H4 σ2 Γ4 (D :: (fs ++ tmp)) := by simpa using r4'
          have r6 := r5.wipe own
          rw [w4] at r6
          exact ⟨F4, wipeE Γ4 own, ts, xs, fs, r6, hD3, (rp.grow (sF3.trans sF4) (sH3.trans sH4)), by omega, nb, (sF.trans sF3).trans sF4, (sH.trans sH3).trans sH4, P2⟩
        | true =>
          rw [if_pos rfl]
          have r5 : Rel K B F4 H4 σ2 Γ4 (D :: (fs ++ tmp)) := by simpa using r4'
          refine ⟨B, F4, Γ4, _, r5, Post.w0 (fun q5 => ?_) (fun x Γx q5 => ?_) ?_⟩
          · have e3 : step d Γ2 = .bad := by rw [es, eb]; simp only [q, R.bind, q5]
            rw [e3] at P2; exact P2
          · have e3 : step d Γ2 = .ex x Γx := by rw [es, eb]; simp only [q, R.bind, q5]
            rw [e3] at P2; exact P2
          · intro t Γ5 q5 v5 F5 H5 fp5 r7 rt5 sH5 sF5
            cases hnb : t.noB with
            | false =>
              have e3 : step d Γ2 = .bad := by rw [es, eb]; simp only [q, R.bind, q5, hnb]; rfl
              rw [e3] at P2; exact P2.elim
            | true =>
              have e3 : step d Γ2 = .ok (some t) (wipeE Γ5 own) := by rw [es, eb]; simp only [q, R.bind, q5, hnb]; rfl
              rw [e3] at P2
              have hD5 : H5 D = some (.lst xs) := sH5.eq hD3 rfl
              have rp5 := rp.grow ((sF3.trans sF4).trans sF5) ((sH3.trans sH4).trans sH5)
              refine ⟨xs, hD5, by rw [rp.length, sizeLine_eq]; exact Nat.lt_of_lt_of_le (Nat.lt_of_le_of_lt hl hi) hlen, ?_⟩
              have cnt : ∀ a, (fp5 ++ (D :: (fs ++ tmp))).count a ≤ 1 := r7.cnt
              have n1 : D ∉ fs := fun m => by
                have q := cnt D
                have := List.count_pos_iff.mpr m
                rw [List.count_append, List.count_cons_self, List.count_append] at q; omega
              have n2 : D ∉ fp5 := fun m => by
                have q := cnt D
                have := List.count_pos_iff.mpr m
                rw [List.count_append, List.count_cons_self, List.count_append] at q; omega
              have r8 := (r7.wipe own).mut (a := D) (o := .lst (xs ++ [v5])) (by simp) rfl
              rw [w4] at r8
              have fr : RpTs K F5 (upd H5 D (.lst (xs ++ [v5]))) (xs ++ [v5]) (ts ++ [t]) (fs ++ (fp5 ++ [])) :=
                (rp5.frame SubF.refl nb fun a ha => upd_ne (by rintro rfl; exact n1 ha)).append (.cons (rt5.frame SubF.refl hnb fun a ha => upd_ne (by rintro rfl; exact n2 ha)) .nil)
              have sHu : Sub H1 (upd H5 D (.lst (xs ++ [v5]))) := fun a o ha => by
                rw [upd_ne fun q => by subst q; rw [hD] at ha; cases ha]
                exact (((sH.trans sH3).trans sH4).trans sH5) a o ha
              refine ⟨F5, wipeE Γ5 own, ts ++ [t], xs ++ [v5], fs ++ (fp5 ++ []), r8.less fun a => ?_, upd_same, fr, by simp; omega, by rw [noBs_append, nb]; simp [T.noBs, hnb], ((sF.trans sF3).trans sF4).trans sF5, sHu, P2⟩
              simp only [List.count_append, List.count_cons, List.count_nil]; omega
  · rintro H2 ⟨F2, Γ2, ts, xs, fs, r2, h2, rp, hl, nb, sF, sH, P2⟩
    rw [List.drop_length] at P2
    refine P2 (.ref D) F2 H2 (D :: fs) ?_ (.l h2 rp) sH sF
    refine Rel.unwipe own nd r2 fun v d hk => ?_
    obtain ⟨this, hf⟩ := keepV_F hk
    obtain ⟨x, f, hx, rt, _⟩ := rel1.get this
    have hf0 : f = [] := by cases rt <;> first | rfl | cases hf
    subst hf0
    exact ⟨x, hx, rt.grow sF sH⟩
theorem blk_scope {X : Cx} {s : Shared} {H : Hp} {scope : Scope} {C : Addr} {cl : List (Str × Addr)} {fp : List Addr} : (X.blk s H scope (compEnvC scope cl C X.env) fp).env.scope = relS scope X.env.scope := rfl
theorem chk_lc {N sc b own tg it c m} {e : Expr} (h : chkE N sc b (.lc own tg it c m) e = true) : ∃ x t iter ifs scope pos, e = .ListComp x [⟨t, iter, ifs, 0⟩] scope pos ∧ chkI N sc b it t iter = true ∧ own.Nodup ∧ blkC N sc scope (ownP N own) = true ∧ (ownP N own).map (·.2) = own ∧
    chkTg N (relS scope sc) ⟨true, b.fns, b.cls, b.mts, b.ats, b.io⟩ tg t = true ∧ (∀ i ∈ tg.slots, i ∈ own) ∧ CkC N (relS scope sc) ⟨true, b.fns, b.cls, b.mts, b.ats, b.io⟩ c ifs ∧ chkE N (relS scope sc) ⟨true, b.fns, b.cls, b.mts, b.ats, b.io⟩ m x = true := by
  unfold chkE at h
  split at h
  · rename_i x t iter ifs scope pos
    simp only [Bool.and_eq_true, decide_eq_true_eq, List.all_eq_true, List.contains_iff_mem] at h
    obtain ⟨⟨⟨⟨⟨⟨⟨h1, h2⟩, h3⟩, h4⟩, h5⟩, h6⟩, h7⟩, h8⟩ := h
    refine ⟨_, _, _, _, _, _, rfl, h1, h2, h3, h4, h5, h6, ?_, h8⟩
    cases c with
    | no => cases ifs with
      | nil => trivial
      | cons _ _ => cases h7
    | so k => cases ifs with
      | nil => cases h7
      | cons y r => cases r with
        | nil => exact h7
        | cons _ _ => cases h7
  · cases h
/-- the parts of a comprehension -/
structure LcP (G : Glob) (X : Cx) (W : WX) (own : List Nat) (tg : Tg) (it : I) (c : OE) (m : E) (x t iter : Expr) (ifs : List Expr) (scope : Scope) : Prop where
  hi : PI X t iter (TM X.K G W (rI' X.K) (evI G.cl G.con it))
  ok : BlkOk X.N X.env.scope scope (ownP X.N own)
  hg : ∀ (s : Shared) (H : Hp) (C : Addr) (cl : List (Str × Addr)) (fp : List Addr), PG (X.blk s H scope (compEnvC scope cl C X.env) fp) t (gTg X.K tg)
  ht : ∀ (s : Shared) (H : Hp) (C : Addr) (cl : List (Str × Addr)) (fp : List Addr), PTs (X.blk s H scope (compEnvC scope cl C X.env) fp) ifs (TM X.K G W0 (fun _ _ v a fp => v = a ∧ fp = []) (evC G.cl G.con c))
  he : ∀ (s : Shared) (H : Hp) (C : Addr) (cl : List (Str × Addr)) (fp : List Addr), PE (X.blk s H scope (compEnvC scope cl C X.env) fp) x (TE' X.K G W0 m)
  hs : ∀ env v, foldedSetIterable iter env v = pure v
theorem lc_parts {own : List Nat} {tg : Tg} {it : I} {c : OE} {m : E} (hi : OkI G it) (hc : OkC G c) (hm : Ok G m) {X : Cx} {W : WX} {b : CP} (g : Gd X G W b) {x t iter : Expr} {ifs : List Expr} {scope : Scope} (h1 : chkI X.N X.env.scope b it t iter = true)
    (h3 : blkC X.N X.env.scope scope (ownP X.N own) = true) (h5 : chkTg X.N (relS scope X.env.scope) ⟨true, b.fns, b.cls, b.mts, b.ats, b.io⟩ tg t = true)
    (h7 : CkC X.N (relS scope X.env.scope) ⟨true, b.fns, b.cls, b.mts, b.ats, b.io⟩ c ifs) (h8 : chkE X.N (relS scope X.env.scope) ⟨true, b.fns, b.cls, b.mts, b.ats, b.io⟩ m x = true) : LcP G X W own tg it c m x t iter ifs scope where
  hi := (hi X W b t iter g h1).1
  ok := blkOk_by h3
  hg := fun s H C cl fp => pg_tg (X := X.blk s H scope (compEnvC scope cl C X.env) fp) (g.blk s H scope C cl fp) h5
  ht := fun s H C cl fp => hc (X.blk s H scope (compEnvC scope cl C X.env) fp) W0 _ ifs (g.blk s H scope C cl fp) h7
  he := fun s H C cl fp => hm.pe (X.blk s H scope (compEnvC scope cl C X.env) fp) W0 _ x (g.blk s H scope C cl fp) h8
  hs := fun env v => by
    have := (hi X W b t iter g h1).2
    cases iter with
    | Set a k p => cases this
    | _ => rfl
theorem ok_lc {own : List Nat} {tg : Tg} {it : I} {c : OE} {m : E} (hi : OkI G it) (hc : OkC G c) (hm : Ok G m) : Ok G (.lc own tg it c m) := by
  have pe : ∀ X W b' e, Gd X G W b' → chkE X.N X.env.scope b' (.lc own tg it c m) e = true → PE X e (TE' X.K G W (.lc own tg it c m)) := by
    intro X W b' e g ch
    obtain ⟨x, t, iter, ifs, scope, pos, rfl, h1, h2, h3, h4, h5, h6, h7, h8⟩ := chk_lc ch
    have L := lc_parts hi hc hm g h1 h3 h5 h7 h8
    refine PE.imp (pe_lc g.calm g.nd L.hi L.ok L.hg L.ht L.he (L.hs _)) fun σ H Q h => ?_
    have := lc_read h2 h6 σ H Q h
    rw [h4]
    exact this
  refine ⟨pe, fun X W b' e g ch => ?_, pw_no fun N sc b op vs pos => rfl⟩
  obtain ⟨x, t, iter, ifs, scope, pos, rfl, _⟩ := chk_lc ch
  exact tB_of (pe X W b' _ g ch) fun _ => rfl
end

/-! ### all of them -/
mutual
theorem snd (G : Glob) : ∀ m : E, Ok G m
  | .var i => ok_var i
  | .frz i => ok_frz i
  | .mov i => ok_mov i
  | .int i => ok_int i
  | .str s => ok_str s
  | .non => ok_non
  | .bl b => ok_bl b
  | .glb x => ok_glb x
  | .bin o a b => ok_bin (snd G a) (snd G b)
  | .neg a => ok_neg (snd G a)
  | .not a => ok_not (snd G a)
  | .cmp o a b => ok_cmp (snd G a) (snd G b)
  | .isN a => ok_isN (snd G a)
  | .notN a => ok_notN (snd G a)
  | .cmp2 o p a b c => ok_cmp2 (snd G a) (snd G b) (snd G c)
  | .and a b => ok_and (snd G a) (snd G b)
  | .or a b => ok_or (snd G a) (snd G b)
  | .call f as => ok_call (sndEs G as)
  | .cme c m o as => ok_cme (snd G o) (sndEs G as)
  | .new c as => ok_new (sndEs G as)
  | .get d k x => ok_get (snd G d) (snd G k) (sndX G x)
  | .dix a i => ok_dix (snd G a) (snd G i)
  | .din n k d => ok_din (snd G k) (snd G d)
  | .fld a f => ok_fld (snd G a)
  | .lrn a => ok_lrn (snd G a)
  | .blt f as => ok_blt (sndEs G as)
  | .meth m a b => ok_meth (snd G a) (snd G b)
  | .isi a t => ok_isi (snd G a)
  | .ix a i => ok_ix (snd G a) (snd G i)
  | .sl a lo hi => ok_sl (snd G a) (sndO G lo) (sndO G hi)
  | .rev a => ok_rev (snd G a)
  | .lst es => ok_lst (sndEs G es)
  | .tup es => ok_tup (sndEs G es)
  | .dic0 _ => ok_dic0
  | .lc own tg it c e => ok_lc (sndI G it) (sndC G c) (snd G e)
theorem sndO (G : Glob) : ∀ m : OE, OkO G m
  | .no => oko_no
  | .so e => oko_so (snd G e)
theorem sndX (G : Glob) : ∀ m : OE, OkX G m
  | .no => okx_no
  | .so e => okx_so (snd G e)
theorem sndC (G : Glob) : ∀ m : OE, OkC G m
  | .no => okc_no
  | .so e => okc_so (snd G e)
theorem sndEs (G : Glob) : ∀ m : Es, OkEs G m
  | .nil => ok_nil
  | .cons e es => ok_cons (snd G e) (sndEs G es)
theorem sndI (G : Glob) : ∀ m : I, OkI G m
  | .seq e => oki_seq (snd G e)
  | .rng1 a => oki_rng1 (snd G a)
  | .rng2 a b => oki_rng2 (snd G a) (snd G b)
  | .rng3 a b c => oki_rng3 (snd G a) (snd G b) (snd G c)
  | .enum e => oki_enum (snd G e)
  | .zip a b => oki_zip (snd G a) (snd G b)
  | .rvd a => oki_rvd (snd G a)
end
end Tv

namespace Tv
open PySem PySem.Spec PyProof.Rows L2

/-! ### the small statements beside the text's -/
def compScope : Expr → Option Scope
  | .ListComp _ _ s _ | .SetComp _ _ s _ | .DictComp _ _ _ s _ => some s
  | _ => none
def notComp (e : Expr) : Bool := (compScope e).isNone
def swB (v : Expr) (y : Str) (py : Pos) (env : PySem.Env) : Bool := match compScope v with
  | some s => env.blockKind == .function && env.kindOf y == some .local && py.line == v.pos.line && !(s.names.any fun (n, k) => n == y && (k == .local || k == .cell))
  | none => false
theorem sw_name {v : Expr} {y : Str} {py : Pos} {l : Nat} {env : PySem.Env} : swapsWith v (some (.Name y py)) l env = pure (swB v y py env) := by
  cases v <;> rfl
theorem sw_none {v : Expr} {l : Nat} {env : PySem.Env} (h : notComp v = true) : swapsWith v none l env = pure false := by
  cases v <;> first | rfl | (exact absurd h (by decide)) | cases h
theorem sw_sub {v o i : Expr} {p : Pos} {l : Nat} {env : PySem.Env} : swapsWithSole [.Subscript o i p] v l env = pure false := by
  cases v <;> rfl
theorem sw_att {v o : Expr} {n : Str} {p : Pos} {l : Nat} {env : PySem.Env} : swapsWith v (some (.Attribute o n p)) l env = pure false := by
  cases v <;> rfl
theorem sw_tup {v : Expr} {es k} {p : Pos} {l : Nat} {env : PySem.Env} : swapsWithSole [.Tuple es k p] v l env = pure false := by
  cases v <;> rfl
theorem swst_sub {v o i : Expr} {p : Pos} {env : PySem.Env} : swappedStores [.Subscript o i p] v env = pure none := by
  cases v <;> rfl
theorem swst_tup {v : Expr} {es k} {p : Pos} {env : PySem.Env} (h : isTuple v = false) : swappedStores [.Tuple es k p] v env = pure none := by
  cases v <;> first | rfl | cases h

def chkPl (N : List Str) (sc : Scope) (b : CP) : Pl → Expr → Bool
  | .nm i, e => chkName N sc i e
  | .ix p m, e => match e with
    | .Subscript o k _ => chkPl N sc b p o && chkE N sc b m k
    | _ => false
  | .fl p f, e => match e with
    | .Attribute o n _ => decide (n = Str.ofString f) && chkPl N sc b p o
    | _ => false
def MO.nm : MO → String
  | .append => "append" | .extend => "extend" | .reverse => "reverse" | .clear => "clear" | .insert => "insert"
def MO.args : MO → Nat
  | .append => 1 | .extend => 1 | .reverse => 0 | .clear => 0 | .insert => 2
/-- the slots that a statement itself fills -/
def S.own : S → List Nat
  | .set i _ => [i]
  | .setF i _ => [i]
  | .setT is _ => is
  | .augV i _ _ => [i]
  | .pop i _ _ => [i]
  | .for tg _ _ => tg.slots
  | _ => []
mutual
def chkS (N : List Str) (sc : Scope) (b : CP) : S → Stmt → Bool
  | .set i e, st => match st with
    | .Assign [.Name y py] v _ => chkSt N sc b i (.Name y py) && chkE N sc b e v
    | _ => false
  | .setF i e, st => match st with
    | .Assign [.Name y py] v _ => chkSt N sc b i (.Name y py) && chkE N sc b e v
    | _ => false
  | .setT is e, st => match st with
    | .Assign [.Tuple es _ _] v _ => chkSts N sc b is es && chkE N sc b e v && !isTuple v
    | _ => false
  | .sto p ix e, st => match st with
    | .Assign [.Subscript o k _] v _ => chkPl N sc b p o && chkE N sc b ix k && chkE N sc b e v
    | _ => false
  | .dsto p ix e, st => match st with
    | .Assign [.Subscript o k _] v _ => chkPl N sc b p o && chkE N sc b ix k && chkE N sc b e v
    | _ => false
  | .stf c p f e, st => match st with
    | .Assign [.Attribute o n _] v _ => decide (n = Str.ofString f) && b.ats.contains (c, f) && chkPl N sc b p o && chkE N sc b e v
    | _ => false
  | .augV i o e, st => match st with
    | .AugAssign (.Name y py) op v _ => chkSt N sc b i (.Name y py) && chkE N sc b e v && decide (op = o.op)
    | _ => false
  | .augS i o ix e, st => match st with
    | .AugAssign (.Subscript x k _) op v _ => chkName N sc i x && chkE N sc b ix k && chkE N sc b e v && decide (op = o.op)
    | _ => false
  | .mut m p as, st => match st with
    | .Expr (.Call (.Attribute x n ap) ys [] cp) _ => decide (n = Str.ofString m.nm) && decide (ap.endLine = cp.line) && decide (ys.length = m.args) && chkPl N sc b p x && chkEs N sc b as ys
    | _ => false
  | .pop i p as, st => match st with
    | .Assign [.Name y py] (.Call (.Attribute x n ap) ys [] cp) _ => decide (n = Str.ofString "pop") && decide (ap.endLine = cp.line) && decide (ys.length ≤ 1) && chkSt N sc b i (.Name y py) && chkPl N sc b p x && chkEs N sc b as ys
    | _ => false
  | .ex e, st => match st with
    | .Expr v _ => chkE N sc b e v && notComp v
    | _ => false
  | .ife c x y, st => match st with
    | .If v s1 s2 _ => chkE N sc b c v && chkSs N sc b x s1 && chkSs N sc b y s2
    | _ => false
  | .for tg it body, st => match st with
    | .For t v s1 [] _ => chkTg N sc b tg t && chkI N sc b it t v && chkSs N sc b body s1
    | _ => false
  | .whl _ c body, st => match st with
    | .While v s1 [] _ => chkE N sc b c v && chkSs N sc b body s1
    | _ => false
  | .ret _ e, st => match st with
    | .Return (some v) _ => chkE N sc b e v
    | _ => false
  | .retN _, st => match st with
    | .Return none _ => true
    | _ => false
  | .pass, st => match st with
    | .Pass _ => true
    | .Expr (.Constant (.str _) _ _) _ => true
    | _ => false
  | .brk, st => match st with
    | .Break _ => true
    | _ => false
  | .cnt, st => match st with
    | .Continue _ => true
    | _ => false
  | .dead, _ => true
def chkSs (N : List Str) (sc : Scope) (b : CP) : Ss → List Stmt → Bool
  | .nil, xs => match xs with
    | [] => true
    | _ => false
  | .cons s ss, xs => match xs with
    | x :: xs => (s.own.all fun i => !b.io.contains i) && (chkS N sc b s x && chkSs N sc b ss xs)
    | [] => false
  | .kill _ ss, xs => chkSs N sc b ss xs
end

/-! ### the wishes -/
/-- the slots that stand all through the def -/
def Pin (G : Glob) (σ : L2.St) : Prop := ∀ p ∈ G.pin, σ[p.1]? = some (some p.2)
def FreeOf (G : Glob) (is : List Nat) : Prop := ∀ i ∈ is, ∀ p ∈ G.pin, p.1 ≠ i
theorem Pin.set {G : Glob} {σ : L2.St} (h : Pin G σ) {i : Nat} {o : Option V} (hi : FreeOf G [i]) : Pin G (σ.set i o) := fun p hp => by
  rw [List.getElem?_set_ne (Ne.symm (hi i (by simp) p hp))]; exact h p hp
theorem Pin.wiped {G : Glob} {σ σ' : L2.St} (h : Pin G σ) {is : List Nat} (hi : FreeOf G is) (hw : ∀ vs : List Nat, (∀ i ∈ is, i ∈ vs) → wipe σ' vs = wipe σ vs) : Pin G σ' := fun p hp => by
  have n : p.1 ∉ is := fun m => hi p.1 m p hp rfl
  rw [← wipe_get (σ := σ') n, hw is (fun _ h => h), wipe_get n]
  exact h p hp
def PostS (K : W.Frag) (G : Glob) (W : WX) (B : Base) (F : FF) (r : SR) (D : Ends) : Prop :=
  match r with
  | .bad => False
  | .nx Γ => ∀ σ F' H', Rel K B F' H' σ Γ [] → Pin G σ → SubF F F' → D.nx σ H'
  | .bk Γ => ∀ σ F' H', Rel K B F' H' σ Γ [] → Pin G σ → SubF F F' → D.bk σ H'
  | .ct Γ => ∀ σ F' H', Rel K B F' H' σ Γ [] → Pin G σ → SubF F F' → D.ct σ H'
  | .rt t Γ => ∀ v σ F' H' fp, Rel K B F' H' σ Γ fp → Pin G σ → RpT K F' H' v t fp → t.noB = true → SubF F F' → D.rt v H'
  | .ex x Γ => ∀ c d σ F' H', Rel K B F' H' σ Γ [] → Pin G σ → SubF F F' → G.exr x c d F' H' → W c d σ H'
/-- X0: the heap ahead of the def; what was locked then is none of this def's own things -/
def NoFz (X0 : Hp) (B : Base) : Prop := ∀ a o u, X0 a = some (.frz o u) → B.H0 a ≠ none
def Std (X0 : Hp) (G : Glob) (B : Base) (σ : L2.St) : Prop := NoFz X0 B ∧ Pin G σ
def TMS (K : W.Frag) (X0 : Hp) (G : Glob) (W : WX) (ev : Env → SR) : TS := fun D σ H => ∃ B F Γ, Std X0 G B σ ∧ Rel K B F H σ Γ [] ∧ PostS K G W B F (ev Γ) D
section
variable {K : W.Frag} {G : Glob} {W : WX} {B : Base} {F F1 : FF} {H H1 : Hp} {σ : L2.St} {Γ : Env} {r : SR} {D D' : Ends}
theorem PostS.later (P : PostS K G W B F r D) (hF : SubF F F1) : PostS K G W B F1 r D := by
  cases r with
  | bad => exact P
  | nx Γ => exact fun σ F' H' a p b => P σ F' H' a p (hF.trans b)
  | bk Γ => exact fun σ F' H' a p b => P σ F' H' a p (hF.trans b)
  | ct Γ => exact fun σ F' H' a p b => P σ F' H' a p (hF.trans b)
  | rt t Γ => exact fun v σ F' H' fp a p b c d => P v σ F' H' fp a p b c (hF.trans d)
  | ex x Γ => exact fun c d σ F' H' a p b e => P c d σ F' H' a p (hF.trans b) e
theorem PostS.lift {e : R T} {f : T → Env → SR} (P : PostS K G W B F (liftE e f) D) (hp : Pin G σ) :
    Post K G W B F H σ [] (rT K) e (fun v H' => ∃ t Γ' F' fp, Rel K B F' H' σ Γ' fp ∧ RpT K F' H' v t fp ∧ Sub H H' ∧ SubF F F' ∧ PostS K G W B F' (f t Γ') D) := by
  cases e with
  | bad => exact P
  | ok a Γ => exact fun v F' H' fp h1 h2 h3 h4 => ⟨a, Γ, F', fp, by simpa using h1, h2, h3, h4, P.later h4⟩
  | ex x Γ => exact fun c d F' H' h1 h2 h3 h4 => P c d σ F' H' h1 hp h3 h4
/-- with something in hand -/
theorem PostS.liftT {tmp : List Addr} {e : R T} {f : T → Env → SR} (P : PostS K G W B F (liftE e f) D) (hp : Pin G σ) :
    Post K G W B F H σ tmp (rT K) e (fun v H' => ∃ t Γ' F' fp, Rel K B F' H' σ Γ' (fp ++ tmp) ∧ RpT K F' H' v t fp ∧ Sub H H' ∧ SubF F F' ∧ PostS K G W B F' (f t Γ') D) := by
  cases e with
  | bad => exact P
  | ok a Γ => exact fun v F' H' fp h1 h2 h3 h4 => ⟨a, Γ, F', fp, h1, h2, h3, h4, P.later h4⟩
  | ex x Γ => exact fun c d F' H' h1 h2 h3 h4 => P c d σ F' H' (h1.less fun a => by simp) hp h3 h4
theorem PostS.liftI {α β : Type} {rep : FF → Hp → β → α → List Addr → Prop} {tmp : List Addr} {e : R α} {f : α → Env → SR} (P : PostS K G W B F (Tv.liftI e f) D) (hp : Pin G σ) :
    Post K G W B F H σ tmp rep e (fun J H' => ∃ a Γ' F' fp, Rel K B F' H' σ Γ' (fp ++ tmp) ∧ rep F' H' J a fp ∧ Sub H H' ∧ SubF F F' ∧ PostS K G W B F' (f a Γ') D) := by
  cases e with
  | bad => exact P
  | ok a Γ => exact fun v F' H' fp h1 h2 h3 h4 => ⟨a, Γ, F', fp, h1, h2, h3, h4, P.later h4⟩
  | ex x Γ => exact fun c d F' H' h1 h2 h3 h4 => P c d σ F' H' (h1.less fun a => by simp) hp h3 h4
end

/-! ### places -/
def navV (H : Hp) : V → List PK → Option V
  | x, [] => some x
  | .ref a, .n k :: p => match H a with
    | some (.lst xs) => (match xs[k]? with
      | some y => navV H y p
      | none => none)
    | some (.tup xs) => (match xs[k]? with
      | some y => navV H y p
      | none => none)
    | _ => none
  | .ref a, .f s :: p => match H a with
    | some (.ins _ _ fs) => (match fs.lookup (Str.ofString s) with
      | some y => navV H y p
      | none => none)
    | _ => none
  | _, _ => none
theorem nav_mono {H H' : Hp} (h : Sub H H') : ∀ {p : List PK} {x y : V}, navV H x p = some y → navV H' x p = some y
  | [], x, y, e => by cases x <;> exact e
  | .n k :: p, x, y, e => by
    cases x with
    | ref a =>
      simp only [navV] at e ⊢
      split at e
      · rename_i xs eh
        rw [h.eq eh rfl]
        dsimp only
        split at e
        · rename_i z ez
          exact nav_mono h e
        · cases e
      · rename_i xs eh
        rw [h.eq eh rfl]
        dsimp only
        split at e
        · rename_i z ez
          exact nav_mono h e
        · cases e
      · cases e
    | _ => cases e
  | .f s :: p, x, y, e => by
    cases x with
    | ref a =>
      simp only [navV] at e ⊢
      split at e
      · rename_i C dx fs eh
        rw [h.eq eh rfl]
        dsimp only
        split at e
        · rename_i z ez
          exact nav_mono h e
        · cases e
      · cases e
    | _ => cases e
theorem nav_nil {H : Hp} {x : V} : navV H x [] = some x := by cases x <;> rfl
theorem nav_snoc {H : Hp} : ∀ {p : List PK} {x y z : V} {k : PK}, navV H x p = some y → navV H y [k] = some z → navV H x (p ++ [k]) = some z
  | [], x, y, z, k, e, h => by rw [nav_nil] at e; cases e; exact h
  | .n j :: p, x, y, z, k, e, h => by
    cases x with
    | ref a =>
      simp only [navV, List.cons_append] at e ⊢
      split at e
      · rename_i xs eh
        split at e
        · rename_i w ew
          exact nav_snoc e h
        · cases e
      · rename_i xs eh
        split at e
        · rename_i w ew
          exact nav_snoc e h
        · cases e
      · cases e
    | _ => cases e
  | .f s :: p, x, y, z, k, e, h => by
    cases x with
    | ref a =>
      simp only [navV, List.cons_append] at e ⊢
      split at e
      · rename_i C dx fs eh
        split at e
        · rename_i w ew
          exact nav_snoc e h
        · cases e
      · cases e
    | _ => cases e
theorem lookup_ix {s : String} : ∀ {fs : List (Str × V)} {ns : List String} {k : Nat}, fs.map Prod.fst = ns.map Str.ofString → fIx ns s = some k → fs.lookup (Str.ofString s) = (fs.map Prod.snd)[k]?
  | [], ns, k, e, h => by
    cases ns with
    | nil => simp [fIx] at h
    | cons _ _ => simp at e
  | (x, y) :: fs, ns, k, e, h => by
    cases ns with
    | nil => simp at e
    | cons n ns =>
      simp only [List.map_cons, List.cons.injEq] at e
      obtain ⟨rfl, e⟩ := e
      unfold fIx at h
      rw [List.findIdx?_cons] at h
      rw [List.lookup_cons]
      by_cases c : n = s
      · subst c
        simp at h
        subst h
        simp
      · have c1 : (n == s) = false := beq_eq_false_iff_ne.mpr c
        have c2 : (Str.ofString s == Str.ofString n) = false := beq_eq_false_iff_ne.mpr fun q => c (ofString_inj q).symm
        simp only [c1, Bool.false_eq_true, if_false] at h
        obtain ⟨j, hj, rfl⟩ := Option.map_eq_some_iff.mp h
        rw [c2]
        simp only [List.map_cons, List.getElem?_cons_succ]
        exact lookup_ix e hj
theorem noBs_get {ts : List T} {n : Nat} {t : T} (h : T.noBs ts = true) (h2 : ts[n]? = some t) : t.noB = true := by
  rw [noBs_all, List.all_eq_true] at h
  exact h _ (List.mem_of_getElem? h2)
theorem noBs_set {ts : List T} {n : Nat} {t : T} (h : T.noBs ts = true) (h2 : t.noB = true) : T.noBs (ts.set n t) = true := by
  rw [noBs_all, List.all_eq_true] at h ⊢
  intro u hu
  rcases List.mem_or_eq_of_mem_set hu with hu | hu
  · exact h u hu
  · rw [hu]; exact h2
section
variable {K : W.Frag} {F : FF} {H : Hp}
/-- one item: seen alone, and another thing in its place -/
theorem RpTs.at : ∀ {xs : List V} {ts : List T} {g : List Addr} (n : Nat) {t : T}, RpTs K F H xs ts g → ts[n]? = some t → ∃ (x : V) (f0 g0 : List Addr), xs[n]? = some x ∧ RpT K F H x t f0 ∧ (∀ c : Addr, f0.count c + g0.count c = g.count c) ∧
    ∀ {H' : Hp} {u : T} {fu : List Addr}, RpT K F H' x u fu → (∀ a ∈ g0, H' a = H a) → T.noBs ts = true → ∃ g' : List Addr, RpTs K F H' xs (ts.set n u) g' ∧ ∀ c, g'.count c ≤ fu.count c + g0.count c
  | _, _, _, _, _, .nil, e => by simp at e
  | _, _, _, 0, t, .cons (x := x) (f := f) (g := g) a b, e => by
    simp at e; subst e
    refine ⟨x, f, g, rfl, a, fun c => by simp only [List.count_append], fun {H' u fu} h k nb => ⟨fu ++ g, .cons h (b.frame SubF.refl (by simp [T.noBs] at nb; exact nb.2) k), fun c => by simp only [List.count_append]; omega⟩⟩
  | _, _, _, n + 1, t, .cons (x := x0) (f := f) (g := g) a b, e => by
    obtain ⟨x, f0, g0, h1, h2, h3, h4⟩ := RpTs.at n (t := t) b (by simpa using e)
    refine ⟨x, f0, f ++ g0, by simpa using h1, h2, fun c => by have := h3 c; simp only [List.count_append]; omega, fun {H' u fu} h k nb => ?_⟩
    simp [T.noBs] at nb
    obtain ⟨g', q1, q2⟩ := h4 h (fun a ha => k a (by simp [ha])) nb.2
    exact ⟨f ++ g', .cons (a.frame SubF.refl nb.1 fun a ha => k a (by simp [ha])) q1, fun c => by have := q2 c; simp only [List.count_append]; omega⟩
theorem RpTs.set : ∀ {xs : List V} {ts : List T} {g ft : List Addr} (n : Nat) {x : V} {t : T}, RpTs K F H xs ts g → RpT K F H x t ft → ∃ g', RpTs K F H (xs.set n x) (ts.set n t) g' ∧ ∀ c, g'.count c ≤ g.count c + ft.count c
  | _, _, _, ft, _, _, _, .nil, _ => ⟨[], .nil, fun c => by simp⟩
  | _, _, _, ft, 0, _, _, .cons (f := f) (g := g) a b, h => ⟨ft ++ g, .cons h b, fun c => by simp only [List.count_append]; omega⟩
  | _, _, _, ft, n + 1, _, _, .cons (f := f) (g := g) a b, h => by
    obtain ⟨g', h1, h2⟩ := RpTs.set n b h
    exact ⟨f ++ g', .cons a h1, fun c => by have := h2 c; simp only [List.count_append]; omega⟩
/-- the thing at a path: seen alone, and another one in its place -/
theorem RpT.lens (hF : Hs F H) : ∀ {p : List PK} {x : V} {t u : T} {f : List Addr}, RpT K F H x t f → getP t p = some u → t.noB = true → ∃ (y : V) (fu g : List Addr), navV H x p = some y ∧ RpT K F H y u fu ∧ (∀ c : Addr, fu.count c + g.count c = f.count c) ∧ u.noB = true ∧
    ∀ {H' : Hp} {u' : T} {fu' : List Addr}, RpT K F H' y u' fu' → u'.noB = true → (∀ a ∈ g, H' a = H a) → ∃ f' : List Addr, RpT K F H' x (setP t p u') f' ∧ (setP t p u').noB = true ∧ ∀ c, f'.count c ≤ fu'.count c + g.count c
  | [], x, t, u, f, r, e, nb => by
    have e : t = u := by cases t <;> exact Option.some.inj e
    subst e
    refine ⟨x, f, [], nav_nil, r, fun c => by simp, nb, fun {H' u' fu'} r' nb' _ => ⟨fu', ?_, ?_, fun c => by simp⟩⟩
    · cases t <;> exact r'
    · cases t <;> exact nb'
  | .n k :: p, x, t, u, f, r, e, nb => by
    cases r with
    | @l a xs ts f0 h r =>
      simp only [getP] at e
      split at e
      · rename_i t' et
        have nbs : T.noBs ts = true := by simpa [T.noB] using nb
        obtain ⟨x', f1, g1, h1, h2, h3, h4⟩ := r.at k et
        obtain ⟨y, fu, g, k1, k2, k3, k4, k5⟩ := RpT.lens hF h2 e (noBs_get nbs et)
        refine ⟨y, fu, a :: (g1 ++ g), ?_, k2, fun c => ?_, k4, fun {H' u' fu'} r' nb' kk => ?_⟩
        · simp only [navV, h, h1]; exact k1
        · have := h3 c; have := k3 c; simp only [List.count_cons, List.count_append]; omega
        · obtain ⟨f', q1, q2, q3⟩ := k5 r' nb' fun b hb => kk b (by simp [hb])
          obtain ⟨g', q4, q5⟩ := h4 q1 (fun b hb => kk b (by simp [hb])) nbs
          refine ⟨a :: g', ?_, ?_, fun c => ?_⟩
          · simp only [setP, et]; exact .l ((kk a (by simp)).trans h) q4
          · simp only [setP, et, T.noB]; exact noBs_set nbs q2
          · have := q3 c; have := q5 c; simp only [List.count_cons, List.count_append]; omega
      · cases e
    | @tp a xs ts f0 h r =>
      simp only [getP] at e
      split at e
      · rename_i t' et
        have nbs : T.noBs ts = true := by simpa [T.noB] using nb
        obtain ⟨x', f1, g1, h1, h2, h3, h4⟩ := r.at k et
        obtain ⟨y, fu, g, k1, k2, k3, k4, k5⟩ := RpT.lens hF h2 e (noBs_get nbs et)
        have hh : H a = some (.tup xs) := (hF.nsub.trans hF.sub).eq h rfl
        refine ⟨y, fu, g1 ++ g, ?_, k2, fun c => ?_, k4, fun {H' u' fu'} r' nb' kk => ?_⟩
        · simp only [navV, hh, h1]; exact k1
        · have := h3 c; have := k3 c; simp only [List.count_append]; omega
        · obtain ⟨f', q1, q2, q3⟩ := k5 r' nb' fun b hb => kk b (by simp [hb])
          obtain ⟨g', q4, q5⟩ := h4 q1 (fun b hb => kk b (by simp [hb])) nbs
          refine ⟨g', ?_, ?_, fun c => ?_⟩
          · simp only [setP, et]; exact .tp h q4
          · simp only [setP, et, T.noB]; exact noBs_set nbs q2
          · have := q3 c; have := q5 c; simp only [List.count_append]; omega
      · cases e
    | _ => cases e
  | .f s :: p, x, t, u, f, r, e, nb => by
    cases r with
    | @ob a dx fs c ns xs ts f0 hc h hn hx r =>
      subst hx
      simp only [getP] at e
      split at e
      · rename_i k ek
        split at e
        · rename_i t' et
          have nbs : T.noBs ts = true := by simpa [T.noB] using nb
          obtain ⟨x', f1, g1, h1, h2, h3, h4⟩ := r.at k et
          obtain ⟨y, fu, g, k1, k2, k3, k4, k5⟩ := RpT.lens hF h2 e (noBs_get nbs et)
          have hl := lookup_ix hn ek
          rw [h1] at hl
          refine ⟨y, fu, a :: (g1 ++ g), ?_, k2, fun c => ?_, k4, fun {H' u' fu'} r' nb' kk => ?_⟩
          · simp only [navV, h, hl]; exact k1
          · have := h3 c; have := k3 c; simp only [List.count_cons, List.count_append]; omega
          · obtain ⟨f', q1, q2, q3⟩ := k5 r' nb' fun b hb => kk b (by simp [hb])
            obtain ⟨g', q4, q5⟩ := h4 q1 (fun b hb => kk b (by simp [hb])) nbs
            refine ⟨a :: g', ?_, ?_, fun c => ?_⟩
            · simp only [setP, ek, et]; exact .ob hc ((kk a (by simp)).trans h) hn rfl q4
            · simp only [setP, ek, et, T.noB]; exact noBs_set nbs q2
            · have := q3 c; have := q5 c; simp only [List.count_cons, List.count_append]; omega
        · cases e
      · cases e
    | _ => cases e
end
/-- a thing at a place, ready to be written; ft: what is in hand -/
theorem Rel.lens {K : W.Frag} {B : Base} {F : FF} {H : Hp} {σ : L2.St} {Γ : Env} {tmp ft : List Addr} {q : Pth} {u : T} (r : Rel K B F H σ Γ (ft ++ tmp)) (e : getΓ Γ q = some u) : ∃ (x y : V) (fu : List Addr), σ[q.1]? = some (some x) ∧ navV H x q.2 = some y ∧ RpT K F H y u fu ∧ u.noB = true ∧ (∀ c : Addr, fu.count c + ft.count c ≤ 1) ∧ (∀ a ∈ fu, F.f a = none ∧ B.H0 a = none) ∧
    ∀ {a : Addr} {o : HO} {u' : T} {fu' fx : List Addr}, a ∈ fu → stab o = false → RpT K F (upd H a o) y u' fu' → u'.noB = true → (∀ c, fu'.count c + fx.count c ≤ fu.count c + ft.count c) → Rel K B F (upd H a o) σ (setΓ Γ q u') (fx ++ tmp) := by
  unfold getΓ at e
  split at e
  · rename_i t et
    obtain ⟨x, f, hv, rt, nb, r2⟩ := r.take et
    obtain ⟨y, fu, g, k1, k2, k3, k4, k5⟩ := rt.lens r.hs e nb
    obtain ⟨f0, _, _, hh⟩ := r2.env
    have cnt := r2.cnt
    refine ⟨x, y, fu, hv, k1, k2, k4, fun c => ?_, fun a ha => ?_, fun {a o u' fu' fx} ha ho r' nb' hc => ?_⟩
    · have := cnt c; have := k3 c; simp only [List.count_append] at *; omega
    · have m : a ∈ f := mem_of_count (f := fu) (by have := k3 a; omega) ha
      have := hh a (.inr (List.mem_append_left _ m))
      exact ⟨this.1, this.2.1⟩
    · have m : a ∈ f := mem_of_count (f := fu) (by have := k3 a; omega) ha
      have r3 := r2.mut (o := o) (List.mem_append_left _ m) ho
      have ng : ∀ b ∈ g, b ≠ a := fun b hb z => by
        subst z
        have e1 := List.count_pos_iff.mpr ha
        have e2 := List.count_pos_iff.mpr hb
        have := cnt b; have := k3 b; simp only [List.count_append] at *; omega
      obtain ⟨f', q1, q2, q3⟩ := k5 r' nb' fun b hb => upd_ne (ng b hb)
      have r4 := (r3.less (tmp' := f' ++ (fx ++ tmp)) fun c => by have := q3 c; have := hc c; have := k3 c; simp only [List.count_append]; omega).putBack q1 q2 hv
      rw [List.set_set] at r4
      have es : setΓ Γ q u' = Γ.set q.1 (some (setP t q.2 u')) := by unfold setΓ; rw [et]
      rw [es]; exact r4
  · cases e
def rPl (σ : L2.St) : FF → Hp → V → Pth → List Addr → Prop := fun _ H v q fp => fp = [] ∧ ∃ x, σ[q.1]? = some (some x) ∧ navV H x q.2 = some v
def TPl (K : W.Frag) (G : Glob) (W : WX) (p : Pl) : TE := fun σ H Q => TM K G W (rPl σ) (evPl G.cl G.con p) σ H Q
def OkPl (G : Glob) (p : Pl) : Prop := ∀ X W b e, Gd X G W b → chkPl X.N X.env.scope b p e = true → PE X e (TPl X.K G W p) ∧ (∀ n : Str, attributeBase e n X.env (eval e X.env) = eval e X.env)
theorem ownQ_of {o : Option T} {ts : List T} (h : ownQ o = some ts) : o = some (.l ts) ∨ o = some (.tp ts) := by
  unfold ownQ at h
  split at h
  · cases h; exact .inl rfl
  · cases h; exact .inr rfl
  · cases h
theorem ixN_len {n m : Nat} {j : Int} {k : Nat} (e : n = m) (h : ixN n j = some k) : ixN m j = some k := e ▸ h
theorem ixT1_of {n : Nat} {k : T} {m : Nat} (h : ixT1 n k = some m) : ∃ j, k = .v (.int j) ∧ ixN n j = some m := by
  unfold ixT1 at h
  split at h
  · exact ⟨_, rfl, h⟩
  · cases h
theorem atI_of {α : Type} {xs : List α} {n : Nat} {j : Int} {k : Nat} {x : α} (hl : xs.length = n) (h : ixN n j = some k) (e : xs[k]? = some x) : atI xs j = some x := by
  unfold atI
  rw [hl, h]
  exact e
theorem ixN_lt {n : Nat} {j : Int} {k : Nat} (h : ixN n j = some k) : k < n := by
  unfold ixN at h
  split at h
  · split at h
    · cases h; omega
    · cases h
  · split at h
    · cases h; omega
    · cases h
theorem int_inv' {K : W.Frag} {F : FF} {H : Hp} {x : V} {i : Int} {f : List Addr} (r : RpT K F H x (.v (.int i)) f) : x = .int i := (int_inv r).1
section
variable {G : Glob}
theorem okp_nm (i : Nat) : OkPl G (.nm i) := by
  intro X W b e g c
  obtain ⟨x, pos, rfl, p⟩ := name_of (show chkName X.N X.env.scope i e = true from c)
  refine ⟨PE.imp p fun σ H Q h => ?_, fun n => rfl⟩
  obtain ⟨B, F, Γ, tmp, rel, P⟩ := h
  simp only [evPl] at P
  split at P
  · rename_i t e
    obtain ⟨v, f, hv, rt, nb⟩ := rel.get e
    exact ⟨v, hv, P v F H [] (by simpa using rel) ⟨rfl, v, hv, nav_nil⟩ Sub.refl SubF.refl⟩
  · exact P.elim
theorem okp_ix {p : Pl} {m : E} (hp : OkPl G p) (hm : Ok G m) : OkPl G (.ix p m) := by
  intro X W b e g c
  simp only [chkPl] at c
  split at c
  · rename_i o k pos
    rw [Bool.and_eq_true] at c
    refine ⟨PE.imp (pe_ix ix_any (hp X W b o g c.1).1 (hm.pe X W b k g c.2) (plainIx_of c.2)) fun σ H Q h => ?_, fun n => rfl⟩
    obtain ⟨B, F, Γ, tmp, rel, P⟩ := h
    simp only [evPl] at P
    refine ⟨B, F, Γ, tmp, rel, (Post.bind (rep := rPl σ) (fp := []) P).imp ?_⟩
    rintro v1 H1 ⟨q, Γ1, F1, fp1, rel1, ⟨rfl, x, hx, hn1⟩, sH1, sF1, P1⟩
    split at P1
    · refine ⟨B, F1, Γ1, tmp, by simpa using rel1, (Post.bind (rep := rT X.K) (fp := []) P1).imp ?_⟩
      rintro v2 H2 ⟨kt, Γ2, F2, fk, rel2, rk, sH2, sF2, P2⟩
      split at P2
      · rename_i ts eo
        split at P2
        · rename_i n en
          obtain ⟨j, rfl, hj⟩ := ixT1_of en
          obtain rfl := int_inv' rk
          have hn2 := nav_mono sH2 hn1
          rcases ownQ_of eo with eo | eo
          · obtain ⟨x', y, fu, hx', hny, ru, nbu, _, _, _⟩ := rel2.lens (ft := fk) (by simpa using eo)
            rw [hx] at hx'; cases hx'
            rw [hn2] at hny; cases hny
            cases ru with
            | @l a xs _ f0 hh rs =>
              have hlt : n < xs.length := by rw [rs.length]; exact ixN_lt hj
              refine .inl ⟨a, xs, j, xs[n], rfl, rfl, .of hh, atI_of rs.length hj (List.getElem?_eq_getElem hlt), ?_⟩
              refine P2 xs[n] F2 H2 [] (rel2.less fun c => by simp only [List.nil_append, List.count_append]; omega) ⟨rfl, x, hx, nav_snoc hn2 ?_⟩ Sub.refl SubF.refl
              simp only [navV, hh, List.getElem?_eq_getElem hlt]
          · obtain ⟨x', y, fu, hx', hny, ru, nbu, _, _, _⟩ := rel2.lens (ft := fk) (by simpa using eo)
            rw [hx] at hx'; cases hx'
            rw [hn2] at hny; cases hny
            cases ru with
            | @tp a xs _ f0 hh rs =>
              have hh := (rel2.nsub.trans rel2.sub).eq hh rfl
              have hlt : n < xs.length := by rw [rs.length]; exact ixN_lt hj
              refine .inr (.inl ⟨a, xs, j, xs[n], rfl, rfl, .of hh, atI_of rs.length hj (List.getElem?_eq_getElem hlt), ?_⟩)
              refine P2 xs[n] F2 H2 [] (rel2.less fun c => by simp only [List.nil_append, List.count_append]; omega) ⟨rfl, x, hx, nav_snoc hn2 ?_⟩ Sub.refl SubF.refl
              simp only [navV, hh, List.getElem?_eq_getElem hlt]
        · exact P2.elim
      · exact P2.elim
    · exact P1.elim
  · cases c
theorem okp_fl {p : Pl} {f : String} (hp : OkPl G p) : OkPl G (.fl p f) := by
  intro X W b e g c
  simp only [chkPl] at c
  split at c
  · rename_i o n pos
    rw [Bool.and_eq_true, decide_eq_true_eq] at c
    obtain ⟨rfl, c⟩ := c
    obtain ⟨hpe, hba⟩ := hp X W b o g c
    refine ⟨PE.imp (pe_fld hpe (hba _)) fun σ H Q h => ?_, fun n => rfl⟩
    obtain ⟨B, F, Γ, tmp, rel, P⟩ := h
    simp only [evPl] at P
    refine ⟨B, F, Γ, tmp, rel, (Post.bind (rep := rPl σ) (fp := []) P).imp ?_⟩
    rintro v1 H1 ⟨q, Γ1, F1, fp1, rel1, ⟨rfl, x, hx, hn1⟩, sH1, sF1, P1⟩
    have rel1 : Rel X.K B F1 H1 σ Γ1 tmp := by simpa using rel1
    split at P1
    · rename_i c' ns ts eg
      split at P1
      · rename_i k ek
        obtain ⟨x', y, fu, hx', hny, ru, nbu, _, _, _⟩ := rel1.lens (ft := []) (by simpa using eg)
        rw [hx] at hx'; cases hx'
        rw [hn1] at hny; cases hny
        cases ru with
        | @ob a dx fs _ _ xs _ f0 hc hh hn hxs rs =>
          subst hxs
          have hl := lookup_ix hn ek
          have hk : k < (fs.map Prod.snd).length := by
            have h1 : k < ns.length := by
              unfold fIx at ek
              exact (List.findIdx?_eq_some_iff_getElem.mp ek).1
            have h2 : fs.length = ns.length := by
              have := congrArg List.length hn
              simpa using this
            rw [List.length_map, h2]; exact h1
          rw [List.getElem?_eq_getElem hk] at hl
          have hf : f ∈ ns := by
            unfold fIx at ek
            obtain ⟨h1, h2, _⟩ := List.findIdx?_eq_some_iff_getElem.mp ek
            have : ns[k] = f := eq_of_beq h2
            rw [← this]; exact List.getElem_mem h1
          refine ⟨a, _, dx, fs, _, rfl, hh, hc.cls, hc.no f hf, hl, ?_⟩
          refine P1 _ F1 H1 [] (by simpa using rel1) ⟨rfl, x, hx, nav_snoc hn1 ?_⟩ Sub.refl SubF.refl
          simp only [navV, hh, hl]
      · exact P1.elim
    · exact P1.elim
  · cases c
theorem sndPl (G : Glob) : ∀ p : Pl, OkPl G p
  | .nm i => okp_nm i
  | .ix p e => okp_ix (sndPl G p) (snd G e)
  | .fl p f => okp_fl (sndPl G p)
end
end Tv

namespace Tv
open PySem PySem.Spec PyProof.Rows L2

theorem putΓ_ok {K : W.Frag} {G : Glob} {W : WX} {B : Base} {F : FF} {Γ : Env} {q : Pth} {o : Option T} {D : Ends} (P : PostS K G W B F (putΓ Γ q o) D) : ∃ t, o = some t ∧ ∀ σ F' H', Rel K B F' H' σ (setΓ Γ q t) [] → Pin G σ → SubF F F' → D.nx σ H' := by
  unfold putΓ at P
  split at P
  · exact ⟨_, rfl, P⟩
  · exact P.elim
theorem putO_ok {K : W.Frag} {G : Glob} {W : WX} {B : Base} {F : FF} {Γ : Env} {i : Nat} {o : Option T} {D : Ends} (P : PostS K G W B F (putO Γ i o) D) : ∃ t, o = some t ∧ ∀ σ F' H', Rel K B F' H' σ (Γ.set i (some t)) [] → Pin G σ → SubF F F' → D.nx σ H' := by
  unfold putO at P
  split at P
  · exact ⟨_, rfl, P⟩
  · exact P.elim
theorem isLs_of {Γ : Env} {q : Pth} (h : isLs Γ q = true) : ∃ ts, getΓ Γ q = some (.l ts) := by
  unfold isLs at h
  split at h
  · rename_i ts e; exact ⟨ts, e⟩
  · cases h
theorem isDs_of {Γ : Env} {q : Pth} (h : isDs Γ q = true) : ∃ t ks ts, getΓ Γ q = some (.dc t ks ts) := by
  unfold isDs at h
  split at h
  · rename_i t ks ts e; exact ⟨t, ks, ts, e⟩
  · cases h
def OkS (G : Glob) (m : S) : Prop := ∀ X W b st, Gd X G W b → b.blk = false → chkS X.N X.env.scope b m st = true → FreeOf G m.own → PS X st (TMS X.K X.H_0 G W (evS G.cl G.con m))
def OkSs (G : Glob) (m : Ss) : Prop := ∀ X W b st, Gd X G W b → b.blk = false → chkSs X.N X.env.scope b m st = true → PSs X st (TMS X.K X.H_0 G W (evSs G.cl G.con m))
theorem PS.imp {X : Cx} {e : Stmt} {t t' : TS} (h : PS X e t) (i : ∀ D σ H, t' D σ H → t D σ H) : PS X e t' := ⟨fun pins s σ H D I q => h.run pins s σ H D I (i D σ H q)⟩
theorem PSs.imp {X : Cx} {e : List Stmt} {t t' : TS} (h : PSs X e t) (i : ∀ D σ H, t' D σ H → t D σ H) : PSs X e t' := ⟨fun pins s σ H D I q => h.run pins s σ H D I (i D σ H q)⟩
theorem chk_comp {N sc b m} {v : Expr} (c : chkE N sc b m v = true) (h : notComp v = false) : ∃ own tg it co e, m = .lc own tg it co e := by
  cases m with
  | lc own tg it co e => exact ⟨_, _, _, _, _, rfl⟩
  | _ => exfalso; cases v <;> first | (cases h; done) | (cases c; done) | (simp [notComp, compScope] at h; done) | (simp [chkE, chkName, isGl] at c; done)
theorem swB_true {v : Expr} {y : Str} {py : Pos} {env : PySem.Env} (h : swB v y py env = true) : env.kindOf y = some .local ∧ notComp v = false := by
  unfold swB at h
  unfold notComp
  split at h
  · rename_i s e
    simp only [Bool.and_eq_true, beq_iff_eq] at h
    exact ⟨h.1.1.2, by rw [e]; rfl⟩
  · cases h
section
variable {G : Glob}
theorem set_read {K : W.Frag} {X0 : Hp} {W : WX} {i : Nat} {e : E} (hp : FreeOf G [i]) : ∀ D σ H, TMS K X0 G W (evS G.cl G.con (.set i e)) D σ H → tAsg (TE' K G W e) (gName i) D σ H := by
  rintro D σ H ⟨B, F, Γ, hz, rel, P⟩
  simp only [evS] at P
  refine ⟨B, F, Γ, [], rel, (P.lift hz.2).imp ?_⟩
  rintro v H' ⟨t, Γ', F', fp, r1, rt, sH, sF, P1⟩
  split at P1
  · rename_i hc
    rw [Bool.and_eq_true, decide_eq_true_eq] at hc
    exact P1 _ F' H' (Rel.store (tmp := []) (by simpa using r1) rt hc.1 hc.2) (hz.2.set hp) SubF.refl
  · exact P1.elim
theorem oks_set0 {i : Nat} {e : E} {m : S} (hc : ∀ N sc b st, chkS N sc b m st = true → chkS N sc b (.set i e) st = true) (ho : m.own = [i]) (hr : FreeOf G [i] → ∀ (K : W.Frag) (X0 : Hp) (W : WX) D σ H, TMS K X0 G W (evS G.cl G.con m) D σ H → tAsg (TE' K G W e) (gName i) D σ H) : OkS G m := by
  intro X W b st g hb c hp
  replace c := hc _ _ _ _ c
  simp only [chkS] at c
  split at c
  · rename_i y py v pos
    rw [Bool.and_eq_true] at c
    have c1 : (decide (X.N[i]? = some y) && stB X.env.scope b y) = true := c.1
    rw [Bool.and_eq_true, decide_eq_true_eq] at c1
    cases hs : swB v y py X.env with
    | false => exact PS.imp (ps_set g.nd c1.1 (stB_loc c1.2) ((snd G e).pe X W b v g c.2) (by rw [sw_name, hs]) (stB_fn g c1.2)) (hr (ho ▸ hp) X.K X.H_0 W)
    | true =>
      obtain ⟨k1, k2⟩ := swB_true hs
      obtain ⟨own, tg, it, co, e', rfl⟩ := chk_comp c.2 k2
      obtain ⟨x, t, iter, ifs, scope, pos', rfl, h1, h2, h3, h4, h5, h6, h7, h8⟩ := chk_lc c.2
      have L := lc_parts (sndI G it) (sndC G co) (snd G e') g h1 h3 h5 h7 h8
      refine PS.imp (ps_setLc g.calm g.nd c1.1 k1 (by rw [sw_name, hs]) L.hi L.ok L.hg L.ht L.he (L.hs _)) fun D σ H h => ?_
      have := lc_read h2 h6 σ H _ (hr (ho ▸ hp) X.K X.H_0 W D σ H h)
      rw [h4]
      exact this
  · cases c
theorem oks_set {i : Nat} {e : E} : OkS G (.set i e) := oks_set0 (fun _ _ _ _ h => h) rfl fun hp K X0 W => set_read hp
theorem setF_read {K : W.Frag} {X0 : Hp} {W : WX} {i : Nat} {e : E} (hp : FreeOf G [i]) : ∀ D σ H, TMS K X0 G W (evS G.cl G.con (.setF i e)) D σ H → tAsg (TE' K G W e) (gName i) D σ H := by
  rintro D σ H ⟨B, F, Γ, hz, rel, P⟩
  simp only [evS] at P
  refine ⟨B, F, Γ, [], rel, (P.lift hz.2).imp ?_⟩
  rintro v H' ⟨t, Γ', F', fp, r1, rt, sH, sF, P1⟩
  split at P1
  · rename_i d ed
    split at P1
    · rename_i hi
      obtain ⟨rd, nb⟩ := fz_ok ed r1 rt
      have r2 := r1.freezeTmp (f1 := fp) (g := []) fun a => by simp
      exact P1 _ _ H' (Rel.store (f1 := []) (tmp := []) r2 rd nb hi) (hz.2.set hp) (addF_sub r1.sub r1.nsub)
    · exact P1.elim
  · exact P1.elim
theorem oks_setF {i : Nat} {e : E} : OkS G (.setF i e) := oks_set0 (fun _ _ _ _ h => h) rfl fun hp K X0 W => setF_read hp
theorem seqT_ok {K : W.Frag} {F : FF} {H : Hp} {x : V} {t : T} {f : List Addr} {ts : List T} (e : seqT t = some ts) (hF : Hs F H) (r : RpT K F H x t f) : ∃ a xs g, x = .ref a ∧ (SqL K H a xs ∨ SqT K H a xs) ∧ RpTs K F H xs ts g ∧ ∀ c, g.count c ≤ f.count c := by
  have : asQ t = some ts := by
    unfold seqT at e
    split at e <;> cases e <;> rfl
  exact asQ_ok this hF r
theorem oks_setT {is : List Nat} {e : E} : OkS G (.setT is e) := by
  intro X W b st g hb c hp
  simp only [chkS] at c
  split at c
  · rename_i es k p v pos
    simp only [Bool.and_eq_true, Bool.not_eq_true'] at c
    obtain ⟨⟨c1, c2⟩, c3⟩ := c
    obtain ⟨q, l, l2, f⟩ := pg_sts g c1
    have pg : PG X (.Tuple es k p) (fun v σ H Q => gTup X.K is.length (gNames is) v σ H Q ∨ gLst X.K is.length (gNames is) v σ H Q) :=
      ⟨fun pins s σ H v u Q I r h => h.elim ((pg_tup g.calm q l2 f).run pins s σ H v u Q I r) ((pg_lst g.calm q l2 f).run pins s σ H v u Q I r)⟩
    refine PS.imp (ps_asg ((snd G e).pe X W b v g c2) pg sw_tup (swst_tup c3) rfl) ?_
    rintro D σ H ⟨B, F, Γ, hz, rel, P⟩
    simp only [evS] at P
    refine ⟨B, F, Γ, [], rel, (P.lift hz.2).imp ?_⟩
    rintro v H' ⟨t, Γ', F', fp, r1, rt, sH, sF, P1⟩
    split at P1
    · rename_i ds ed
      split at P1
      · rename_i nb
        split at P1
        · rename_i Γ2 es2
          obtain ⟨a, xs, g', rfl, hq, rs, cg⟩ := seqT_ok ed r1.hs rt
          obtain ⟨q1, q2⟩ := setSlots_ok (Q := D.nx) (tmp := []) es2 (r1.less fun c => by have := cg c; simp only [List.append_nil]; exact this) rs nb fun σ' r' hw => P1 σ' _ H' r' (hz.2.wiped hp hw) SubF.refl
          rcases hq with hq | hq
          · exact .inr ⟨_, _, rfl, hq, q2, q1⟩
          · exact .inl ⟨_, _, rfl, hq, q2, q1⟩
        · exact P1.elim
      · exact P1.elim
    · exact P1.elim
  · cases c

/-! ### lists in their places -/
/-- the list at a place, ready to be written; ft: what is in hand -/
theorem Rel.lstAt {K : W.Frag} {B : Base} {F : FF} {H : Hp} {σ : L2.St} {Γ : Env} {tmp ft : List Addr} {q : Pth} {us : List T} (r : Rel K B F H σ Γ (ft ++ tmp)) (e : getΓ Γ q = some (.l us)) : ∃ (x : V) (a : Addr) (xs : List V) (f0 : List Addr), σ[q.1]? = some (some x) ∧ navV H x q.2 = some (.ref a) ∧ H a = some (.lst xs) ∧ RpTs K F H xs us f0 ∧ T.noBs us = true ∧ (∀ c : Addr, (a :: f0).count c + ft.count c ≤ 1) ∧
    ∀ {zs : List V} {ws : List T} {g' fx : List Addr}, RpTs K F H zs ws g' → T.noBs ws = true → (∀ c, g'.count c + fx.count c ≤ f0.count c + ft.count c) → Rel K B F (upd H a (.lst zs)) σ (setΓ Γ q (.l ws)) (fx ++ tmp) := by
  obtain ⟨x, y, fu, h1, h2, h3, h4, h5, h6, h7⟩ := r.lens e
  cases h3 with
  | @l a xs _ f0 hh rs =>
    refine ⟨x, a, xs, f0, h1, h2, hh, rs, by simpa [T.noB] using h4, h5, fun {zs ws g' fx} rz nz hc => ?_⟩
    have na : ∀ c ∈ g', c ≠ a := fun c m z => by
      subst z
      have e1 := List.count_pos_iff.mpr m
      have e2 := hc c
      have e3 := h5 c
      rw [List.count_cons_self] at e3
      omega
    refine h7 (a := a) (o := .lst zs) (u' := .l ws) (fu' := a :: g') (by simp) rfl (.l upd_same (rz.frame SubF.refl nz fun c hc => upd_ne (na c hc))) (by simpa [T.noB] using nz) fun c => ?_
    have := hc c
    simp only [List.count_cons]; omega
theorem Rel.dicAt {K : W.Frag} {B : Base} {F : FF} {H : Hp} {σ : L2.St} {Γ : Env} {tmp ft : List Addr} {q : Pth} {t : Bool} {ks : List D} {us : List T} (r : Rel K B F H σ Γ (ft ++ tmp)) (e : getΓ Γ q = some (.dc t ks us)) : ∃ (x : V) (a : Addr) (o : HO) (xs : List V) (f0 : List Addr), σ[q.1]? = some (some x) ∧ navV H x q.2 = some (.ref a) ∧ Rd H a o ∧ DH t o ks xs ∧ RpTs K F H xs us f0 ∧ T.noBs us = true ∧ (∀ c : Addr, (a :: f0).count c + ft.count c ≤ 1) ∧ F.f a = none ∧ B.H0 a = none ∧
    ∀ {o' : HO} {ks' : List D} {zs : List V} {ws : List T} {g' fx : List Addr}, DH t o' ks' zs → RpTs K F H zs ws g' → T.noBs ws = true → (∀ c, g'.count c + fx.count c ≤ f0.count c + ft.count c) → Rel K B F (upd H a o') σ (setΓ Γ q (.dc t ks' ws)) (fx ++ tmp) := by
  obtain ⟨x, y, fu, h1, h2, h3, h4, h5, h6, h7⟩ := r.lens e
  cases h3 with
  | @dc a _ o _ xs _ f0 hh hq rs =>
    have k := h6 a (by simp)
    refine ⟨x, a, o, xs, f0, h1, h2, hh, hq, rs, by simpa [T.noB] using h4, h5, k.1, k.2, fun {o' ks' zs ws g' fx} hd rz nz hc => ?_⟩
    have na : ∀ c ∈ g', c ≠ a := fun c m z => by
      subst z
      have e1 := List.count_pos_iff.mpr m
      have e2 := hc c
      have e3 := h5 c
      rw [List.count_cons_self] at e3
      omega
    refine h7 (a := a) (o := o') (u' := .dc t ks' ws) (fu' := a :: g') (by simp) (by cases hd <;> rfl) (.dc (.inl upd_same) hd (rz.frame SubF.refl nz fun c hc => upd_ne (na c hc))) (by simpa [T.noB] using nz) fun c => ?_
    have := hc c
    simp only [List.count_cons]; omega
theorem asg_of {N sc b m} {k : Expr} {p : Pos} (h : chkE N sc b m k = true) : ∀ (o : Expr) (env : PySem.Env) (v : Value), assign (.Subscript o k p) env v = (do
      let ov ← holding [v] (eval o env)
      let iv ← holding [v, ov] (eval k env)
      standAt p
      holding [v, ov, iv] (setItem ov iv v)
      release [v, ov, iv] []) := by
  cases k with
  | Slice a c d p => rw [chk_slice] at h; cases h
  | _ => intros; rfl
theorem augst_of {N sc b m} {k : Expr} (h : chkE N sc b m k = true) : ∀ ov iv new, augStore k ov iv new = (do holding [new, ov, iv] (setItem ov iv new); release [new, ov, iv] []; pure .next) := by
  cases k with
  | Slice a c d p => rw [chk_slice] at h; cases h
  | _ => intros; rfl

/-! ### place[i] = e -/
theorem oks_sto {p : Pl} {ix e : E} : OkS G (.sto p ix e) := by
  intro X W b st g hb c hp
  simp only [chkS] at c
  split at c
  · rename_i o k po v pos
    simp only [Bool.and_eq_true] at c
    obtain ⟨⟨c1, c2⟩, c3⟩ := c
    refine PS.imp (ps_asg ((snd G e).pe X W b v g c3) (pg_sub (sndPl G p X W b o g c1).1 ((snd G ix).pe X W b k g c2) set_list (asg_of c2 _ _)) sw_sub swst_sub rfl) ?_
    rintro D σ H ⟨B, F, Γ, hz, rel, P⟩
    simp only [evS] at P
    refine ⟨B, F, Γ, [], rel, (P.lift hz.2).imp ?_⟩
    rintro v1 H1 ⟨t, Γ1, F1, ft, r1, rt, sH1, sF1, P1⟩
    refine ⟨B, F1, Γ1, ft, r1, (P1.liftI (rep := rPl σ) hz.2).imp ?_⟩
    rintro v2 H2 ⟨q, Γ2, F2, fp2, r2, ⟨rfl, x, hx, hn⟩, sH2, sF2, P2⟩
    have r2 : Rel X.K B F2 H2 σ Γ2 ft := by simpa using r2
    split at P2
    · refine ⟨B, F2, Γ2, ft, r2, (P2.liftT hz.2).imp ?_⟩
      rintro v3 H3 ⟨tk, Γ3, F3, fk, r3, rk, sH3, sF3, P3⟩
      obtain ⟨t', e', Q⟩ := putΓ_ok P3
      unfold stoT at e'
      split at e'
      · rename_i ts es
        obtain ⟨n, h1, h2⟩ := Option.bind_eq_some_iff.mp e'
        obtain ⟨j, rfl, h3⟩ := ixT1_of h1
        split at h2
        · rename_i nb
          cases h2
          have rt2 := (rt.grow sF2 sH2).grow sF3 sH3
          obtain ⟨x', a, xs, f0, hx', hn', hh, rs, nbs, cnt, wr⟩ := Rel.lstAt (ft := ft) (tmp := []) (r3.less fun c => by simp only [List.count_append, List.count_nil]; omega) es
          rw [hx] at hx'; cases hx'
          have := nav_mono sH3 hn
          rw [this] at hn'; cases hn'
          refine ⟨a, xs, j, n, rfl, int_inv' rk, hh, ixN_len rs.length.symm h3, ?_⟩
          obtain ⟨x0, f1, g1, _, _, k3, _⟩ := rs.at n (t := ts[n]'(ixN_lt h3)) (List.getElem?_eq_getElem (ixN_lt h3))
          obtain ⟨g', q1, q2⟩ := RpTs.set n rs rt2
          exact Q _ F3 _ (by simpa using wr (fx := []) q1 (noBs_set nbs nb) fun c => by have := q2 c; simp only [List.count_nil]; omega) hz.2 SubF.refl
        · cases h2
      · cases e'
    · exact P2.elim
  · cases c
end
end Tv

namespace Tv
open PySem PySem.Spec PyProof.Rows L2

/-! ### d[k] = e -/
/-- what was locked and is none of the callers' may be unlocked -/
theorem PE.unlock {X : Cx} {e : Expr} {t : TE} (h : PE X e t) : PE X e (fun σ H Q => t σ H fun v H1 => Q v H1 ∨ ∃ a o u, H1 a = some (.frz o u) ∧ (∀ o' u', X.H_0 a ≠ some (.frz o' u')) ∧ Q v (upd H1 a u)) := by
  refine ⟨fun pins s σ H Q I q => ?_⟩
  refine thn (h.run pins s σ H _ I q) fun v s1 ⟨x, H1, I1, r, q⟩ => ?_
  rcases q with q | ⟨a, o, u, e, n, q⟩
  · exact ⟨x, H1, I1, r, q⟩
  · exact ⟨x, _, I1.unlock e n, r, q⟩
section
variable {κ : Type} [DecidableEq κ] {emb : κ → D} {K : W.Frag} {F : FF} {H : Hp}
theorem nodup_snoc {α : Type} {xs : List α} {x : α} (h : xs.Nodup) (n : x ∉ xs) : (xs ++ [x]).Nodup := by
  rw [List.nodup_append]
  refine ⟨h, by simp, fun a ha b hb => ?_⟩
  rw [List.mem_singleton] at hb
  subst hb
  exact fun e => n (e ▸ ha)
theorem dput_emb (he : ∀ a b, eqD (emb a) (emb b) = decide (a = b)) (k : κ) {y : V} {u : T} {kvs : List (κ × V)} {ts : List T} {g fu : List Addr} (nd : (kvs.map Prod.fst).Nodup) (r : RpTs K F H (kvs.map Prod.snd) ts g) (h : RpT K F H y u fu) (nbs : T.noBs ts = true) (nbu : u.noB = true) :
    (∃ g', RpTs K F H ((putK kvs k y).map Prod.snd) (dPut (kvs.map fun p => emb p.1) ts (emb k) u).2 g' ∧ ∀ c, g'.count c ≤ g.count c + fu.count c) ∧ (dPut (kvs.map fun p => emb p.1) ts (emb k) u).1 = (putK kvs k y).map (fun p => emb p.1) ∧ ((putK kvs k y).map Prod.fst).Nodup ∧
      T.noBs (dPut (kvs.map fun p => emb p.1) ts (emb k) u).2 = true ∧ ∀ (P : κ → Bool), (kvs.all fun p => P p.1) = true → P k = true → ((putK kvs k y).all fun p => P p.1) = true := by
  have hd := dhas_emb he k kvs
  unfold putK dPut
  cases c : (kvs.any fun kv => decide (kv.1 = k)) with
  | true =>
    rw [c] at hd
    rw [hd]
    simp only [if_true]
    have k1 : (kvs.map fun kv => if kv.1 = k then (kv.1, y) else kv).map Prod.fst = kvs.map Prod.fst := by
      rw [List.map_map]
      apply List.map_congr_left
      intro p _
      show (if p.1 = k then (p.1, y) else p).1 = p.1
      split <;> rfl
    refine ⟨RpTs.zipUpd he k nd r h, ?_, ?_, ?_, fun P hP hk => ?_⟩
    · have : (kvs.map fun p => emb p.1) = (kvs.map Prod.fst).map emb := by rw [List.map_map]; rfl
      rw [this, ← k1, List.map_map]; rfl
    · rw [k1]; exact nd
    · rw [noBs_all, List.all_map, List.all_eq_true]
      intro p hp
      show (if eqD p.1 (emb k) = true then u else p.2).noB = true
      split
      · exact nbu
      · rw [noBs_all, List.all_eq_true] at nbs
        exact nbs _ (List.of_mem_zip hp).2
    · rw [List.all_eq_true] at hP ⊢
      intro p hp
      obtain ⟨p0, hp0, rfl⟩ := List.mem_map.mp hp
      split
      · exact hP p0 hp0
      · exact hP p0 hp0
  | false =>
    rw [c] at hd
    rw [hd]
    simp only [Bool.false_eq_true, if_false]
    refine ⟨⟨g ++ (fu ++ []), ?_, fun c => by simp only [List.count_append, List.count_nil]; omega⟩, by rw [List.map_append]; rfl, ?_, ?_, fun P hP hk => ?_⟩
    · rw [List.map_append]
      exact r.append (.cons h .nil)
    · rw [List.map_append]
      refine nodup_snoc nd fun hm => ?_
      obtain ⟨p, hp, e⟩ := List.mem_map.mp hm
      have : (kvs.any fun kv => decide (kv.1 = k)) = true := List.any_eq_true.mpr ⟨p, hp, decide_eq_true e⟩
      rw [c] at this; cases this
    · rw [noBs_append, nbs]; simp [T.noBs, nbu]
    · rw [List.all_append, hP]; simp [hk]
end
theorem dict_put {K : W.Frag} {F : FF} {H : Hp} {a : Addr} {o : HO} {t : Bool} {ks : List D} {xs : List V} {ts : List T} {g fu : List Addr} {y z : V} {d : D} {u : T} (ho : H a = some o) (q : DH t o ks xs) (r : RpTs K F H xs ts g) (ry : RpD K H y d) (hk : keyFits t d = true) (rz : RpT K F H z u fu) (hl : ks.length < LIM)
    (nbs : T.noBs ts = true) (nbu : u.noB = true) : ∃ o' zs g', DPut H a y z (upd H a o') ∧ DH t o' (dPut ks ts d u).1 zs ∧ RpTs K F H zs (dPut ks ts d u).2 g' ∧ T.noBs (dPut ks ts d u).2 = true ∧ ∀ c, g'.count c ≤ g.count c + fu.count c := by
  cases q with
  | k kvs hok nd =>
    have hk : d.kyB = true := hk
    obtain ⟨k, rfl, rfl, hkk⟩ := key_of1 ry hk
    obtain ⟨⟨g', k1, k2⟩, k3, k4, k5, k6⟩ := dput_emb eqD_key1 k nd r rz nbs nbu
    refine ⟨_, _, g', .inl ⟨kvs, k, ho, rfl, by rw [List.length_map] at hl; rw [sizeLine_eq]; exact hl, rfl⟩, ?_, k1, k5, k2⟩
    rw [k3]
    exact .k _ (k6 (fun p => keyOk p) hok hkk) k4
  | t kvs hok nd =>
    cases d with
    | tup ds =>
      have hk : ds.all D.kyB = true := hk
      cases ry with
      | tup hb rs =>
        obtain ⟨k, rfl, rfl, hkk⟩ := keys_of1 rs hk
        obtain ⟨⟨g', k1, k2⟩, k3, k4, k5, k6⟩ := dput_emb (emb := fun k : List Key => D.tup (k.map keyD1)) eqD_keys k nd r rz nbs nbu
        refine ⟨_, _, g', .inr ⟨kvs, k, _, ho, rfl, hb, by rw [List.length_map] at hl; rw [sizeLine_eq]; exact hl, rfl⟩, ?_, k1, k5, k2⟩
        rw [k3]
        exact .t _ (k6 (fun p => p.all keyOk) hok hkk) k4
    | _ => cases hk
theorem RpD.upd_ne {K : W.Frag} {H : Hp} {a : Addr} {o : HO} {y : V} {d : D} (r : RpD K H y d) (h : keyFits true d = true ∨ keyFits false d = true) (hn : ∀ xs, H a ≠ some (.tup xs)) : RpD K (upd H a o) y d := by
  have fl : ∀ {xs : List V} {ds : List D}, RpDs K H xs ds → ds.all D.kyB = true → RpDs K (upd H a o) xs ds := by
    intro xs ds r h
    obtain ⟨k, rfl, rfl, hk⟩ := keys_of1 r h
    clear r h
    induction k with
    | nil => exact .nil
    | cons k ks ih =>
      rw [List.all_cons, Bool.and_eq_true] at hk
      refine .cons ?_ (ih hk.2)
      cases k with
      | inl i => exact .int i
      | inr z => exact .str z hk.1
  cases r with
  | int i => exact .int i
  | str z e => exact .str z e
  | tup hb rs =>
    rcases h with h | h
    · exact .tup (by rw [L2.upd_ne (fun e => by subst e; exact hn _ hb)]; exact hb) (fl rs h)
    · cases h
  | _ => rcases h with h | h <;> cases h
section
variable {G : Glob}
theorem oks_dsto {p : Pl} {ix e : E} : OkS G (.dsto p ix e) := by
  intro X W b st g hb c hp
  simp only [chkS] at c
  split at c
  · rename_i o k po v pos
    simp only [Bool.and_eq_true] at c
    obtain ⟨⟨c1, c2⟩, c3⟩ := c
    refine PS.imp (ps_dput (by have := g.hu; omega) (sndPl G p X W b o g c1).1 (PE.unlock ((snd G ix).pe X W b k g c2)) ((snd G e).pe X W b v g c3) (by cases v <;> rfl)) ?_
    rintro D σ H ⟨B, F, Γ, hz, rel, P⟩
    simp only [evS] at P
    refine ⟨B, F, Γ, [], rel, (P.lift hz.2).imp ?_⟩
    rintro v1 H1 ⟨t, Γ1, F1, ft, r1, rt, sH1, sF1, P1⟩
    refine ⟨B, F1, Γ1, ft, r1, (P1.liftI (rep := rPl σ) hz.2).imp ?_⟩
    rintro v2 H2 ⟨q, Γ2, F2, fp2, r2, ⟨rfl, x, hx, hn⟩, sH2, sF2, P2⟩
    have r2 : Rel X.K B F2 H2 σ Γ2 ft := by simpa using r2
    split at P2
    · refine ⟨B, F2, Γ2, ft, r2, (P2.liftT hz.2).imp ?_⟩
      rintro v3 H3 ⟨tk, Γ3, F3, fk, r3, rk, sH3, sF3, P3⟩
      obtain ⟨t', e', Q⟩ := putΓ_ok P3
      unfold dstoT at e'
      split at e'
      · rename_i kd ks ts es
        split at e'
        · rename_i hc
          cases e'
          simp only [Bool.and_eq_true, decide_eq_true_eq] at hc
          obtain ⟨⟨nb, hkf⟩, hl⟩ := hc
          have rt2 := (rt.grow sF2 sH2).grow sF3 sH3
          have ryd := r3.rd rk
          obtain ⟨x', a, o0, xs, f0, hx', hn', hrd, hq, rs, nbs, cnt, hf0, hb0, wr⟩ := Rel.dicAt (ft := ft) (tmp := []) (r3.less fun c => by simp only [List.count_append, List.count_nil]; omega) es
          rw [hx] at hx'; cases hx'
          have := nav_mono sH3 hn
          rw [this] at hn'; cases hn'
          rcases hrd with hrd | ⟨ob, hrd⟩
          · left
            obtain ⟨o', zs, g', k1, k2, k3, k4, k5⟩ := dict_put hrd hq rs ryd hkf rt2 hl nbs nb
            refine ⟨a, _, rfl, k1, Q _ F3 _ (by simpa using wr (fx := []) k2 k3 k4 fun c => by have := k5 c; simp only [List.count_nil]; omega) hz.2 SubF.refl⟩
          · right
            refine ⟨a, ob, o0, hrd, fun o' u' e => hz.1 a o' u' e hb0, ?_⟩
            have na : ∀ c, c ∈ f0 ∨ c ∈ ft → c ≠ a := fun c m z => by
              subst z
              have e3 := cnt c
              rw [List.count_cons_self] at e3
              rcases m with m | m
              · have := List.count_pos_iff.mpr m; omega
              · have := List.count_pos_iff.mpr m; omega
            have rs' := rs.frame (H' := upd H3 a o0) SubF.refl nbs fun c hc => L2.upd_ne (na c (.inl hc))
            have rt' := rt2.frame (H' := upd H3 a o0) SubF.refl nb fun c hc => L2.upd_ne (na c (.inr hc))
            have ryd' := ryd.upd_ne (o := o0) (a := a) (by cases kd; exact .inr hkf; exact .inl hkf) (fun xs e => by rw [hrd] at e; cases e)
            obtain ⟨o', zs, g', k1, k2, k3, k4, k5⟩ := dict_put (H := upd H3 a o0) upd_same hq rs' ryd' hkf rt' hl nbs nb
            rw [upd_upd] at k1
            have back : RpTs X.K F3 H3 zs _ g' := k3.frame (H' := H3) SubF.refl k4 fun c hc => by
              have m : c ≠ a := by
                have h1 := k5 c
                have h2 := List.count_pos_iff.mpr hc
                by_cases h3 : 0 < f0.count c
                · exact na c (.inl (List.count_pos_iff.mp h3))
                · exact na c (.inr (List.count_pos_iff.mp (by omega)))
              rw [L2.upd_ne m]
            refine ⟨a, _, rfl, k1, Q _ F3 _ (by simpa using wr (fx := []) k2 back k4 fun c => by have := k5 c; simp only [List.count_nil]; omega) hz.2 SubF.refl⟩
        · cases e'
      · cases e'
    · exact P2.elim
  · cases c

/-! ### place.f = e -/
theorem putF_ok {K : W.Frag} {F : FF} {H : Hp} {f : String} {y : V} {u : T} {fu : List Addr} (h : RpT K F H y u fu) (nbu : u.noB = true) : ∀ {fs : List (Str × V)} {ns : List String} {ts : List T} {g : List Addr}, fs.map Prod.fst = ns.map Str.ofString → RpTs K F H (fs.map Prod.snd) ts g → T.noBs ts = true →
    (putF (Str.ofString f) y fs).map Prod.fst = (putFT ns ts f u).1.map Str.ofString ∧ (∃ g', RpTs K F H ((putF (Str.ofString f) y fs).map Prod.snd) (putFT ns ts f u).2 g' ∧ ∀ c, g'.count c ≤ g.count c + fu.count c) ∧ T.noBs (putFT ns ts f u).2 = true ∧ ∀ n ∈ (putFT ns ts f u).1, n ∈ ns ∨ n = f
  | [], ns, ts, g, e, r, nb => by
    cases ns with
    | cons _ _ => simp at e
    | nil =>
      cases r
      refine ⟨rfl, ⟨fu ++ [], .cons h .nil, fun c => by simp⟩, ?_, fun n hn => .inr (by simpa [putFT, fIx] using hn)⟩
      show T.noBs [u] = true
      simp [T.noBs, nbu]
  | (x, z) :: fs, ns, ts, g, e, r, nb => by
    cases ns with
    | nil => simp at e
    | cons n ns =>
      simp only [List.map_cons, List.cons.injEq] at e
      obtain ⟨rfl, e⟩ := e
      cases r with
      | @cons _ _ t' ts' f1 g1 a b =>
        simp only [T.noBs, Bool.and_eq_true] at nb
        by_cases c : n = f
        · subst c
          have e1 : putFT (n :: ns) (t' :: ts') n u = (n :: ns, u :: ts') := by
            unfold putFT fIx
            rw [List.findIdx?_cons]; simp
          have e2 : putF (Str.ofString n) y ((Str.ofString n, z) :: fs) = (Str.ofString n, y) :: fs := by
            unfold putF; rw [if_pos rfl]
          rw [e1, e2]
          refine ⟨by simp [e], ⟨fu ++ g1, .cons h b, fun c => by simp only [List.count_append]; omega⟩, by simp [T.noBs, nbu, nb.2], fun m hm => .inl hm⟩
        · have cs : ¬ Str.ofString n = Str.ofString f := fun q => c (ofString_inj q)
          have cf : (n == f) = false := beq_eq_false_iff_ne.mpr c
          obtain ⟨k1, ⟨g', k2, k3⟩, k4, k5⟩ := putF_ok h nbu e b nb.2
          have e1 : putFT (n :: ns) (t' :: ts') f u = (n :: (putFT ns ts' f u).1, t' :: (putFT ns ts' f u).2) := by
            unfold putFT fIx
            rw [List.findIdx?_cons]
            simp only [cf, Bool.false_eq_true, if_false]
            cases List.findIdx? (fun x => x == f) ns <;> rfl
          have e2 : putF (Str.ofString f) y ((Str.ofString n, z) :: fs) = (Str.ofString n, z) :: putF (Str.ofString f) y fs := by
            show (if Str.ofString n = Str.ofString f then _ else _) = _
            rw [if_neg cs]
          rw [e1, e2]
          refine ⟨by simp [k1], ⟨f1 ++ g', .cons a k2, fun c => by have := k3 c; simp only [List.count_append]; omega⟩, by simp [T.noBs, nb.1, k4], fun m hm => ?_⟩
          rcases List.mem_cons.mp hm with rfl | hm
          · exact .inl List.mem_cons_self
          · rcases k5 m hm with h | h
            · exact .inl (List.mem_cons_of_mem _ h)
            · exact .inr h
theorem oks_stf {cn : String} {p : Pl} {f : String} {e : E} : OkS G (.stf cn p f e) := by
  intro X W b st g hb c hp
  simp only [chkS] at c
  split at c
  · rename_i o n po v pos
    simp only [Bool.and_eq_true, decide_eq_true_eq, List.contains_iff_mem] at c
    obtain ⟨⟨⟨rfl, c1⟩, c2⟩, c3⟩ := c
    refine PS.imp (ps_fld (sndPl G p X W b o g c2).1 ((snd G e).pe X W b v g c3) sw_att) ?_
    rintro D σ H ⟨B, F, Γ, hz, rel, P⟩
    simp only [evS] at P
    refine ⟨B, F, Γ, [], rel, (P.lift hz.2).imp ?_⟩
    rintro v1 H1 ⟨t, Γ1, F1, ft, r1, rt, sH1, sF1, P1⟩
    refine ⟨B, F1, Γ1, ft, r1, (P1.liftI (rep := rPl σ) hz.2).imp ?_⟩
    rintro v2 H2 ⟨q, Γ2, F2, fp2, r2, ⟨rfl, x, hx, hn⟩, sH2, sF2, P2⟩
    have r2 : Rel X.K B F2 H2 σ Γ2 ft := by simpa using r2
    obtain ⟨t', e', Q⟩ := putΓ_ok P2
    unfold stfT at e'
    split at e'
    · rename_i c' ns ts es
      split at e'
      · rename_i hc
        cases e'
        simp only [Bool.and_eq_true, decide_eq_true_eq, beq_iff_eq] at hc
        obtain ⟨⟨rfl, nb⟩, hl⟩ := hc
        have rt2 := rt.grow sF2 sH2
        obtain ⟨x', y, fu, h1, h2, h3, h4, h5, h6, h7⟩ := Rel.lens (ft := ft) (tmp := []) (by simpa using r2) es
        rw [hx] at h1; cases h1
        rw [hn] at h2; cases h2
        cases h3 with
        | @ob a dx fs _ _ xs _ f0 hc hh hns hxs rs =>
          subst hxs
          have nbs : T.noBs ts = true := by simpa [T.noB] using h4
          obtain ⟨k1, ⟨g', k2, k3⟩, k4, k5⟩ := putF_ok (f := f) rt2 nb hns rs nbs
          have hlen : fs.length < 1000 := by
            have := congrArg List.length hns
            simp only [List.length_map] at this
            omega
          refine ⟨a, _, dx, fs, rfl, hh, hc.cls, g.ats _ c1, hlen, ?_⟩
          have na : ∀ c ∈ g', c ≠ a := fun c m z => by
            subst z
            have e1 := List.count_pos_iff.mpr m
            have e2 := k3 c
            have e3 := h5 c
            rw [List.count_cons_self] at e3
            omega
          have fin := h7 (a := a) (o := .ins (clsA X.K c') dx (putF (Str.ofString f) v1 fs)) (u' := .ob c' (putFT ns ts f t).1 (putFT ns ts f t).2) (fu' := a :: g') (fx := []) (by simp) rfl
            (.ob ⟨hc.cls, fun n hn => (k5 n hn).elim (hc.no n) fun e => by rw [e]; exact g.ats _ c1⟩ upd_same k1 rfl (k2.frame SubF.refl k4 fun c hc => L2.upd_ne (na c hc))) (by simpa [T.noB] using k4) (fun c => by have := k3 c; simp only [List.count_cons, List.count_nil]; omega)
          exact Q _ F2 _ (by simpa using fin) hz.2 SubF.refl
      · cases e'
    · cases e'
  · cases c
end
end Tv

namespace Tv
open PySem PySem.Spec PyProof.Rows L2

section
variable {G : Glob}
theorem name_pe {X : Cx} {i : Nat} {e : Expr} (h : chkName X.N X.env.scope i e = true) : PE X e (tVar i) := by
  obtain ⟨x, pos, rfl, p⟩ := name_of h; exact p
/-! ### name op= e -/
theorem augI_ok {K : W.Frag} {F : FF} {H : Hp} {x : V} {t : T} {f : List Addr} {o : BOp} {i z : Int} (e : augI o i t = some z) (r : RpT K F H x t f) : ∃ j, x = .int j ∧ t = .v (.int j) ∧ ((o = .add ∧ z = i + j) ∨ (o = .sub ∧ z = i - j)) := by
  unfold augI at e
  split at e
  · cases e
    exact ⟨_, (int_inv r).1, rfl, .inl ⟨rfl, rfl⟩⟩
  · cases e
    exact ⟨_, (int_inv r).1, rfl, .inr ⟨rfl, rfl⟩⟩
  · cases e
def ipO : BOp → TIp
  | .add => ipI fun i j => i + j
  | .sub => ipI fun i j => i - j
  | _ => fun _ _ _ _ => False
theorem ip_O {X : Cx} (o : BOp) : PIp X o.op (ipO o) := by
  cases o with
  | add => exact ip_add
  | sub => exact ip_sub
  | _ => exact fun _ _ _ _ _ _ _ _ _ _ _ _ h => h.elim
theorem oks_augV {i : Nat} {o : BOp} {e : E} : OkS G (.augV i o e) := by
  intro X W b st g hb c hp
  simp only [chkS] at c
  split at c
  · rename_i y py op v pos
    simp only [Bool.and_eq_true, decide_eq_true_eq] at c
    obtain ⟨⟨c1, c2⟩, rfl⟩ := c
    have c1' : (decide (X.N[i]? = some y) && stB X.env.scope b y) = true := c1
    rw [Bool.and_eq_true, decide_eq_true_eq] at c1'
    refine PS.imp (ps_aug g.nd c1'.1 (stB_loc c1'.2) ((snd G e).pe X W b v g c2) (ip_O o) (stB_fn g c1'.2)) ?_
    rintro D σ H ⟨B, F, Γ, hz, rel, P⟩
    simp only [evS] at P
    split at P
    · rename_i x ex
      obtain ⟨xv, fx, hv, rx, _⟩ := rel.get ex
      obtain ⟨rfl, _⟩ := int_inv rx
      refine ⟨_, hv, B, F, Γ, [], rel, (P.lift hz.2).imp ?_⟩
      rintro v1 H1 ⟨t, Γ1, F1, ft, r1, rt, sH1, sF1, P1⟩
      obtain ⟨t', e', Q⟩ := putO_ok P1
      obtain ⟨z, e1, rfl⟩ := Option.map_eq_some_iff.mp e'
      obtain ⟨j, rfl, rfl, h⟩ := augI_ok e1 rt
      have hi : i < Γ1.length := by
        rw [← r1.length]
        exact (List.getElem?_eq_some_iff.mp hv).1
      have r2 : Rel X.K B F1 H1 σ Γ1 [] := r1.less fun c => by simp
      have fin := Q _ F1 H1 (r2.storeV (.int z) hi) (hz.2.set hp) SubF.refl
      rcases h with ⟨rfl, rfl⟩ | ⟨rfl, rfl⟩
      · exact ⟨_, _, rfl, rfl, fin⟩
      · exact ⟨_, _, rfl, rfl, fin⟩
    · exact P.elim
  · cases c
theorem get_list {X : Cx} : PGet X (rIxL X.K) := by
  intro pins s σ H o i ov iv Q I rx ry h
  obtain ⟨p, xs, i, z, rfl, rfl, hq, he, q⟩ := h
  cases rx
  obtain ⟨t, rfl⟩ := ry
  obtain ⟨its, r, pl, hz⟩ := I.list hq
  obtain ⟨j, h1, h2, h3, h4, h5⟩ := atI_get he
  obtain ⟨w, ew, rw'⟩ := r.get h2
  have hl := r.length
  have hn := line63
  have fin : EP X pins σ Q w s := ⟨z, H, I, rw', q⟩
  by_cases h0 : 0 ≤ i
  · have hj : i.toNat = j := by
      rw [seqIndex_of h0 h5] at h1
      exact Option.some.inj h1
    exact wpAny_getItem_list pl.isList h0 (by omega) (by rw [hj]; simpa using ew) fin
  · have hj : (i + (its.toArray.size : Int)).toNat = j := by
      rw [seqIndex_neg (by omega) h4] at h1
      rw [List.size_toArray, ← hl]
      exact Option.some.inj h1
    exact wpAny_getItem_list_neg pl.isList (by omega) (by rw [List.size_toArray] <;> omega) (by omega) (by rw [hj]; simpa using ew) fin
theorem slot_get {Γ : Env} {i : Nat} {t : T} (h : slotT Γ i = some t) : getΓ Γ (i, []) = some t ∧ Γ[i]? = some (some t) := by
  unfold slotT at h
  split at h
  · rename_i u e
    cases h
    refine ⟨?_, e⟩
    unfold getΓ
    rw [e]
    cases t <;> rfl
  · cases h
theorem setΓ_nil {Γ : Env} {i : Nat} {t u : T} (h : Γ[i]? = some (some t)) : setΓ Γ (i, []) u = Γ.set i (some u) := by
  unfold setΓ
  rw [h]
  cases t <;> rfl
theorem oks_augS {i : Nat} {o : BOp} {ix e : E} : OkS G (.augS i o ix e) := by
  intro X W b st g hb c hp
  simp only [chkS] at c
  split at c
  · rename_i x k p op v pos
    simp only [Bool.and_eq_true, decide_eq_true_eq] at c
    obtain ⟨⟨⟨c1, c2⟩, c3⟩, rfl⟩ := c
    refine PS.imp (ps_augS (name_pe c1) ((snd G ix).pe X W b k g c2) get_list ((snd G e).pe X W b v g c3) (ip_O o) set_list (augst_of c2)) ?_
    rintro D σ H ⟨B, F, Γ, hz, rel, P⟩
    simp only [evS] at P
    split at P
    · rename_i hl
      obtain ⟨ts0, e0⟩ := isLs_of hl
      obtain ⟨x0, a0, xs0, g0, hv0, hn0, hh0, _⟩ := Rel.lstAt (ft := []) (tmp := []) (by simpa using rel) e0
      rw [nav_nil] at hn0; cases hn0
      refine ⟨_, hv0, B, F, Γ, [], rel, (P.lift hz.2).imp ?_⟩
      rintro v1 H1 ⟨tk, Γ1, F1, fk, r1, rk, sH1, sF1, P1⟩
      split at P1
      · rename_i xi gi
        unfold getI at gi
        split at gi
        · rename_i ts1 es1
          split at gi
          · rename_i xi' gi2
            cases gi
            obtain ⟨n, h1, h2⟩ := Option.bind_eq_some_iff.mp gi2
            obtain ⟨j, rfl, h3⟩ := ixT1_of h1
            obtain ⟨eg1, es1'⟩ := slot_get es1
            obtain ⟨x1, a1, xs1, g1, hv1, hn1, hh1, rs1, _⟩ := Rel.lstAt (ft := []) (tmp := []) r1.nil eg1
            rw [nav_nil] at hn1; cases hn1
            have ea : a1 = a0 := by rw [hv0] at hv1; cases hv1; rfl
            subst ea
            obtain ⟨y, gy, hy, ry, _⟩ := RpTs.get n rs1 h2
            obtain rfl := int_inv' ry
            refine ⟨a1, xs1, j, _, rfl, int_inv' rk, SqL.of hh1, atI_of rs1.length h3 hy, B, F1, Γ1, [], r1.nil, (P1.lift hz.2).imp ?_⟩
            rintro v2 H2 ⟨t, Γ2, F2, ft, r2, rt, sH2, sF2, P2⟩
            obtain ⟨t', e', Q⟩ := putO_ok P2
            unfold augT at e'
            split at e'
            · rename_i ts es
              obtain ⟨n', h1', h2'⟩ := Option.bind_eq_some_iff.mp e'
              obtain ⟨j', ej, h3'⟩ := ixT1_of h1'
              cases ej
              obtain ⟨z, e1, rfl⟩ := Option.map_eq_some_iff.mp h2'
              obtain ⟨j2, rfl, rfl, h⟩ := augI_ok e1 rt
              obtain ⟨eg2, es2⟩ := slot_get es
              obtain ⟨x2, a, xs, gg, hv, hn2, hh, rs, nbs, cnt, wr⟩ := Rel.lstAt (ft := []) (tmp := []) r2.nil eg2
              rw [nav_nil] at hn2; cases hn2
              have ea : a = a1 := by rw [hv0] at hv; cases hv; rfl
              subst ea
              have exs : xs = xs1 := by
                have := sH2.eq hh1 rfl
                rw [hh] at this; cases this; rfl
              subst exs
              obtain ⟨g', q1, q2⟩ := RpTs.set n' rs (x := .int z) (t := .v (.int z)) (ft := []) (.v (.int z))
              have fin := wr (fx := []) q1 (noBs_set nbs rfl) fun c => by have := q2 c; simpa using this
              rw [setΓ_nil es2] at fin
              have fin := Q _ F2 _ (by simpa using fin) hz.2 SubF.refl
              have ix := ixN_len rs.length.symm h3'
              rcases h with ⟨rfl, rfl⟩ | ⟨rfl, rfl⟩
              · exact ⟨_, _, rfl, rfl, a, xs, j, n', rfl, int_inv' rk, hh, ix, fin⟩
              · exact ⟨_, _, rfl, rfl, a, xs, j, n', rfl, int_inv' rk, hh, ix, fin⟩
            · cases e'
          · cases gi
        · cases gi
      · exact P1.elim
    · exact P.elim
  · cases c

/-! ### place.m(..) -/
def rMO : MO → V → List V → Hp → VK → Prop
  | .append => rAppend
  | .extend => rExtend
  | .reverse => rReverse
  | .clear => rClear
  | .insert => fun x vs H Q => ∃ (l : Addr) (xs : List V) (i : Int) (y : V), x = .ref l ∧ vs = [.int i, y] ∧ H l = some (.lst xs) ∧ xs.length < sizeLine ∧ 0 ≤ i ∧ i < 2 ^ 63 ∧ Q .non (upd H l (.lst (xs.take i.toNat ++ [y] ++ xs.drop i.toNat)))
def tML (K : W.Frag) (G : Glob) (W : WX) (r : V → List V → Hp → VK → Prop) (p : Pl) (as : Es) : TE := fun σ H Q => TPl K G W p σ H fun x H1 => tyV K "list" x H1 ∧ TA' K G W as σ H1 fun xs H2 => r x xs H2 Q
theorem pe_ml {X : Cx} {W : WX} {b : CP} {id : String} {name : Str} {r : V → List V → Hp → VK → Prop} {p : Pl} {as : Es} {x : Expr} {ap cp : Pos} {ys : List Expr} (g : Gd X G W b) (c1 : ap.endLine = cp.line) (c2 : chkPl X.N X.env.scope b p x = true) (c3 : chkEs X.N X.env.scope b as ys = true) (hn : ys.length < 29)
    (slot : Slot "list" name id) (hty : typeOf (.builtin id) = pure (.type "method_descriptor")) (hm : MtR X id r) : PE X (.Call (.Attribute x name ap) ys [] cp) (tML X.K G W r p as) := by
  have hline : (ap.endLine == cp.line) = true := by rw [c1]; exact beq_self_eq_true _
  obtain ⟨hp, hbase⟩ := sndPl G p X W b x g c2
  have hA := sndEs G as X W b ys g c3
  cases ys with
  | nil =>
    refine PE.imp (pe_bm0 PySem.F.plainAttrs_list slot hty hm hp (hbase _) hline) fun σ H Q h => ?_
    obtain ⟨B, F, Γ, tmp, rel, P⟩ := h
    refine ⟨B, F, Γ, tmp, rel, P.imp ?_⟩
    rintro v H1 ⟨h1, h2⟩
    refine ⟨h1, ?_⟩
    cases as with
    | nil =>
      obtain ⟨B2, F2, Γ2, tmp2, rel2, P2⟩ := h2
      exact P2 [] F2 H1 [] (by simpa using rel2) .nil Sub.refl SubF.refl
    | cons _ _ => simp [chkEs] at c3
  | cons y ys =>
    obtain ⟨f1, f2⟩ := form_of (env := X.env) (pos := cp) c3
    refine pe_bm PySem.F.plainAttrs_list slot hty hm hp hA (hbase _) ?_ hline (star_any c3 _ _ rfl) (plain_of (chkEs_split c3).choose_spec.choose_spec.2.1)
    rw [f1]
    show (true && true && decide ((y :: ys).length + 0 + 0 < 30)) = true
    simp only [Bool.and_self, Bool.true_and, decide_eq_true_eq]
    omega
theorem lstT_ok {K : W.Frag} {F : FF} {H : Hp} {x : V} {t : T} {f : List Addr} {us : List T} (e : lstT t = some us) (hF : Hs F H) (r : RpT K F H x t f) : ∃ a xs g, x = .ref a ∧ H a = some (.lst xs) ∧ RpTs K F H xs us g ∧ ∀ c, g.count c ≤ f.count c := by
  unfold lstT at e
  split at e
  · cases e
    cases r with
    | v r => cases r with
      | lst h r => exact ⟨_, _, [], rfl, hF.sub.eq h rfl, r.toV, fun c => by simp⟩
  · cases e
    cases r with
    | w r => cases r with
      | lst h r => exact ⟨_, _, [], rfl, (hF.nsub.trans hF.sub).eq h rfl, r.toW hF.nsub, fun c => by simp⟩
  · split at e
    · rename_i ha
      cases e
      cases r with
      | b r => cases r with
        | lst h r => exact ⟨_, _, [], rfl, h, (r.imm hF.stf ha).toV, fun c => by simp⟩
    · cases e
  · cases e
    cases r with
    | l h r => exact ⟨_, _, _, rfl, h, r, fun c => by simp only [List.count_cons]; omega⟩
  · cases e
theorem mut_ok {K : W.Frag} {B : Base} {F : FF} {H : Hp} {σ : L2.St} {Γ : Env} {ft : List Addr} {q : Pth} {x v : V} {vs : List V} {ts : List T} {m : MO} {u : T} {D : Ends} (rel : Rel K B F H σ Γ (ft ++ [])) (ra : RpTs K F H vs ts ft) (hx : σ[q.1]? = some (some x)) (hn : navV H x q.2 = some v)
    (e : mutT m (getΓ Γ q) ts = some u) (Q : ∀ F' H', Rel K B F' H' σ (setΓ Γ q u) [] → SubF F F' → D.nx σ H') : rMO m v vs H fun _ H' => D.nx σ H' := by
  unfold mutT at e
  split at e
  · -- append
    rename_i us t eg
    split at e
    · rename_i hc
      rw [Bool.and_eq_true, decide_eq_true_eq] at hc
      cases e
      obtain ⟨x', a, xs, f0, h1, h2, h3, rs, nbs, cnt, wr⟩ := Rel.lstAt (ft := ft) (tmp := []) rel eg
      rw [hx] at h1; cases h1
      rw [hn] at h2; cases h2
      obtain ⟨y, rfl, ry⟩ := rpTs_one ra
      refine ⟨a, xs, y, rfl, rfl, h3, by rw [rs.length, sizeLine_eq]; exact hc.2, ?_⟩
      exact Q F _ (by simpa using wr (fx := []) (rs.append (.cons ry .nil)) (by rw [noBs_append, nbs]; simp [T.noBs, hc.1]) fun c => by simp only [List.count_append, List.count_nil]; omega) SubF.refl
    · cases e
  · -- extend
    rename_i us t eg
    split at e
    · rename_i ws ew
      split at e
      · rename_i hc
        rw [Bool.and_eq_true, decide_eq_true_eq] at hc
        cases e
        obtain ⟨x', a, xs, f0, h1, h2, h3, rs, nbs, cnt, wr⟩ := Rel.lstAt (ft := ft) (tmp := []) rel eg
        rw [hx] at h1; cases h1
        rw [hn] at h2; cases h2
        obtain ⟨y, rfl, ry⟩ := rpTs_one ra
        obtain ⟨b, zs, gz, rfl, hb, rz, cz⟩ := lstT_ok ew rel.hs ry
        refine ⟨a, b, xs, zs, rfl, rfl, h3, hb, by rw [rs.length, rz.length, sizeLine_eq]; exact hc.2, ?_⟩
        exact Q F _ (by simpa using wr (fx := []) (rs.append rz) (by rw [noBs_append, nbs, hc.1]; rfl) fun c => by have := cz c; simp only [List.count_append, List.count_nil]; omega) SubF.refl
      · cases e
    · cases e
  · -- reverse
    rename_i us eg
    cases e
    obtain ⟨x', a, xs, f0, h1, h2, h3, rs, nbs, cnt, wr⟩ := Rel.lstAt (ft := ft) (tmp := []) rel eg
    rw [hx] at h1; cases h1
    rw [hn] at h2; cases h2
    cases ra
    obtain ⟨g', r1, r2⟩ := rs.rev
    refine ⟨a, xs, rfl, rfl, h3, ?_⟩
    exact Q F _ (by simpa using wr (fx := []) r1 (by rw [noBs_all, List.all_reverse, ← noBs_all]; exact nbs) fun c => by have := r2 c; simp only [List.count_nil]; omega) SubF.refl
  · -- clear
    rename_i us eg
    cases e
    obtain ⟨x', a, xs, f0, h1, h2, h3, rs, nbs, cnt, wr⟩ := Rel.lstAt (ft := ft) (tmp := []) rel eg
    rw [hx] at h1; cases h1
    rw [hn] at h2; cases h2
    cases ra
    refine ⟨a, xs, rfl, rfl, h3, ?_⟩
    exact Q F _ (by simpa using wr (fx := []) (zs := []) (ws := []) (g' := []) .nil rfl fun c => by simp only [List.count_nil]; omega) SubF.refl
  · -- insert
    rename_i us i t eg
    split at e
    · rename_i hc
      simp only [Bool.and_eq_true, decide_eq_true_eq] at hc
      obtain ⟨⟨nb, hl⟩, h0, h62⟩ := hc
      cases e
      obtain ⟨x', a, xs, f0, h1, h2, h3, rs, nbs, cnt, wr⟩ := Rel.lstAt (ft := ft) (tmp := []) rel eg
      rw [hx] at h1; cases h1
      rw [hn] at h2; cases h2
      obtain ⟨y, z, g1, g2, rfl, ry, rz, rfl⟩ := rpTs_two ra
      obtain ⟨rfl, rfl⟩ := int_inv ry
      refine ⟨a, xs, i, z, rfl, rfl, h3, by rw [rs.length, sizeLine_eq]; exact hl, h0, by omega, ?_⟩
      have sp : ∀ (n : Nat) {xs : List V} {us : List T} {f : List Addr}, RpTs K F H xs us f → ∃ fa fb, RpTs K F H (xs.take n) (us.take n) fa ∧ RpTs K F H (xs.drop n) (us.drop n) fb ∧ ∀ c, fa.count c + fb.count c = f.count c := by
        intro n
        induction n with
        | zero => intro xs us f r; exact ⟨[], f, by simpa using .nil, by simpa using r, fun c => by simp⟩
        | succ n ih =>
          intro xs us f r
          cases r with
          | nil => exact ⟨[], [], .nil, .nil, fun c => by simp⟩
          | @cons _ _ _ _ f1 f2 a b =>
            obtain ⟨fa, fb, k1, k2, k3⟩ := ih b
            exact ⟨f1 ++ fa, fb, .cons a k1, k2, fun c => by have := k3 c; simp only [List.count_append]; omega⟩
      obtain ⟨fa, fb, k1, k2, k3⟩ := sp i.toNat rs
      have nb1 : T.noBs (us.take i.toNat ++ t :: us.drop i.toNat) = true := by
        rw [noBs_append]
        rw [noBs_all, List.all_eq_true] at nbs
        rw [Bool.and_eq_true]
        refine ⟨?_, ?_⟩
        · rw [noBs_all, List.all_eq_true]; intro w hw; exact nbs w (List.mem_of_mem_take hw)
        · simp only [T.noBs, Bool.and_eq_true]
          refine ⟨nb, ?_⟩
          rw [noBs_all, List.all_eq_true]; intro w hw; exact nbs w (List.mem_of_mem_drop hw)
      have fin := wr (fx := []) (zs := xs.take i.toNat ++ [z] ++ xs.drop i.toNat) (ws := us.take i.toNat ++ t :: us.drop i.toNat) (g' := fa ++ (g2 ++ fb)) (by rw [List.append_assoc]; exact k1.append (.cons rz k2)) nb1 fun c => by have := k3 c; simp only [List.count_append, List.count_nil]; omega
      exact Q F _ (by simpa using fin) SubF.refl
    · cases e
  · cases e
theorem mt_MO {X : Cx} (m : MO) : ∃ id, Slot "list" (Str.ofString m.nm) id ∧ typeOf (.builtin id) = pure (.type "method_descriptor") ∧ MtR X id (rMO m) := by
  cases m with
  | append => exact ⟨_, PySem.F.slot_list_append, PySem.F.type_list_append, mt_append⟩
  | extend => exact ⟨_, PySem.F.slot_list_extend, PySem.F.type_list_extend, mt_extend⟩
  | reverse => exact ⟨_, PySem.F.slot_list_reverse, PySem.F.type_list_reverse, mt_reverse⟩
  | clear => exact ⟨_, PySem.F.slot_list_clear, PySem.F.type_list_clear, mt_clear⟩
  | insert => exact ⟨_, PySem.F.slot_list_insert, PySem.F.type_list_insert, mt_insert⟩
theorem oks_mut {m : MO} {p : Pl} {as : Es} : OkS G (.mut m p as) := by
  intro X W b st g hb c hp
  simp only [chkS] at c
  split at c
  · rename_i x n ap ys cp pos
    simp only [Bool.and_eq_true, decide_eq_true_eq] at c
    obtain ⟨⟨⟨⟨rfl, c1⟩, c2⟩, c3⟩, c4⟩ := c
    obtain ⟨id, s1, s2, s3⟩ := mt_MO (X := X) m
    have hl : ys.length < 29 := by rw [c2]; cases m <;> decide
    refine PS.imp (ps_expr (pe_ml g c1 c3 c4 hl s1 s2 s3) (sw_none rfl)) ?_
    rintro D σ H ⟨B, F, Γ, hz, rel, P⟩
    simp only [evS] at P
    refine ⟨B, F, Γ, [], rel, (P.liftI (rep := rPl σ) hz.2).imp ?_⟩
    rintro v H1 ⟨q, Γ1, F1, fp1, r1, ⟨rfl, xx, hx, hn⟩, sH1, sF1, P1⟩
    have r1 : Rel X.K B F1 H1 σ Γ1 [] := by simpa using r1
    split at P1
    · rename_i hls
      obtain ⟨us, eu⟩ := isLs_of hls
      obtain ⟨x', a, xs, f0, h1, h2, h3, _⟩ := Rel.lstAt (ft := []) (tmp := []) (by simpa using r1) eu
      rw [hx] at h1; cases h1
      rw [hn] at h2; cases h2
      refine ⟨.inl ⟨rfl, _, SqL.of h3⟩, B, F1, Γ1, [], r1, (P1.liftI (rep := rTs X.K) hz.2).imp ?_⟩
      rintro vs H2 ⟨ts, Γ2, F2, ft, r2, ra, sH2, sF2, P2⟩
      obtain ⟨t', e', Q⟩ := putΓ_ok P2
      exact mut_ok r2 ra hx (nav_mono sH2 hn) e' fun F' H' a b => Q σ F' H' a hz.2 b
    · exact P1.elim
  · cases c

/-! ### name = place.pop(..) -/
theorem RpTs.dropLast {K : W.Frag} {F : FF} {H : Hp} : ∀ {xs : List V} {ts : List T} {f : List Addr} {t : T}, RpTs K F H xs ts f → ts[ts.length - 1]? = some t → ∃ x f0 g0, xs[xs.length - 1]? = some x ∧ RpT K F H x t f0 ∧ RpTs K F H xs.dropLast ts.dropLast g0 ∧ ∀ c, f0.count c + g0.count c = f.count c
  | _, _, _, _, .nil, e => by simp at e
  | _, _, _, t, .cons (x := x) (xs := xs) (t := t0) (ts := ts) (f := f1) (g := g1) a b, e => by
    cases b with
    | nil =>
      simp at e; subst e
      exact ⟨x, f1, [], rfl, a, .nil, fun c => by simp⟩
    | cons a2 b2 =>
      rename_i x2 xs2 t2 ts2 f2 g2
      have e2 : (t2 :: ts2)[(t2 :: ts2).length - 1]? = some t := by simpa using e
      obtain ⟨y, f0, g0, h1, h2, h3, h4⟩ := RpTs.dropLast (.cons a2 b2) e2
      refine ⟨y, f0, f1 ++ g0, by simpa using h1, h2, ?_, fun c => by have := h4 c; simp only [List.count_append] at *; omega⟩
      exact .cons a h3
theorem RpTs.erase {K : W.Frag} {F : FF} {H : Hp} : ∀ {xs : List V} {ts : List T} {f : List Addr} {t : T} (k : Nat), RpTs K F H xs ts f → ts[k]? = some t → ∃ x f0 g0, xs[k]? = some x ∧ RpT K F H x t f0 ∧ RpTs K F H (xs.eraseIdx k) (ts.eraseIdx k) g0 ∧ ∀ c, f0.count c + g0.count c = f.count c
  | _, _, _, _, _, .nil, e => by simp at e
  | _, _, _, t, 0, .cons (x := x) (f := f1) (g := g1) a b, e => by
    simp at e; subst e
    exact ⟨x, f1, g1, rfl, a, b, fun c => by simp only [List.count_append]⟩
  | _, _, _, t, k + 1, .cons (x := x) (f := f1) (g := g1) a b, e => by
    obtain ⟨y, f0, g0, h1, h2, h3, h4⟩ := RpTs.erase k b (t := t) (by simpa using e)
    exact ⟨y, f0, f1 ++ g0, by simpa using h1, h2, .cons a h3, fun c => by have := h4 c; simp only [List.count_append]; omega⟩
theorem seqIx_of {n k : Nat} {i : Int} (h : ixN n i = some k) (hn : n ≤ 2 ^ 62) : seqIndex? i n = some k ∧ -(2 ^ 63) ≤ i ∧ i < 2 ^ 63 := by
  unfold ixN at h
  split at h
  · rename_i h0
    split at h
    · rename_i h1
      cases h
      exact ⟨seqIndex_of h0 h1, by omega, by omega⟩
    · cases h
  · rename_i h0
    split at h
    · rename_i h1
      cases h
      exact ⟨seqIndex_neg (by omega) h1, by omega, by omega⟩
    · cases h
def rPops : V → List V → Hp → VK → Prop := fun x vs H Q => rPop x vs H Q ∨ rPopAt x vs H Q
theorem mt_pops {X : Cx} : MtR X "list.pop" rPops := by
  intro pins s σ H x xs v us Q I rx rxs h
  rcases h with h | h
  · exact mt_pop pins s σ H x xs v us Q I rx rxs h
  · exact mt_popAt pins s σ H x xs v us Q I rx rxs h
theorem oks_pop {i : Nat} {p : Pl} {as : Es} : OkS G (.pop i p as) := by
  intro X W b st g hb c hp
  simp only [chkS] at c
  split at c
  · rename_i y py x n ap ys cp pos
    simp only [Bool.and_eq_true, decide_eq_true_eq] at c
    obtain ⟨⟨⟨⟨⟨rfl, c1⟩, c2⟩, c3⟩, c4⟩, c5⟩ := c
    have c3' : (decide (X.N[i]? = some y) && stB X.env.scope b y) = true := c3
    rw [Bool.and_eq_true, decide_eq_true_eq] at c3'
    refine PS.imp (ps_set g.nd c3'.1 (stB_loc c3'.2) (pe_ml g c1 c4 c5 (by omega) PySem.F.slot_list_pop PySem.F.type_list_pop mt_pops) (by rw [sw_name]; rfl) (stB_fn g c3'.2)) ?_
    rintro D σ H ⟨B, F, Γ, hz, rel, P⟩
    simp only [evS] at P
    refine ⟨B, F, Γ, [], rel, (P.liftI (rep := rPl σ) hz.2).imp ?_⟩
    rintro v H1 ⟨q, Γ1, F1, fp1, r1, ⟨rfl, xx, hx, hn⟩, sH1, sF1, P1⟩
    have r1 : Rel X.K B F1 H1 σ Γ1 [] := by simpa using r1
    split at P1
    · rename_i hls
      obtain ⟨us, eu⟩ := isLs_of hls
      obtain ⟨x', a, xs, f0, h1, h2, h3, _⟩ := Rel.lstAt (ft := []) (tmp := []) (by simpa using r1) eu
      rw [hx] at h1; cases h1
      rw [hn] at h2; cases h2
      refine ⟨.inl ⟨rfl, _, SqL.of h3⟩, B, F1, Γ1, [], r1, (P1.liftI (rep := rTs X.K) hz.2).imp ?_⟩
      rintro vs H2 ⟨ts, Γ2, F2, ft, r2, ra, sH2, sF2, P2⟩
      have hn2 := nav_mono sH2 hn
      split at P2
      · rename_i t u ep
        split at P2
        · rename_i hi
          unfold popT at ep
          split at ep
          · rename_i us2 eg
            split at ep
            · rename_i t' et
              cases ep
              obtain ⟨x', a', xs', f0', k1, k2, k3, rs, nbs, cnt, wr⟩ := Rel.lstAt (ft := ft) (tmp := []) r2 eg
              rw [hx] at k1; cases k1
              rw [hn2] at k2; cases k2
              cases ra
              obtain ⟨y0, fy, g0, m1, m2, m3, m4⟩ := rs.dropLast et
              refine .inl ⟨a, xs', y0, rfl, rfl, k3, m1, ?_⟩
              have nb2 : T.noBs us2.dropLast = true := by
                rw [noBs_all, List.all_eq_true] at nbs ⊢
                exact fun w hw => nbs w (List.dropLast_subset _ hw)
              have na : ∀ c ∈ fy, c ≠ a := fun c m z => by
                subst z
                have e1 := List.count_pos_iff.mpr m
                have e2 := m4 c
                have e3 := cnt c
                rw [List.count_cons_self] at e3
                omega
              have nbt : t.noB = true := noBs_get nbs et
              have fin := wr (fx := fy) m3 nb2 fun c => by have := m4 c; simp only [List.count_nil]; omega
              have hi2 : i < (setΓ Γ2 q (.l us2.dropLast)).length := by
                unfold setΓ
                split
                · rw [List.length_set]; exact hi
                · exact hi
              exact P2 _ F2 _ (Rel.store (tmp := []) fin (m2.frame SubF.refl nbt fun c hc => L2.upd_ne (na c hc)) nbt hi2) (hz.2.set hp) SubF.refl
            · cases ep
          · rename_i us2 j eg
            split at ep
            · split at ep
              · rename_i k ek
                split at ep
                · rename_i t' et
                  cases ep
                  obtain ⟨x', a', xs', f0', k1, k2, k3, rs, nbs, cnt, wr⟩ := Rel.lstAt (ft := ft) (tmp := []) r2 eg
                  rw [hx] at k1; cases k1
                  rw [hn2] at k2; cases k2
                  obtain ⟨jv, rfl, rj⟩ := rpTs_one ra
                  obtain ⟨rfl, _⟩ := int_inv rj
                  obtain ⟨y0, fy, g0, m1, m2, m3, m4⟩ := rs.erase k et
                  rename_i hsm _ _ _
                  have hs62 := small62_of hsm
                  have hsz : seqIndex? j xs'.length = some k := by
                    rw [rs.length]
                    unfold ixN at ek
                    split at ek
                    · rename_i h0
                      split at ek
                      · rename_i h1
                        cases ek
                        exact seqIndex_of h0 h1
                      · cases ek
                    · rename_i h0
                      split at ek
                      · rename_i h1
                        cases ek
                        exact seqIndex_neg (by omega) h1
                      · cases ek
                  refine .inr ⟨a, xs', j, k, y0, rfl, rfl, k3, by omega, by omega, hsz, m1, ?_⟩
                  have nb2 : T.noBs (us2.eraseIdx k) = true := by
                    rw [noBs_all, List.all_eq_true] at nbs ⊢
                    exact fun w hw => nbs w (List.mem_of_mem_eraseIdx hw)
                  have na : ∀ c ∈ fy, c ≠ a := fun c m z => by
                    subst z
                    have e1 := List.count_pos_iff.mpr m
                    have e2 := m4 c
                    have e3 := cnt c
                    rw [List.count_cons_self] at e3
                    omega
                  have nbt : t.noB = true := noBs_get nbs et
                  have fin := wr (fx := fy) m3 nb2 fun c => by have := m4 c; omega
                  have hi2 : i < (setΓ Γ2 q (.l (us2.eraseIdx k))).length := by
                    unfold setΓ
                    split
                    · rw [List.length_set]; exact hi
                    · exact hi
                  exact P2 _ F2 _ (Rel.store (tmp := []) fin (m2.frame SubF.refl nbt fun c hc => L2.upd_ne (na c hc)) nbt hi2) (hz.2.set hp) SubF.refl
                · cases ep
              · cases ep
            · cases ep
          · cases ep
        · exact P2.elim
      · exact P2.elim
    · exact P1.elim
  · cases c
end
end Tv

namespace Tv
open PySem PySem.Spec PyProof.Rows L2

theorem Rel.killE {K : W.Frag} {B : Base} {F : FF} {H : Hp} {σ : L2.St} {Γ : Env} {tmp : List Addr} (r : Rel K B F H σ Γ tmp) : ∀ is : List Nat, Rel K B F H σ (wipeE Γ is) tmp
  | [] => r
  | i :: is => (r.killE is).kill i
theorem wipeE_len {Γ : Env} : ∀ {is : List Nat}, (wipeE Γ is).length = Γ.length
  | [] => rfl
  | i :: is => by rw [wipeE, List.length_set]; exact wipeE_len
theorem wipeE_get {Γ : Env} {j : Nat} : ∀ {is : List Nat}, (wipeE Γ is)[j]? = if j ∈ is ∧ j < Γ.length then some none else Γ[j]?
  | [] => by simp [wipeE]
  | i :: is => by
    rw [wipeE, List.getElem?_set, wipeE_get (is := is), wipeE_len]
    by_cases e : i = j
    · subst e
      by_cases l : i < Γ.length
      · simp [l]
      · simp [l]
    · by_cases m : j ∈ is
      · simp [e, m]
      · simp [e, m, Ne.symm e]
theorem keepIo_len {Γ : Env} {io : List Nat} : (keepIo io Γ).length = Γ.length := by
  unfold keepIo
  have : ∀ (io : List Nat) (Δ : Env), (io.foldl (fun Γ' i => Γ'.set i ((Γ[i]?).getD none)) Δ).length = Δ.length := by
    intro io
    induction io with
    | nil => intro Δ; rfl
    | cons i io ih => intro Δ; rw [List.foldl_cons, ih, List.length_set]
  rw [this, List.length_replicate]
theorem keepIo_get {Γ : Env} {io : List Nat} {j : Nat} : (keepIo io Γ)[j]? = if j ∉ io ∧ j < Γ.length then some none else Γ[j]? := by
  unfold keepIo
  have : ∀ (io : List Nat) (Δ : Env), Δ.length = Γ.length → (io.foldl (fun Γ' i => Γ'.set i ((Γ[i]?).getD none)) Δ)[j]? = if j ∈ io then Γ[j]? else Δ[j]? := by
    intro io
    induction io with
    | nil => intro Δ _; simp
    | cons i io ih =>
      intro Δ hl
      rw [List.foldl_cons, ih _ (by rw [List.length_set]; exact hl)]
      by_cases m : j ∈ io
      · simp [m]
      · rw [if_neg m, List.getElem?_set]
        by_cases e : i = j
        · subst e
          by_cases l : i < Γ.length
          · simp [hl, l]
          · have e1 : Γ[i]? = none := List.getElem?_eq_none (by omega)
            have e2 : ¬ i < Δ.length := by omega
            simp [e1, e2]
        · simp [e, m, Ne.symm e]
  rw [this _ _ (by simp)]
  by_cases m : j ∈ io
  · simp [m]
  · by_cases l : j < Γ.length
    · simp [m, l, List.getElem?_replicate]
    · have e1 : Γ[j]? = none := List.getElem?_eq_none (by omega)
      simp [m, l, List.getElem?_replicate, e1]
theorem Rel.keepIo {K : W.Frag} {B : Base} {F : FF} {H : Hp} {σ : L2.St} {Γ : Env} {tmp : List Addr} (r : Rel K B F H σ Γ tmp) (io : List Nat) : Rel K B F H σ (Tv.keepIo io Γ) tmp := by
  have : Tv.keepIo io Γ = wipeE Γ ((List.range Γ.length).filter fun j => decide (j ∉ io)) := by
    apply List.ext_getElem?
    intro j
    rw [keepIo_get, wipeE_get]
    by_cases m : j ∈ io <;> by_cases l : j < Γ.length <;> simp [m, l]
  rw [this]
  exact r.killE _
section
variable {G : Glob}
theorem oks_ex {e : E} : OkS G (.ex e) := by
  intro X W b st g hb c hp
  simp only [chkS] at c
  split at c
  · rename_i v pos
    rw [Bool.and_eq_true] at c
    refine PS.imp (ps_expr ((snd G e).pe X W b v g c.1) (sw_none c.2)) ?_
    rintro D σ H ⟨B, F, Γ, hz, rel, P⟩
    simp only [evS] at P
    refine ⟨B, F, Γ, [], rel, (P.lift hz.2).imp ?_⟩
    rintro v1 H1 ⟨t, Γ1, F1, ft, r1, rt, sH1, sF1, P1⟩
    exact P1 σ F1 H1 r1.nil hz.2 SubF.refl
  · cases c
theorem oks_ret {io : List Nat} {e : E} : OkS G (.ret io e) := by
  intro X W b st g hb c hp
  simp only [chkS] at c
  split at c
  · rename_i v pos
    refine PS.imp (ps_ret ((snd G e).pe X W b v g c)) ?_
    rintro D σ H ⟨B, F, Γ, hz, rel, P⟩
    simp only [evS] at P
    refine ⟨B, F, Γ, [], rel, (P.lift hz.2).imp ?_⟩
    rintro v1 H1 ⟨t, Γ1, F1, ft, r1, rt, sH1, sF1, P1⟩
    split at P1
    · rename_i nb
      exact P1 v1 σ F1 H1 ft (r1.keepIo io) hz.2 rt nb SubF.refl
    · exact P1.elim
  · cases c
theorem oks_retN {io : List Nat} : OkS G (.retN io) := by
  intro X W b st g hb c hp
  simp only [chkS] at c
  split at c
  · refine PS.imp ps_retN ?_
    rintro D σ H ⟨B, F, Γ, hz, rel, P⟩
    exact P .non σ F H [] (rel.keepIo io) hz.2 (.v .non) rfl SubF.refl
  · cases c
theorem oks_pass : OkS G .pass := by
  intro X W b st g hb c hp
  simp only [chkS] at c
  have rd : ∀ D σ H, TMS X.K X.H_0 G W (evS G.cl G.con .pass) D σ H → tNext D σ H := by
    rintro D σ H ⟨B, F, Γ, hz, rel, P⟩
    exact P σ F H rel hz.2 SubF.refl
  split at c
  · exact PS.imp ps_pass rd
  · exact PS.imp ps_doc rd
  · cases c
theorem oks_brk : OkS G .brk := by
  intro X W b st g hb c hp
  simp only [chkS] at c
  split at c
  · refine PS.imp ps_break ?_
    rintro D σ H ⟨B, F, Γ, hz, rel, P⟩
    exact P σ F H rel hz.2 SubF.refl
  · cases c
theorem oks_cnt : OkS G .cnt := by
  intro X W b st g hb c hp
  simp only [chkS] at c
  split at c
  · refine PS.imp ps_continue ?_
    rintro D σ H ⟨B, F, Γ, hz, rel, P⟩
    exact P σ F H rel hz.2 SubF.refl
  · cases c
theorem oks_dead : OkS G .dead := by
  intro X W b st g hb c hp
  exact PS.imp ps_never fun D σ H ⟨B, F, Γ, hz, rel, P⟩ => P.elim
theorem oks_ife {e : E} {x y : Ss} (hx : OkSs G x) (hy : OkSs G y) : OkS G (.ife e x y) := by
  intro X W b st g hb c hp
  simp only [chkS] at c
  split at c
  · rename_i v s1 s2 pos
    simp only [Bool.and_eq_true] at c
    obtain ⟨⟨c1, c2⟩, c3⟩ := c
    refine PS.imp (ps_if ((snd G e).pt X W b v g c1) (hx X W b s1 g hb c2) (hy X W b s2 g hb c3)) ?_
    rintro D σ H ⟨B, F, Γ, hz, rel, P⟩
    simp only [evS] at P
    show TE' X.K G W e σ H _
    refine ⟨B, F, Γ, [], rel, (P.lift hz.2).imp ?_⟩
    rintro v1 H1 ⟨t, Γ1, F1, ft, r1, rt, sH1, sF1, P1⟩
    split at P1
    · obtain ⟨rfl, _⟩ := bl_inv rt
      exact ⟨true, rfl, by dsimp only; rw [if_pos rfl]; exact ⟨B, F1, Γ1, hz, r1.nil, P1⟩⟩
    · obtain ⟨rfl, _⟩ := bl_inv rt
      exact ⟨false, rfl, by dsimp only; rw [if_neg Bool.false_ne_true]; exact ⟨B, F1, Γ1, hz, r1.nil, P1⟩⟩
    · exact P1.elim
  · cases c
/-- a body's outcome, seen by the loop -/
theorem oks_for {tg : Tg} {it : I} {m : Ss} (hm : OkSs G m) : OkS G (.for tg it m) := by
  intro X W b st g hb c hp
  simp only [chkS] at c
  split at c
  · rename_i t v s1 pos
    simp only [Bool.and_eq_true] at c
    obtain ⟨⟨c1, c2⟩, c3⟩ := c
    obtain ⟨pi, nset⟩ := sndI G it X W b t v g c2
    refine PS.imp (ps_for g.own g.calm pi (pg_tg g c1) (hm X W b s1 g hb c3) (fset_of nset)) ?_
    rintro D σ H ⟨B, F, Γ, hz, rel, P⟩
    simp only [evS] at P
    refine ⟨B, F, Γ, [], rel, (P.liftI hz.2).imp ?_⟩
    rintro J H1 ⟨ds, Γ1, F1, fp, r1, ⟨rfl, wk⟩, sH1, sF1, P1⟩
    have r1 : Rel X.K B F1 H1 σ Γ1 [] := r1.nil
    generalize hstep : (fun d Γ2 => match bindTg tg d Γ2 with
      | some Γ3 => evSs G.cl G.con m Γ3
      | none => SR.bad) = step at P1
    refine for_it wk (fun i σ H => ∃ F Γ, Pin G σ ∧ Rel X.K B F H σ Γ [] ∧ SubF F1 F ∧ PostS X.K G W B F (forL step (ds.drop i) Γ) D) ⟨F1, Γ1, hz.2, r1, SubF.refl, P1⟩ ?_ ?_ ?_
    · rintro i σ' H' hi ⟨F2, Γ2, p2, r2, sF2, P2⟩
      exact sF2.f.trans r2.sub
    · rintro i x σ' H2 H3 hi ⟨F2, Γ2, p2, r2, sF2, P2⟩ y
      obtain ⟨d, F3, hd, r3, rdx, rnb, sF3, sH3⟩ := YD_ok (tmp := []) y r2 sF2
      have ed : ds.drop i = d :: ds.drop (i + 1) := by
        rw [List.drop_eq_getElem_cons hi]
        rw [List.getElem?_eq_getElem hi] at hd
        rw [Option.some.inj hd]
      rw [ed] at P2
      simp only [forL] at P2
      have es := congrFun (congrFun hstep.symm d) Γ2
      cases eb : bindTg tg d Γ2 with
      | none =>
        have e3 : step d Γ2 = .bad := by rw [es, eb]
        rw [e3] at P2; exact P2.elim
      | some Γ3 =>
        refine bindTg_ok (tmp := []) (f := []) eb (by simpa using r3) rdx rnb fun σ2 r4 hw => ⟨B, F3, Γ3, ⟨hz.1, p2.wiped hp hw⟩, r4, ?_⟩
        have e3 : step d Γ2 = evSs G.cl G.con m Γ3 := by rw [es, eb]
        rw [e3] at P2
        cases eo : evSs G.cl G.con m Γ3 with
        | bad => simp only [eo] at P2; exact P2.elim
        | nx Γ4 =>
          simp only [eo] at P2
          exact fun σ4 F4 H4 r5 p5 sF4 => ⟨F4, Γ4, p5, r5, (sF2.trans sF3).trans sF4, P2.later (sF3.trans sF4)⟩
        | ct Γ4 =>
          simp only [eo] at P2
          exact fun σ4 F4 H4 r5 p5 sF4 => ⟨F4, Γ4, p5, r5, (sF2.trans sF3).trans sF4, P2.later (sF3.trans sF4)⟩
        | bk Γ4 =>
          simp only [eo] at P2
          exact fun σ4 F4 H4 r5 p5 sF4 => P2 σ4 F4 H4 r5 p5 (sF3.trans sF4)
        | rt t Γ4 =>
          simp only [eo] at P2
          exact fun v σ4 F4 H4 fp r5 p5 rt nb sF4 => P2 v σ4 F4 H4 fp r5 p5 rt nb (sF3.trans sF4)
        | ex x Γ4 =>
          simp only [eo] at P2
          exact fun c d σ4 F4 H4 r5 p5 sF4 hx => P2 c d σ4 F4 H4 r5 p5 (sF3.trans sF4) hx
    · rintro σ' H' ⟨F2, Γ2, p2, r2, sF2, P2⟩
      rw [List.drop_length] at P2
      exact P2 σ' F2 H' r2 p2 SubF.refl
  · cases c
theorem oks_whl {n : Nat} {e : E} {m : Ss} (hm : OkSs G m) : OkS G (.whl n e m) := by
  intro X W b st g hb c hp
  simp only [chkS] at c
  split at c
  · rename_i v s1 pos
    simp only [Bool.and_eq_true] at c
    obtain ⟨c1, c3⟩ := c
    refine PS.imp (ps_while g.own ((snd G e).pt X W b v g c1) (hm X W b s1 g hb c3)) ?_
    rintro D σ H ⟨B, F, Γ, hz, rel, P⟩
    simp only [evS] at P
    refine ⟨fun k σ H => ∃ F Γ, Pin G σ ∧ Rel X.K B F H σ Γ [] ∧ PostS X.K G W B F (whlL (evE G.cl G.con e) (evSs G.cl G.con m) k Γ) D, ⟨n, F, Γ, hz.2, rel, P⟩, ?_⟩
    rintro k σ1 H1 ⟨F1, Γ1, p1, r1, P1⟩
    show TE' X.K G W e σ1 H1 _
    cases k with
    | zero => exact P1.elim
    | succ k =>
      simp only [whlL] at P1
      refine ⟨B, F1, Γ1, [], r1, ?_⟩
      cases ee : evE G.cl G.con e Γ1 with
      | bad => simp only [ee] at P1; exact P1.elim
      | ex x Γ2 =>
        simp only [ee] at P1
        exact fun c d F' H' h1 h2 h3 h4 => P1 c d σ1 F' H' h1 p1 h3 h4
      | ok t Γ2 =>
        rw [ee] at P1
        intro v F2 H2 fp r2 rt sH2 sF2
        have r2 : Rel X.K B F2 H2 σ1 Γ2 [] := r2.nil
        split at P1
        · rename_i Γ3 e3
          cases e3
          obtain ⟨rfl, _⟩ := bl_inv rt
          refine ⟨true, rfl, ?_⟩
          dsimp only
          rw [if_pos rfl]
          cases eo : evSs G.cl G.con m Γ2 with
          | bad => simp only [eo] at P1; exact P1.elim
          | nx Γ4 =>
            simp only [eo] at P1
            exact ⟨fun σ H => ∃ F Γ, Pin G σ ∧ Rel X.K B F H σ Γ [] ∧ PostS X.K G W B F (whlL (evE G.cl G.con e) (evSs G.cl G.con m) k Γ) D, fun σ' H' h => ⟨k, Nat.lt_succ_self k, h⟩, B, F2, Γ2, ⟨hz.1, p1⟩, r2, by rw [eo]; exact fun σ4 F4 H4 r5 p5 sF4 => ⟨F4, Γ4, p5, r5, P1.later (sF2.trans sF4)⟩⟩
          | ct Γ4 =>
            simp only [eo] at P1
            exact ⟨fun σ H => ∃ F Γ, Pin G σ ∧ Rel X.K B F H σ Γ [] ∧ PostS X.K G W B F (whlL (evE G.cl G.con e) (evSs G.cl G.con m) k Γ) D, fun σ' H' h => ⟨k, Nat.lt_succ_self k, h⟩, B, F2, Γ2, ⟨hz.1, p1⟩, r2, by rw [eo]; exact fun σ4 F4 H4 r5 p5 sF4 => ⟨F4, Γ4, p5, r5, P1.later (sF2.trans sF4)⟩⟩
          | bk Γ4 =>
            simp only [eo] at P1
            exact ⟨fun _ _ => False, fun σ' H' h => h.elim, B, F2, Γ2, ⟨hz.1, p1⟩, r2, by rw [eo]; exact fun σ4 F4 H4 r5 p5 sF4 => P1 σ4 F4 H4 r5 p5 (sF2.trans sF4)⟩
          | rt t Γ4 =>
            simp only [eo] at P1
            exact ⟨fun _ _ => False, fun σ' H' h => h.elim, B, F2, Γ2, ⟨hz.1, p1⟩, r2, by rw [eo]; exact fun v σ4 F4 H4 fp r5 p5 rt nb sF4 => P1 v σ4 F4 H4 fp r5 p5 rt nb (sF2.trans sF4)⟩
          | ex x Γ4 =>
            simp only [eo] at P1
            exact ⟨fun _ _ => False, fun σ' H' h => h.elim, B, F2, Γ2, ⟨hz.1, p1⟩, r2, by rw [eo]; exact fun c d σ4 F4 H4 r5 p5 sF4 hx => P1 c d σ4 F4 H4 r5 p5 (sF2.trans sF4) hx⟩
        · rename_i Γ3 e3
          cases e3
          obtain ⟨rfl, _⟩ := bl_inv rt
          exact ⟨false, rfl, by dsimp only; rw [if_neg Bool.false_ne_true]; exact P1 σ1 F2 H2 r2 p1 sF2⟩
        · rename_i e3; cases e3
        · exact P1.elim
  · cases c
theorem oks_nil : OkSs G .nil := by
  intro X W b st g hb c
  cases st with
  | nil =>
    refine PSs.imp pss_nil ?_
    rintro D σ H ⟨B, F, Γ, hz, rel, P⟩
    exact P σ F H rel hz.2 SubF.refl
  | cons _ _ => simp [chkSs] at c
theorem oks_cons {s : S} {m : Ss} (h1 : OkS G s) (h2 : OkSs G m) : OkSs G (.cons s m) := by
  intro X W b st g hb c
  cases st with
  | nil => simp [chkSs] at c
  | cons x xs =>
    simp only [chkSs, Bool.and_eq_true] at c
    have hfree : FreeOf G s.own := fun i hi p hp z => by
      have := List.all_eq_true.mp c.1 i hi
      rw [← z] at this
      have hm := List.contains_iff_mem.mpr (g.pin p hp)
      rw [hm] at this; cases this
    replace c := c.2
    refine PSs.imp (pss_cons (h1 X W b x g hb c.1 hfree) (h2 X W b xs g hb c.2)) ?_
    rintro D σ H ⟨B, F, Γ, hz, rel, P⟩
    simp only [evSs] at P
    refine ⟨B, F, Γ, hz, rel, ?_⟩
    cases eo : evS G.cl G.con s Γ with
    | bad => rw [eo] at P; exact P.elim
    | nx Γ1 =>
      rw [eo] at P
      exact fun σ1 F1 H1 r1 p1 sF1 => ⟨B, F1, Γ1, ⟨hz.1, p1⟩, r1, P.later sF1⟩
    | bk Γ1 => rw [eo] at P; exact P
    | ct Γ1 => rw [eo] at P; exact P
    | rt t Γ1 => rw [eo] at P; exact P
    | ex x Γ1 => rw [eo] at P; exact P
theorem oks_kill {is : List Nat} {m : Ss} (h : OkSs G m) : OkSs G (.kill is m) := by
  intro X W b st g hb c
  simp only [chkSs] at c
  refine PSs.imp (h X W b st g hb c) ?_
  rintro D σ H ⟨B, F, Γ, hz, rel, P⟩
  simp only [evSs] at P
  exact ⟨B, F, _, hz, rel.killE is, P⟩
end
mutual
theorem sndS (G : Glob) : ∀ m : S, OkS G m
  | .set _ _ => oks_set
  | .setF _ _ => oks_setF
  | .setT _ _ => oks_setT
  | .sto _ _ _ => oks_sto
  | .dsto _ _ _ => oks_dsto
  | .stf _ _ _ _ => oks_stf
  | .augV _ _ _ => oks_augV
  | .augS _ _ _ _ => oks_augS
  | .mut _ _ _ => oks_mut
  | .pop _ _ _ => oks_pop
  | .ex _ => oks_ex
  | .ife _ a b => oks_ife (sndSs G a) (sndSs G b)
  | .for _ _ a => oks_for (sndSs G a)
  | .whl _ _ a => oks_whl (sndSs G a)
  | .ret _ _ => oks_ret
  | .retN _ => oks_retN
  | .pass => oks_pass
  | .brk => oks_brk
  | .cnt => oks_cnt
  | .dead => oks_dead
theorem sndSs (G : Glob) : ∀ m : Ss, OkSs G m
  | .nil => oks_nil
  | .cons s m => oks_cons (sndS G s) (sndSs G m)
  | .kill _ m => oks_kill (sndSs G m)
end

/-! ### defs -/
theorem rest_emp {K : W.Frag} {F : FF} {H : Hp} : ∀ n, RpE K F H (List.replicate n none) (List.replicate n none) []
  | 0 => .nil
  | n + 1 => .emp (rest_emp n)
theorem args_all {K : W.Frag} {F : FF} {H : Hp} {σ : L2.St} {Γ : Env} (h : RpE K F H σ Γ []) : ∀ {vs : List V} {ts : List T} {f : List Addr}, RpTs K F H vs ts f → T.noBs ts = true → RpE K F H (vs.map some ++ σ) (ts.map some ++ Γ) f
  | _, _, _, .nil, _ => h
  | _, _, _, .cons a b, n => by
    simp [T.noBs] at n
    exact .fil a n.1 (args_all h b n.2)
theorem start_rel {K : W.Frag} {N : List Str} {vs : List V} {F0 H : Hp} {fs : List Addr} {ts : List T} (hF : Sub F0 (hideA H fs)) (hs : Stb H F0) (r : RpTs K ⟨F0, stF F0⟩ H vs ts fs) (nb : T.noBs ts = true) (c1 : ∀ a, fs.count a ≤ 1) (ne : ∀ a ∈ fs, H a ≠ none ∧ ∀ o u, H a ≠ some (.frz o u)) :
    Rel K ⟨hideA H fs, F0⟩ ⟨F0, stF F0⟩ H (L2.start N vs) (env0 ts N.length) [] := by
  have h0 : Sub (hideA H fs) H := fun a o e => by
    unfold hideA at e
    split at e
    · cases e
    · exact .inl e
  have f0 : ∀ a ∈ fs, F0 a = none := fun a m => hF.none (by unfold hideA; rw [if_pos m])
  refine ⟨⟨fs, ?_, fun a => by simpa using c1 a, fun a ha => ?_⟩, hF.trans h0, stF_sub F0, hs, stF_stb F0, h0, Sub.refl, fun a _ => rfl, fun a o _ e => stF_stab F0 a o e⟩
  · unfold L2.start env0
    rw [r.length]
    exact args_all (rest_emp _) r nb
  · have m : a ∈ fs := by simpa using ha
    exact ⟨f0 a m, by show hideA H fs a = none; unfold hideA; rw [if_pos m], (ne a m).1⟩
theorem fn_len {K : W.Frag} {G : Glob} {io : List Nat} {f : String} {ps : List Str} (h : ∀ ts, ts.length ≠ ps.length → G.cl f ts = .bad) : ∀ vs H Q E, spM K G io f vs H Q E → vs.length = ps.length := by
  rintro vs H Q E ⟨F0, ts, fs, _, _, r, _, _, _, q⟩
  rw [r.length]
  by_cases hd : ts.length = ps.length
  · exact hd
  · rw [h ts hd] at q; exact q.elim
theorem nox_own {X : Cx} (hs : X.xe = fun _ _ => False) : PassesOwn (model X.prog X.w) X.A X.env X.xe := by
  rw [hs]; exact PassesOwn.never
end Tv

namespace Tv
open PySem PySem.Spec PyProof.Rows L2

/-! ### the module's constants -/
def D.toV : D → Option V
  | .non => some .non
  | .bl b => some (.bl b)
  | .int i => some (.int i)
  | .str s => some (.str ⟨s.toArray⟩)
  | _ => none
def cVs : List D → Option (List V)
  | [] => some []
  | d :: ds => match d.toV, cVs ds with
    | some v, some vs => some (v :: vs)
    | _, _ => none
theorem toV_ok {K : W.Frag} {F : Hp} {d : D} {v : V} (e : d.toV = some v) (h : match d with
    | .str s => okS s = true
    | _ => True) : RpD K F v d := by
  cases d with
  | non => cases e; exact .non
  | bl b => cases e; exact .bl b
  | int i => cases e; exact .int i
  | str s =>
    cases e
    have := RpD.str (K := K) (F := F) ⟨s.toArray⟩ (by simpa using h)
    simpa using this
  | _ => cases e
def okStr : D → Bool
  | .str s => okS s
  | _ => true
theorem cVs_ok {K : W.Frag} {F : Hp} : ∀ {ds : List D} {vs : List V}, cVs ds = some vs → ds.all okStr = true → RpDs K F vs ds
  | [], _, e, _ => by cases e; exact .nil
  | d :: ds, vs, e, h => by
    unfold cVs at e
    split at e
    · rename_i v vs' e1 e2
      cases e
      rw [List.all_cons, Bool.and_eq_true] at h
      refine .cons (toV_ok e1 ?_) (cVs_ok e2 h.2)
      cases d <;> first | trivial | exact h.1
    · cases e
/-- the module's name x is d -/
def cOK (K : W.Frag) (x : String) (d : D) : Bool := match d with
  | .ktp ds => decide (PySem.W.nsIn K mainGlobals (Str.ofString x) = some (some (.ref (He.ga K (Str.ofString x))))) && ds.all okStr && (match cVs ds, K.lookup (He.ga K (Str.ofString x)) with
    | some vs, some ⟨.type c, _, .seq its _, _⟩ => decide (c = "tuple") && (decide (its.size ≤ sizeLine) && He.relAll vs its.toList)
    | _, _ => false)
  | d => okStr d && (match d.toV, PySem.W.nsIn K mainGlobals (Str.ofString x) with
    | some v, some (some u) => He.relB v u
    | _, _ => false)
section
variable {K : W.Frag} {h : Heap} {mg : Str → Option Value}
theorem cOK_ok (X : K.In h) (G : h.Ns mainGlobals mg) {x : String} {d : D} (c : cOK K x d = true) : ∃ u v, mg (Str.ofString x) = some u ∧ RelV v u ∧ RpD K (fun _ => none) v d := by
  have plain : okStr d = true → (∀ ds, d ≠ .ktp ds) → (match d.toV, PySem.W.nsIn K mainGlobals (Str.ofString x) with
    | some v, some (some u) => He.relB v u
    | _, _ => false) = true → ∃ u v, mg (Str.ofString x) = some u ∧ RelV v u ∧ RpD K (fun _ => none) v d := by
    intro hs _ hc
    split at hc
    · rename_i v u e1 e2
      refine ⟨u, v, PySem.W.mg_of X G e2, He.relB_ok hc, toV_ok e1 ?_⟩
      cases d <;> first | trivial | exact hs
    · cases hc
  cases d with
  | ktp ds =>
    simp only [cOK, Bool.and_eq_true, decide_eq_true_eq] at c
    obtain ⟨⟨c1, c2⟩, c3⟩ := c
    split at c3
    · rename_i vs c0 od its n sl e1 e2
      simp only [Bool.and_eq_true, decide_eq_true_eq] at c3
      obtain ⟨c4, c5, c6⟩ := c3
      refine ⟨_, .ref (He.ga K (Str.ofString x)), PySem.W.mg_of X G c1, rfl, .ktp (xs := vs) ?_ (cVs_ok e1 c2)⟩
      exact .inr ⟨_, its, n, e2, congrArg Value.type c4, rfl, c5, He.relAll_ok c6⟩
    · cases c3
  | non => simp only [cOK, Bool.and_eq_true] at c; exact plain c.1 (fun _ z => by cases z) c.2
  | bl b => simp only [cOK, Bool.and_eq_true] at c; exact plain c.1 (fun _ z => by cases z) c.2
  | int i => simp only [cOK, Bool.and_eq_true] at c; exact plain c.1 (fun _ z => by cases z) c.2
  | str s => simp only [cOK, Bool.and_eq_true] at c; exact plain c.1 (fun _ z => by cases z) c.2
  | lst ds => simp [cOK, D.toV] at c
  | tup ds => simp [cOK, D.toV] at c
  | scr ds => simp [cOK, D.toV] at c
  | dct _ _ _ => simp [cOK, D.toV] at c
  | obj _ _ _ => simp [cOK, D.toV] at c
  | exc _ _ _ => simp [cOK, D.toV] at c
end

/-! ### the whole text -/
structure FnI where
  N : List Str
  ps : List Str
/-- a def: of the module (a name), of a class (the class, the method) -/
structure Df where
  key : String × Option String
  d : He.DefD
  fn : Fn
  i : FnI
def Df.nm (e : Df) : String := match e.key.2 with
  | none => e.key.1
  | some m => e.key.1 ++ "." ++ m
def Df.at (e : Df) : Str × Option Str := (Str.ofString e.key.1, e.key.2.map Str.ofString)
def fnsOf (ds : List Df) : List String := ds.filterMap fun e => if e.key.2.isNone && e.fn.io.isEmpty then some e.key.1 else none
def clsOf (ds : List Df) : List String := ds.filterMap fun e => if e.key.2 == some "__init__" && e.fn.io == [0] then some e.key.1 else none
def mtsOf (ds : List Df) : List (String × String) := ds.filterMap fun e => match e.key.2 with
  | some m => if e.fn.io.isEmpty then some (e.key.1, m) else none
  | none => none
def cpOf (ds : List Df) (as : List (String × String)) (io : List Nat) : CP := ⟨false, fnsOf ds, clsOf ds, mtsOf ds, as, io⟩
def Df.good (ds : List Df) (as : List (String × String)) (e : Df) : Bool :=
  C8.scC e.i.N e.i.ps e.d.scope && decide (e.fn.np = e.i.ps.length) && decide (e.fn.ns = e.i.N.length) && decide (e.fn.io.Nodup) && (e.fn.io.all fun i => decide (i < e.fn.np)) && chkSs e.i.N e.d.scope (cpOf ds as e.fn.io) e.fn.body e.d.body
def Df.plain (e : Df) : Prop := e.d.at_ = e.at ∧ e.d.dfl = [] ∧ e.d.kwd = [] ∧
  ∀ (kV doc pm : Value) (an : Option Addr) (cdv ct : Value) (us : List Value), us.length = e.i.ps.length → bindArgs (PySem.W.fnOf e.d.name e.d.qual e.d.params e.d.body e.d.scope .none kV doc pm an cdv ct) ⟨us, []⟩ = pure (e.i.ps.zip us)
def tblP (ds : List Df) (f : String) : Option Fn := (ds.find? fun e => e.nm == f).map (·.fn)
def tblC (cs : List (String × D)) (x : String) : Option D := cs.lookup x
/-- what the written part must say -/
def tvB (ds : List Df) (cs : List (String × D)) (as : List (String × String)) (K : W.Frag) : Bool :=
  (ds.all fun e => He.Fa.ok K (.glo (Str.ofString e.key.1))) && (cs.all fun c => cOK K c.1 c.2) && (bltNames.all fun x => decide (PySem.W.nsIn K mainGlobals (Str.ofString x) = some none)) &&
    ((clsOf ds).all fun c => He.Fa.ok K (.mkr (Str.ofString c)) && He.Fa.ok K (.cls (Str.ofString c))) && ((mtsOf ds).all fun p => He.Fa.ok K (.cls (Str.ofString p.1)) && He.Fa.ok K (.meth (Str.ofString p.1) (Str.ofString p.2))) && (as.all fun p => He.Fa.ok K (.noat (Str.ofString p.1) (Str.ofString p.2)))
structure Txt (ds : List Df) (cs : List (String × D)) (as : List (String × String)) : Prop where
  good : ∀ e ∈ ds, e.good ds as = true
  plain : ∀ e ∈ ds, e.plain
  nd : (ds.map Df.nm).Nodup
theorem find_nm {ds : List Df} (nd : (ds.map Df.nm).Nodup) {e : Df} (h : e ∈ ds) : ds.find? (fun x => x.nm == e.nm) = some e := by
  induction ds with
  | nil => cases h
  | cons d ds ih =>
    rw [List.map_cons, List.nodup_cons] at nd
    rw [List.find?_cons]
    rcases List.mem_cons.mp h with rfl | h
    · simp
    · have : (d.nm == e.nm) = false := by
        rw [beq_eq_false_iff_ne]
        intro z
        exact nd.1 (by rw [z]; exact List.mem_map_of_mem h)
      rw [this]
      exact ih nd.2 h
theorem fns_mem {ds : List Df} {f : String} (h : f ∈ fnsOf ds) : ∃ e ∈ ds, e.key = (f, none) ∧ e.fn.io = [] ∧ e.nm = f := by
  unfold fnsOf at h
  obtain ⟨e, he, h⟩ := List.mem_filterMap.mp h
  split at h
  · rename_i c
    rw [Bool.and_eq_true] at c
    cases h
    have k : e.key.2 = none := by simpa using c.1
    exact ⟨e, he, Prod.ext rfl k, by simpa using c.2, by unfold Df.nm; rw [k]⟩
  · cases h
theorem cls_mem {ds : List Df} {f : String} (h : f ∈ clsOf ds) : ∃ e ∈ ds, e.key = (f, some "__init__") ∧ e.fn.io = [0] ∧ e.nm = f ++ ".__init__" := by
  unfold clsOf at h
  obtain ⟨e, he, h⟩ := List.mem_filterMap.mp h
  split at h
  · rename_i c
    rw [Bool.and_eq_true, beq_iff_eq, beq_iff_eq] at c
    cases h
    refine ⟨e, he, Prod.ext rfl c.1, c.2, ?_⟩
    unfold Df.nm; rw [c.1]
    show e.key.1 ++ "." ++ "__init__" = _
    rw [String.append_assoc]
    rfl
  · cases h
theorem mts_mem {ds : List Df} {p : String × String} (h : p ∈ mtsOf ds) : ∃ e ∈ ds, e.key = (p.1, some p.2) ∧ e.fn.io = [] ∧ e.nm = p.1 ++ "." ++ p.2 := by
  unfold mtsOf at h
  obtain ⟨e, he, h⟩ := List.mem_filterMap.mp h
  split at h
  · rename_i m k
    split at h
    · rename_i c
      cases h
      exact ⟨e, he, Prod.ext rfl k, by simpa using c, by unfold Df.nm; rw [k]⟩
    · cases h
  · cases h
theorem lookup_mem {cs : List (String × D)} {x : String} {d : D} (h : cs.lookup x = some d) : (x, d) ∈ cs := by
  induction cs with
  | nil => cases h
  | cons c cs ih =>
    obtain ⟨y, e⟩ := c
    rw [List.lookup_cons] at h
    split at h
    · rename_i q
      cases h
      rw [eq_of_beq q]
      exact List.mem_cons_self
    · exact List.mem_cons_of_mem _ (ih h)
/-! ### the parameters that are handed in to be changed -/
theorem pick_some {α : Type} {xs : List α} : ∀ {io : List Nat}, (∀ i ∈ io, i < xs.length) → ∃ ys, pick xs io = some ys
  | [], _ => ⟨[], rfl⟩
  | i :: io, h => by
    obtain ⟨ys, e⟩ := pick_some (xs := xs) (io := io) fun j hj => h j (by simp [hj])
    exact ⟨xs[i]'(h i (by simp)) :: ys, by unfold pick; rw [List.getElem?_eq_getElem (h i (by simp)), e]⟩
theorem pick_zip {α : Type} {xs : List α} : ∀ {io : List Nat} {ys : List α}, pick xs io = some ys → io.length = ys.length ∧ ∀ p ∈ io.zip ys, xs[p.1]? = some p.2
  | [], _, e => by cases e; exact ⟨rfl, fun p hp => by simp at hp⟩
  | i :: io, ys, e => by
    unfold pick at e
    split at e
    · rename_i x r e1 e2
      cases e
      obtain ⟨h1, h2⟩ := pick_zip e2
      refine ⟨by simp [h1], fun p hp => ?_⟩
      rcases List.mem_cons.mp hp with rfl | hp
      · exact e1
      · exact h2 p hp
    · cases e
theorem outs_set {Γ : Env} {i : Nat} {o : Option T} : ∀ {io : List Nat}, i ∉ io → outs (Γ.set i o) io = outs Γ io
  | [], _ => rfl
  | j :: io, h => by
    simp only [List.mem_cons, not_or] at h
    unfold outs
    rw [List.getElem?_set_ne h.1, outs_set h.2]
theorem outs_ok {K : W.Frag} {B : Base} {F : FF} {H : Hp} {σ : L2.St} : ∀ {io : List Nat} {vo : List V} {os : List T} {Γ : Env} {fp : List Addr}, io.Nodup → io.length = vo.length → (∀ p ∈ io.zip vo, σ[p.1]? = some (some p.2)) → outs Γ io = some os → Rel K B F H σ Γ fp →
    ∃ fo Γ', RpTs K F H vo os fo ∧ T.noBs os = true ∧ Rel K B F H σ Γ' (fp ++ fo)
  | [], [], _, Γ, fp, _, _, _, e, r => by
    cases e
    exact ⟨[], Γ, .nil, rfl, by simpa using r⟩
  | [], _ :: _, _, _, _, _, hl, _, _, _ => by simp at hl
  | _ :: _, [], _, _, _, _, hl, _, _, _ => by simp at hl
  | i :: io, v :: vo, os, Γ, fp, nd, hl, hp, e, r => by
    unfold outs at e
    split at e
    · rename_i t ts e1 e2
      cases e
      rw [List.nodup_cons] at nd
      obtain ⟨x, f, hx, rt, nb, r2⟩ := r.take e1
      have hv : σ[i]? = some (some v) := hp (i, v) (by simp)
      rw [hx] at hv; cases hv
      obtain ⟨fo, Γ', h1, h2, h3⟩ := outs_ok (fp := f ++ fp) nd.2 (by simpa using hl) (fun p hp' => hp p (by simp [hp'])) (by rw [outs_set nd.1]; exact e2) r2
      refine ⟨f ++ fo, Γ', .cons rt h1, by simp [T.noBs, nb, h2], h3.less fun a => ?_⟩
      simp only [List.count_append]; omega
    · cases e
section
variable {P : Program} {w : World} {K : W.Frag} {mg : Str → Option Value} {base : Heap} {ds : List Df} {cs : List (String × D)} {as : List (String × String)}
abbrev gl (ds : List Df) (cs : List (String × D)) (k : Nat) (pin : List (Nat × V)) : Glob := ⟨evF (tblP ds) (tblC cs) k, tblC cs, pin, fun _ _ _ _ _ => False, fun _ _ _ _ _ _ _ h => h⟩
abbrev FD (K : W.Frag) (e : Df) (fd : FuncData) : Prop := FunD K e.d.name e.d.qual e.d.params e.d.body e.d.scope (e.d.dvs K) (e.d.kws K) (He.fAd K e.d.at_) fd
theorem bindsD {e : Df} (p : e.plain) {fd : FuncData} (F : FD K e fd) : L2.Binds K fd e.i.ps [] := by
  obtain ⟨p1, p2, p3, p4⟩ := p
  have F2 : FunD K e.d.name e.d.qual e.d.params e.d.body e.d.scope [] (e.d.kws K) (He.fAd K e.d.at_) fd := by
    have : e.d.dvs K = [] := by unfold He.DefD.dvs; rw [p2]; rfl
    rw [← this]; exact F
  exact F2.bindsN p4
theorem all_ok (T : Txt ds cs as) (X : K.In base) (G : base.Ns mainGlobals mg) (hB : tvB ds cs as K = true) (hF : ∀ e ∈ ds, ∃ fd, FD K e fd) :
    ∀ k, ∀ e ∈ ds, ∀ fd, FD K e fd → FnOk P w K mg base (L2.CX P w) (2 * k) (He.fAd K e.d.at_) fd e.i.ps (spM K (gl ds cs k []) e.fn.io e.nm) := by
  unfold tvB at hB
  simp only [Bool.and_eq_true, List.all_eq_true, decide_eq_true_eq] at hB
  obtain ⟨⟨⟨⟨⟨h1, h2⟩, h3⟩, h4⟩, h5⟩, h6⟩ := hB
  intro k
  induction k with
  | zero =>
    intro e he fd F
    exact ⟨fun vs H Q E h => by obtain ⟨F0, ts0, fs, _, _, _, _, _, _, q⟩ := h; exact q.elim, fun A outer s H args us vs Q E _ _ _ _ h => by obtain ⟨F0, ts0, fs, _, _, _, _, _, _, q⟩ := h; exact q.elim⟩
  | succ k ih =>
    intro e he fd F
    have gd := T.good e he
    unfold Df.good at gd
    simp only [Bool.and_eq_true, decide_eq_true_eq, List.all_eq_true] at gd
    obtain ⟨⟨⟨⟨⟨g1, g2⟩, g3⟩, gn⟩, gi⟩, g4⟩ := gd
    have sc := C8.fnScope_by g1
    have eP : tblP ds e.nm = some e.fn := by unfold tblP; rw [find_nm T.nd he]; rfl
    have at_of : ∀ e' ∈ ds, ∀ A : Around, Room (2 * k + 1) A → ∀ X : Cx, X.prog = P → X.w = w → X.K = K → X.mg = mg → X.base = base → FnAt X (He.fAd K e'.d.at_) (2 * k) (spM K (gl ds cs k []) e'.fn.io e'.nm) := by
      rintro e' he' A hr X rfl rfl rfl rfl rfl
      obtain ⟨fd', F'⟩ := hF e' he'
      exact ⟨fd', e'.i.ps, F'.kp, bindsD (T.plain e' he') F', ih e' he' fd' F'⟩
    refine F.ok sc (fn_len fun xs hx => ?_) (fun cdv A outer s H vs Q E hr h => ?_)
    · show evF (tblP ds) (tblC cs) (k + 1) e.nm xs = .bad
      simp only [evF, eP]
      rw [if_neg fun z => hx (by rw [← g2]; exact z.1)]
    · obtain ⟨F0, ts, fs, hF0, hsb, rx, nbs, cnt, nfz, q⟩ := h
      have hl : ts.length = e.fn.np ∧ argOk e.fn.io 0 ts = true := by
        cases hx : decide (ts.length = e.fn.np ∧ argOk e.fn.io 0 ts = true) with
        | true => exact of_decide_eq_true hx
        | false =>
          have e0 : (gl ds cs (k + 1) []).cl e.nm ts = .bad := by
            show evF (tblP ds) (tblC cs) (k + 1) e.nm ts = .bad
            simp only [evF, eP]
            rw [if_neg (of_decide_eq_false hx)]
          rw [e0] at q
          exact q.elim
      have hlv : vs.length = e.fn.np := by rw [rx.length]; exact hl.1
      obtain ⟨vo, hvo⟩ := pick_some (xs := vs) (io := e.fn.io) fun i hi => by rw [hlv]; exact gi i hi
      obtain ⟨hlo, hzo⟩ := pick_zip hvo
      have eev : (gl ds cs (k + 1) []).cl e.nm ts = toCR e.fn.io (evSs (evF (tblP ds) (tblC cs) k) (tblC cs) e.fn.body (env0 ts e.i.N.length)) := by
        show evF (tblP ds) (tblC cs) (k + 1) e.nm ts = _
        simp only [evF, eP]
        rw [if_pos hl, show e.fn.ns = e.i.N.length from g3]
      rw [eev] at q
      refine ⟨TMS K H (gl ds cs k (e.fn.io.zip vo)) (fun cls d _ H => E cls d H) (evSs (evF (tblP ds) (tblC cs) k) (tblC cs) e.fn.body), ?_, ?_⟩
      · refine sndSs (gl ds cs k (e.fn.io.zip vo)) e.fn.body (cxOf (L2.CX P w) P w K mg base e.i.N e.d.qual e.d.scope (He.fAd K e.d.at_) cdv A outer s H E) _ (cpOf ds as e.fn.io) e.d.body ?_ rfl g4
        refine { nd := sc.nd, calm := rfl, own := passes_of rfl, tk := takes_of rfl rfl rfl rfl, hu := ?_, st := fun _ _ => rfl, con := ?_, blt := ?_, fn := ?_, cls := ?_, mts := ?_, ats := ?_, pin := ?_ }
        · have := hr.un
          show (A.deeper _).units + 66 < cLine
          omega
        · intro x d hd
          exact cOK_ok X G (h2 (x, d) (lookup_mem hd))
        · intro x hx
          exact PySem.W.mg_none_of X G (h3 x hx)
        · intro f hf
          obtain ⟨e', he', k1, k2, k3⟩ := fns_mem hf
          refine ⟨He.fAd K e'.d.at_, 2 * k, ?_, ?_, hr.mono (Nat.le_succ _)⟩
          · have := He.glo_ok X G (h1 e' he')
            rw [k1] at this
            rw [(T.plain e' he').1]
            unfold Df.at; rw [k1]
            exact this
          · have := at_of e' he' _ hr (cxOf (L2.CX P w) P w K mg base e.i.N e.d.qual e.d.scope (He.fAd K e.d.at_) cdv A outer s H E) rfl rfl rfl rfl rfl
            rw [k2, k3] at this
            exact this
        · intro c hc
          obtain ⟨e', he', k1, k2, k3⟩ := cls_mem hc
          have h4' := h4 c hc
          refine ⟨He.fAd K e'.d.at_, 2 * k, ?_, He.cls_ok h4'.2, ?_, ?_, hr⟩
          · have := He.glo_ok X G (h1 e' he')
            rw [k1] at this
            exact this
          · have := He.mkr_ok h4'.1
            rw [(T.plain e' he').1]
            unfold Df.at; rw [k1]
            exact this
          · have := at_of e' he' _ hr (cxOf (L2.CX P w) P w K mg base e.i.N e.d.qual e.d.scope (He.fAd K e.d.at_) cdv A outer s H E) rfl rfl rfl rfl rfl
            rw [k2, k3] at this
            exact this
        · intro p hp
          obtain ⟨e', he', k1, k2, k3⟩ := mts_mem hp
          have h5' := h5 p hp
          refine ⟨He.fAd K e'.d.at_, 2 * k, ?_, ?_, hr.mono (Nat.le_succ _), He.cls_ok h5'.1⟩
          · have := He.meth_ok h5'.2
            rw [(T.plain e' he').1]
            unfold Df.at; rw [k1]
            exact this
          · have := at_of e' he' _ hr (cxOf (L2.CX P w) P w K mg base e.i.N e.d.qual e.d.scope (He.fAd K e.d.at_) cdv A outer s H E) rfl rfl rfl rfl rfl
            rw [k2, k3] at this
            exact this
        · intro p hp
          exact He.noat_ok (h6 p hp)
        · intro p hp
          obtain ⟨i, v⟩ := p
          exact (List.of_mem_zip hp).1
      · have pin0 : Pin (gl ds cs k (e.fn.io.zip vo)) (L2.start e.i.N vs) := fun p hp => by
          have := hzo p hp
          unfold L2.start
          rw [List.getElem?_append_left (by rw [List.length_map]; exact (List.getElem?_eq_some_iff.mp this).1), List.getElem?_map, this]
          rfl
        have nf0 : NoFz H ⟨hideA H fs, F0⟩ := fun a o u ha => by
          show hideA H fs a ≠ none
          unfold hideA
          split
          · rename_i m
            exact absurd ha ((nfz a m).2 o u)
          · rw [ha]; simp
        refine ⟨⟨hideA H fs, F0⟩, ⟨F0, stF F0⟩, env0 ts e.i.N.length, ⟨nf0, pin0⟩, start_rel hF0 hsb rx nbs cnt nfz, ?_⟩
        have fin : ∀ {σ' : L2.St} {Γ : Env} {F' : FF} {H' : Hp} {fp : List Addr} {os : List Tv.T}, Rel K ⟨hideA H fs, F0⟩ F' H' σ' Γ fp → Pin (gl ds cs k (e.fn.io.zip vo)) σ' → outs Γ e.fn.io = some os → ∃ fo, RpTs K F' H' vo os fo ∧ Tv.T.noBs os = true ∧ (∀ a, (fp ++ fo).count a ≤ 1) ∧ (∀ a ∈ fp ++ fo, F'.f a = none ∧ hideA H fs a = none ∧ H' a ≠ none) := by
          intro σ' Γ F' H' fp os r' hp' ho
          obtain ⟨fo, Γ', q1, q2, q3⟩ := outs_ok gn hlo hp' ho r'
          obtain ⟨f, a1, a2, a3⟩ := q3.env
          exact ⟨fo, q1, q2, q3.cnt, fun a ha => a3 a (.inr ha)⟩
        cases er : evSs (evF (tblP ds) (tblC cs) k) (tblC cs) e.fn.body (env0 ts e.i.N.length) with
        | bad => rw [er] at q; exact q.elim
        | bk Γ => rw [er] at q; exact q.elim
        | ct Γ => rw [er] at q; exact q.elim
        | nx Γ =>
          rw [er] at q
          intro σ' F' H' r' hp' sF
          simp only [toCR] at q
          cases ho : outs Γ e.fn.io with
          | none => rw [ho] at q; exact q.elim
          | some os =>
            rw [ho] at q
            obtain ⟨fo, q1, q2, q3, q4⟩ := fin r' hp' ho
            exact q .non F' H' [] vo fo r'.keep r'.callEnd (.v .non) rfl hvo q1 q2 (by simpa using q3) (by simpa using q4)
        | rt t Γ =>
          rw [er] at q
          intro v σ' F' H' fp r' hp' rt nb sF
          simp only [toCR] at q
          cases ho : outs Γ e.fn.io with
          | none => rw [ho] at q; exact q.elim
          | some os =>
            rw [ho] at q
            dsimp only at q
            rw [if_pos nb] at q
            obtain ⟨fo, q1, q2, q3, q4⟩ := fin r' hp' ho
            exact q v F' H' fp vo fo r'.keep r'.callEnd rt nb hvo q1 q2 q3 q4
        | ex x Γ =>
          rw [er] at q
          intro c d σ' F' H' r' hp' sF hx
          exact hx.elim
end

/-! ### the head's Hook -/
def obsV (p : W.Frag → Bool) (fn : List He.DefD) (K : W.Frag) : He.AlD := (p K && fn.all fun d => d.ok K, fn.map fun d => He.fnW K d.at_)
def obsVG (n : Nat) (p : W.Frag → Bool) (fn : List He.DefD) (g : Addr → Option Obj) : He.AlD := obsV p fn (He.frG g (He.asD g n))
def hookV (n : Nat) (p : W.Frag → Bool) (fn : List He.DefD) : PySem.W.Hook where
  α := He.AlD
  obs := fun s => obsVG n p fn s.heap.get?
  val := fun _ => He.valD fn
  says := fun _ h => ∃ K : PySem.W.Frag, K.In h ∧ obsV p fn K = He.valD fn
  of := fun _ _ e => ⟨_, He.frG_in, e⟩
  keeps := fun _ _ _ ⟨K, hK, c⟩ k => ⟨K, PySem.W.Frag.In.keeps hK k, c⟩
theorem obsV_ok {p : W.Frag → Bool} {fn : List He.DefD} {K : W.Frag} (c : obsV p fn K = He.valD fn) : p K = true ∧ ∀ d ∈ fn, ∃ fd, FunD K d.name d.qual d.params d.body d.scope (d.dvs K) (d.kws K) (He.fAd K d.at_) fd := by
  have c1 := He.ba (show (p K && fn.all fun d => d.ok K) = true from congrArg (fun z : He.AlD => z.1) c)
  refine ⟨c1.1, fun d hd => ?_⟩
  have e : fn.map (fun d => He.fnW K d.at_) = fn.map He.DefD.val := congrArg (fun z : He.AlD => z.2) c
  obtain ⟨i, hi, rfl⟩ := List.mem_iff_getElem.mp hd
  have e2 : (fn.map fun d => He.fnW K d.at_)[i]? = (fn.map He.DefD.val)[i]? := by rw [e]
  rw [List.getElem?_map, List.getElem?_map, List.getElem?_eq_getElem hi] at e2
  exact He.DefD.funD (Option.some.inj e2) (List.all_eq_true.mp c1.2 _ hd)
def obV (n : Nat) (p : W.Frag → Bool) (fn : List He.DefD) (s : PySem.W.SharedT) : He.AlD := obsVG n p fn (HandSHeadRun.getT s)
theorem obV_eq {n : Nat} {p : W.Frag → Bool} {fn : List He.DefD} (s : PySem.W.SharedT) : obV n p fn s = (hookV n p fn).obs s.abs := by
  have e : HandSHeadRun.getT s = s.abs.heap.get? := funext (HandSHeadRun.getT_eq s)
  unfold obV
  rw [e]; rfl
/-- the law's end -/
theorem law_end {l : PySem.W.OpenLaw} {n k : Nat} {q : Program} {loose : List Str} {XP : (Str → Option Value) → Heap → Prop} {d : DefRec} {ds : List Df} {cs : List (String × D)} {as : List (String × String)} {m : Nat} {el : Df} {x : Str}
    (T : Txt ds cs as) (hel : el ∈ ds) (hps : el.i.ps = [x]) (hio : el.fn.io = []) (hk : el.key.2 = none) (hn : l.most = some n) (hn2 : n ≤ sizeLine) (hdf : d.params.defaults = []) (hr : Room (2 * k) callerA) (hd : d.name = Str.ofString el.nm)
    (hlaw : ∀ ns : List Int, ns.length ≤ n → evF (tblP ds) (tblC cs) k el.nm [.v (.scr ns)] = .ret (.v (.bl true)) []) :
    PySem.W.WalkO q loose XP (hookV m (tvB ds cs as) (ds.map Df.d)).says l.row.toRowW d [] (fun f vs => PySem.call f vs) := by
  refine Att.attach_call hn hdf fun w s₀ s₁ mg mb fa o pm cd doc a vs ns G Y ho hd' hcd hmg hobj hints hlen hg => ?_
  obtain ⟨K, KX, c⟩ := Y
  obtain ⟨hB, hfd⟩ := obsV_ok c
  have hF : ∀ e ∈ ds, ∃ fd, FD K e fd := fun e he => hfd e.d (List.mem_map_of_mem he)
  obtain ⟨fd, F⟩ := hF el hel
  obtain ⟨p1, p2, p3, p4⟩ := T.plain el hel
  have e1 : mg d.name = some (.ref (He.fAd K el.d.at_)) := by
    have hB' := hB
    unfold tvB at hB'
    simp only [Bool.and_eq_true, List.all_eq_true, decide_eq_true_eq] at hB'
    have := He.glo_ok KX G.T.g (hB'.1.1.1.1.1 el hel)
    rw [hd, p1]
    unfold Df.nm Df.at
    rw [hk]
    exact this
  have e2 : fa = He.fAd K el.d.at_ := by
    rw [hmg] at e1
    cases e1; rfl
  subst e2
  have F2 : FunD K el.d.name el.d.qual el.d.params el.d.body el.d.scope [] (el.d.kws K) (He.fAd K el.d.at_) fd := by
    have : el.d.dvs K = [] := by unfold He.DefD.dvs; rw [p2]; rfl
    rw [← this]; exact F
  refine law_call (fd := fd) (CX := L2.CX l.prog w) (sp := spM K (gl ds cs k []) el.fn.io el.nm) (x := x) KX G.T.g G.T.b G.T.builtins G.T.nolimit hg hobj hints (Nat.le_trans hlen hn2) hr ?_ ?_ ?_ ?_
  · intro base hb hg'
    rw [← hps]
    exact all_ok T hb hg' hB hF k el hel fd F
  · intro s u
    have := F2.bindsA p4 s [u] (by rw [hps]; rfl)
    rw [hps] at this
    exact this
  · intro H hO hS
    have hS' : RpD K H _ (.scr ns) := .scr hS
    refine ⟨H, [.v (.scr ns)], [], ?_, fun a o e _ => e, .cons (f := []) (.v hS') .nil, rfl, fun a => by simp, fun a ha => by simp at ha, ?_⟩
    · intro a o e; exact .inl (by unfold hideA; simpa using e)
    · rw [show (gl ds cs k []).cl el.nm [.v (.scr ns)] = _ from hlaw ns hlen]
      intro v F' H' fp vo fo _ _ rt _ _ _ _ _ _
      exact (bl_inv rt).1
  · intro H e s' h
    obtain ⟨a, B, H', cls, d, _, _, _, _, _, _, _, z⟩ := h
    exact z
end Tv

namespace Tv
open PySem

/-! ### running small trees by simp: what comes later is not looked at ahead of time -/
theorem R.bind_congr {α β : Type} {r r' : R α} {f : α → Env → R β} (h : r = r') : r.bind f = r'.bind f := by rw [h]
theorem liftE_congr {r r' : R T} {f : T → Env → SR} (h : r = r') : liftE r f = liftE r' f := by rw [h]
theorem liftI_congr {α : Type} {r r' : R α} {f : α → Env → SR} (h : r = r') : liftI r f = liftI r' f := by rw [h]
theorem forL_congr {step : T → Env → SR} {ds ds' : List T} {Γ Γ' : Env} (h : ds = ds') (h2 : Γ = Γ') : forL step ds Γ = forL step ds' Γ' := by rw [h, h2]
theorem lcL_congr {step : T → Env → R (Option T)} {ds ds' : List T} {Γ Γ' : Env} {acc acc' : List T} (h : ds = ds') (h2 : Γ = Γ') (h3 : acc = acc') : lcL step ds Γ acc = lcL step ds' Γ' acc' := by rw [h, h2, h3]
theorem whlL_congr {c : Env → R T} {b : Env → SR} {n n' : Nat} {Γ Γ' : Env} (h : n = n') (h2 : Γ = Γ') : whlL c b n Γ = whlL c b n' Γ' := by rw [h, h2]
def SR.seq (r : SR) (f : Env → SR) : SR := match r with
  | .nx Γ => f Γ
  | r => r
theorem SR.seq_congr {r r' : SR} {f : Env → SR} (h : r = r') : r.seq f = r'.seq f := by rw [h]
def ifS (t : T) (x y : SR) : SR := match t with
  | .v (.bl true) => x
  | .v (.bl false) => y
  | _ => .bad
theorem ifS_congr {t t' : T} {x y : SR} (h : t = t') : ifS t x y = ifS t' x y := by rw [h]
def ifR {α : Type} (t : T) (x y : R α) : R α := match t with
  | .v (.bl true) => x
  | .v (.bl false) => y
  | _ => .bad
theorem ifR_congr {α : Type} {t t' : T} {x y : R α} (h : t = t') : ifR t x y = ifR t' x y := by rw [h]
def getK {α : Type} (o : Option (Option T)) (f : T → R α) : R α := match o with
  | some (some t) => f t
  | _ => .bad
theorem getK_congr {α : Type} {o o' : Option (Option T)} {f : T → R α} (h : o = o') : getK o f = getK o' f := by rw [h]
def optK {α β : Type} (o : Option α) (f : α → R β) : R β := match o with
  | some a => f a
  | none => .bad
theorem optK_congr {α β : Type} {o o' : Option α} {f : α → R β} (h : o = o') : optK o f = optK o' f := by rw [h]
def optS {α : Type} (o : Option α) (f : α → SR) : SR := match o with
  | some a => f a
  | none => .bad
theorem optS_congr {α : Type} {o o' : Option α} {f : α → SR} (h : o = o') : optS o f = optS o' f := by rw [h]
def gdR {α : Type} (b : Bool) (r : R α) : R α := if b then r else .bad
theorem gdR_congr {α : Type} {b b' : Bool} {r : R α} (h : b = b') : gdR b r = gdR b' r := by rw [h]
def gdS (b : Bool) (r : SR) : SR := if b then r else .bad
theorem gdS_congr {b b' : Bool} {r : SR} (h : b = b') : gdS b r = gdS b' r := by rw [h]
def intK {α : Type} (t : T) (f : Int → R α) : R α := match t with
  | .v (.int i) => f i
  | _ => .bad
theorem intK_congr {α : Type} {t t' : T} {f : Int → R α} (h : t = t') : intK t f = intK t' f := by rw [h]
@[simp] theorem bind_ok {α β : Type} (a : α) (Γ : Env) (f : α → Env → R β) : (R.ok a Γ).bind f = f a Γ := rfl
@[simp] theorem bind_bad {α β : Type} (f : α → Env → R β) : (R.bad : R α).bind f = .bad := rfl
@[simp] theorem bind_ex {α β : Type} (x : Exn) (Γ : Env) (f : α → Env → R β) : (R.ex x Γ : R α).bind f = .ex x Γ := rfl
@[simp] theorem op_some {α : Type} (a : α) (Γ : Env) : R.op (some a) Γ = .ok a Γ := rfl
@[simp] theorem op_none {α : Type} (Γ : Env) : R.op (none : Option α) Γ = .bad := rfl
@[simp] theorem liftE_ok (a : T) (Γ : Env) (f : T → Env → SR) : liftE (.ok a Γ) f = f a Γ := rfl
@[simp] theorem liftI_ok {α : Type} (a : α) (Γ : Env) (f : α → Env → SR) : liftI (.ok a Γ) f = f a Γ := rfl
@[simp] theorem liftE_ex (x : Exn) (Γ : Env) (f : T → Env → SR) : liftE (.ex x Γ) f = .ex x Γ := rfl
@[simp] theorem putO_some (Γ : Env) (i : Nat) (t : T) : putO Γ i (some t) = .nx (Γ.set i (some t)) := rfl
@[simp] theorem seq_nx (Γ : Env) (f : Env → SR) : (SR.nx Γ).seq f = f Γ := rfl
@[simp] theorem seq_rt (t : T) (Γ : Env) (f : Env → SR) : (SR.rt t Γ).seq f = .rt t Γ := rfl
@[simp] theorem seq_ct (Γ : Env) (f : Env → SR) : (SR.ct Γ).seq f = .ct Γ := rfl
@[simp] theorem seq_bk (Γ : Env) (f : Env → SR) : (SR.bk Γ).seq f = .bk Γ := rfl
@[simp] theorem seq_ex (x : Exn) (Γ : Env) (f : Env → SR) : (SR.ex x Γ).seq f = .ex x Γ := rfl
@[simp] theorem ifS_t (x y : SR) : ifS (.v (.bl true)) x y = x := rfl
@[simp] theorem ifS_f (x y : SR) : ifS (.v (.bl false)) x y = y := rfl
@[simp] theorem ifR_t {α : Type} (x y : R α) : ifR (.v (.bl true)) x y = x := rfl
@[simp] theorem ifR_f {α : Type} (x y : R α) : ifR (.v (.bl false)) x y = y := rfl
@[simp] theorem getK_s {α : Type} (t : T) (f : T → R α) : getK (some (some t)) f = f t := rfl
@[simp] theorem callT_ret (ts : List T) (t : T) (Γ : Env) : callT ts (.ret t []) Γ = gdR (T.noBs ts || t.cl) (.ok t Γ) := rfl
@[simp] theorem newT_ret (ts : List T) (t : T) (Γ : Env) : newT ts (.ret (.v .non) [t]) Γ = gdR (T.noBs ts || t.cl) (.ok t Γ) := rfl
@[simp] theorem optK_s {α β : Type} (a : α) (f : α → R β) : optK (some a) f = f a := rfl
@[simp] theorem optS_s {α : Type} (a : α) (f : α → SR) : optS (some a) f = f a := rfl
@[simp] theorem gdR_t {α : Type} (r : R α) : gdR true r = r := rfl
@[simp] theorem gdS_t (r : SR) : gdS true r = r := rfl
@[simp] theorem intK_i {α : Type} (i : Int) (f : Int → R α) : intK (.v (.int i)) f = f i := rfl
section
variable {cl : Calls} {con : String → Option D} {Γ : Env} {a b c e : E} {as : Es} {i : Nat}
@[simp] theorem e_var : evE cl con (.var i) Γ = getK (Γ[i]?) fun t => .ok (bor t) Γ := rfl
@[simp] theorem e_frz : evE cl con (.frz i) Γ = getK (Γ[i]?) fun t => if isF t then .ok t Γ else optK t.fz fun u => .ok u (Γ.set i (some u)) := by
  simp only [evE]
  cases h : Γ[i]? with
  | none => rfl
  | some o => cases o with
    | none => rfl
    | some t =>
      show (if isF t then _ else _) = (if isF t then _ else _)
      cases t.fz <;> rfl
@[simp] theorem e_mov : evE cl con (.mov i) Γ = getK (Γ[i]?) fun t => .ok t (Γ.set i none) := rfl
@[simp] theorem e_int {j : Int} : evE cl con (.int j) Γ = .ok (.v (.int j)) Γ := rfl
@[simp] theorem e_str {s : List Nat} : evE cl con (.str s) Γ = .ok (.v (.str s)) Γ := rfl
@[simp] theorem e_non : evE cl con .non Γ = .ok (.v .non) Γ := rfl
@[simp] theorem e_bl {k : Bool} : evE cl con (.bl k) Γ = .ok (.v (.bl k)) Γ := rfl
@[simp] theorem e_glb {x : String} : evE cl con (.glb x) Γ = optK (con x) fun d => .ok (.v d) Γ := by simp only [evE]; cases con x <;> rfl
@[simp] theorem e_bin {o : BOp} : evE cl con (.bin o a b) Γ = (evE cl con a Γ).bind fun x Γ1 => (evE cl con b Γ1).bind fun y Γ2 => R.op (binT o x y) Γ2 := rfl
@[simp] theorem e_neg : evE cl con (.neg a) Γ = (evE cl con a Γ).bind fun x Γ1 => intK x fun i => .ok (.v (.int (-i))) Γ1 := rfl
def notK (t : T) (Γ : Env) : R T := match t with
  | .v (.bl b) => .ok (.v (.bl (!b))) Γ
  | _ => .bad
@[simp] theorem notK_b {k : Bool} : notK (.v (.bl k)) Γ = .ok (.v (.bl (!k))) Γ := rfl
@[simp] theorem e_not : evE cl con (.not a) Γ = (evE cl con a Γ).bind fun x Γ1 => notK x Γ1 := rfl
@[simp] theorem e_cmp {o : COp} : evE cl con (.cmp o a b) Γ = (evE cl con a Γ).bind fun x Γ1 => (evE cl con b Γ1).bind fun y Γ2 => R.op ((cmpT o x y).map fun c => .v (.bl c)) Γ2 := rfl
@[simp] theorem e_isN : evE cl con (.isN a) Γ = (evE cl con a Γ).bind fun x Γ1 => .ok (.v (.bl x.er.isNon)) Γ1 := rfl
@[simp] theorem e_notN : evE cl con (.notN a) Γ = (evE cl con a Γ).bind fun x Γ1 => .ok (.v (.bl (!x.er.isNon))) Γ1 := rfl
@[simp] theorem e_cmp2 {o p : COp} : evE cl con (.cmp2 o p a b c) Γ = (evE cl con a Γ).bind fun x Γ1 => (evE cl con b Γ1).bind fun y Γ2 => optK (cmpT o x y) fun k => ifR (.v (.bl k)) ((evE cl con c Γ2).bind fun z Γ3 => R.op ((cmpT p y z).map fun c => .v (.bl c)) Γ3) (.ok (.v (.bl false)) Γ2) := by
  simp only [evE]
  refine congrArg _ (funext fun x => funext fun Γ1 => congrArg _ (funext fun y => funext fun Γ2 => ?_))
  cases cmpT o x y with
  | none => rfl
  | some k => cases k <;> rfl
@[simp] theorem e_and : evE cl con (.and a b) Γ = (evE cl con a Γ).bind fun x Γ1 => ifR x (evE cl con b Γ1) (.ok (.v (.bl false)) Γ1) := rfl
@[simp] theorem e_or : evE cl con (.or a b) Γ = (evE cl con a Γ).bind fun x Γ1 => ifR x (.ok (.v (.bl true)) Γ1) (evE cl con b Γ1) := by
  simp only [evE]
  refine congrArg _ (funext fun x => funext fun Γ1 => ?_)
  cases x with
  | v d => cases d with
    | bl b => cases b <;> rfl
    | _ => rfl
  | _ => rfl
@[simp] theorem e_call {f : String} : evE cl con (.call f as) Γ = (evEs cl con as Γ).bind fun ts Γ1 => callT ts (cl f ((T.ers ts).map .v)) Γ1 := rfl
@[simp] theorem e_new {f : String} : evE cl con (.new f as) Γ = (evEs cl con as Γ).bind fun ts Γ1 => newT ts (cl (f ++ ".__init__") (.ob f [] [] :: (T.ers ts).map .v)) Γ1 := rfl
@[simp] theorem e_cme {f m : String} : evE cl con (.cme f m a as) Γ = (evE cl con a Γ).bind fun x Γ1 => optK (objQ x) fun p => gdR (p.1 == f && !(p.2.1.contains m)) ((evEs cl con as Γ1).bind fun ts Γ2 => callT (x :: ts) (cl (f ++ "." ++ m) ((x.er :: T.ers ts).map .v)) Γ2) := by
  simp only [evE]
  refine congrArg _ (funext fun x => funext fun Γ1 => ?_)
  cases objQ x <;> rfl
@[simp] theorem e_fld {f : String} : evE cl con (.fld a f) Γ = (evE cl con a Γ).bind fun x Γ1 => R.op (fldT x f) Γ1 := rfl
@[simp] theorem e_dix : evE cl con (.dix a b) Γ = (evE cl con a Γ).bind fun x Γ1 => (evE cl con b Γ1).bind fun y Γ2 => R.op (dixT x y) Γ2 := rfl
@[simp] theorem e_din {n : Bool} : evE cl con (.din n a b) Γ = (evE cl con a Γ).bind fun y Γ1 => (evE cl con b Γ1).bind fun x Γ2 => R.op ((dinT x y).map fun c => .v (.bl (if n then !c else c))) Γ2 := rfl
@[simp] theorem e_lrn : evE cl con (.lrn a) Γ = (evE cl con a Γ).bind fun x Γ1 => intK x fun j => gdR (small62 j && decide (j ≤ LIM)) (.ok (.l ((List.range j.toNat).map fun (i : Nat) => T.v (.int (i : Int)))) Γ1) := rfl
@[simp] theorem e_blt {f : BF} : evE cl con (.blt f as) Γ = (evEs cl con as Γ).bind fun ts Γ1 => R.op (bltT f ts) Γ1 := rfl
@[simp] theorem e_meth {m : MF} : evE cl con (.meth m a b) Γ = (evE cl con a Γ).bind fun x Γ1 => gdR (mTy m x) ((evE cl con b Γ1).bind fun y Γ2 => R.op (methT m x y) Γ2) := rfl
@[simp] theorem e_isi {t : Ty} : evE cl con (.isi a t) Γ = (evE cl con a Γ).bind fun x Γ1 => gdR x.er.tyOk (.ok (.v (.bl (x.er.isi t))) Γ1) := rfl
@[simp] theorem e_ix : evE cl con (.ix a b) Γ = (evE cl con a Γ).bind fun x Γ1 => (evE cl con b Γ1).bind fun y Γ2 => R.op (ixT x y) Γ2 := rfl
@[simp] theorem e_sl {lo hi : OE} : evE cl con (.sl a lo hi) Γ = (evE cl con a Γ).bind fun x Γ1 => (evO cl con lo Γ1).bind fun l Γ2 => (evO cl con hi Γ2).bind fun h Γ3 => R.op (slT x l h) Γ3 := rfl
@[simp] theorem e_rev : evE cl con (.rev a) Γ = (evE cl con a Γ).bind fun x Γ1 => R.op (revT x) Γ1 := rfl
@[simp] theorem e_lst : evE cl con (.lst as) Γ = (evEs cl con as Γ).bind fun ts Γ1 => gdR (decide (ts.length ≤ LIM)) (.ok (.l ts) Γ1) := rfl
@[simp] theorem e_tup : evE cl con (.tup as) Γ = (evEs cl con as Γ).bind fun ts Γ1 => gdR (decide (ts.length ≤ LIM)) (.ok (mkTp ts) Γ1) := rfl
@[simp] theorem e_dic0 {t : Bool} : evE cl con (.dic0 t) Γ = .ok (.dc t [] []) Γ := rfl
/-- a comprehension's turn -/
def lcS (cl : Calls) (con : String → Option D) (own : List Nat) (tg : Tg) (c : OE) (e : E) (d : T) (Γ2 : Env) : R (Option T) := optK (bindTg tg d Γ2) fun Γ3 => (evC cl con c Γ3).bind fun b Γ4 => ifR (.v (.bl b)) ((evE cl con e Γ4).bind fun t Γ5 => gdR t.noB (.ok (some t) (wipeE Γ5 own))) (.ok none (wipeE Γ4 own))
@[simp] theorem e_lc {own : List Nat} {tg : Tg} {it : I} {m : OE} : evE cl con (.lc own tg it m e) Γ = (evI cl con it Γ).bind fun ds Γ1 => gdR (decide (ds.length ≤ LIM)) ((lcL (lcS cl con own tg m e) ds (wipeE Γ1 own) []).bind fun ts Γ6 => .ok (.l ts) (restE Γ1 Γ6 own)) := by
  have key : lcS cl con own tg m e = fun d Γ2 => match bindTg tg d Γ2 with
      | none => .bad
      | some Γ3 => (evC cl con m Γ3).bind fun b Γ4 => match b with
        | false => .ok none (wipeE Γ4 own)
        | true => (evE cl con e Γ4).bind fun t Γ5 => if t.noB then .ok (some t) (wipeE Γ5 own) else .bad := by
    funext d Γ2
    unfold lcS
    cases bindTg tg d Γ2 with
    | none => rfl
    | some Γ3 =>
      show R.bind _ _ = R.bind _ _
      refine congrArg _ (funext fun b => funext fun Γ4 => ?_)
      cases b <;> rfl
  simp only [evE]
  refine congrArg _ (funext fun ds => funext fun Γ1 => ?_)
  unfold gdR
  rw [key]
  by_cases h : ds.length ≤ LIM
  · rw [if_pos h, if_pos (decide_eq_true h)]
    try rfl
  · rw [if_neg h, if_neg (by simpa using h)]
@[simp] theorem c_no : evC cl con .no Γ = .ok true Γ := rfl
def boolK (t : T) (Γ : Env) : R Bool := match t with
  | .v (.bl b) => .ok b Γ
  | _ => .bad
@[simp] theorem boolK_b {k : Bool} : boolK (.v (.bl k)) Γ = .ok k Γ := rfl
@[simp] theorem c_so : evC cl con (.so e) Γ = (evE cl con e Γ).bind fun x Γ1 => boolK x Γ1 := rfl
@[simp] theorem o_no : evO cl con .no Γ = .ok none Γ := rfl
@[simp] theorem o_so : evO cl con (.so e) Γ = (evE cl con e Γ).bind fun x Γ1 => intK x fun i => .ok (some i) Γ1 := rfl
@[simp] theorem es_nil : evEs cl con .nil Γ = .ok [] Γ := rfl
@[simp] theorem es_cons : evEs cl con (.cons e as) Γ = (evE cl con e Γ).bind fun t Γ1 => (evEs cl con as Γ1).bind fun ts Γ2 => .ok (t :: ts) Γ2 := rfl
@[simp] theorem i_seq : evI cl con (.seq e) Γ = (evE cl con e Γ).bind fun t Γ1 => R.op (t.fz.bind itemsT) Γ1 := rfl
@[simp] theorem i_rng1 : evI cl con (.rng1 a) Γ = (evE cl con a Γ).bind fun x Γ1 => intK x fun j => gdR (small62 j && decide (j ≤ LIM)) (.ok (rangeT 0 j.toNat 1) Γ1) := rfl
@[simp] theorem i_rng2 : evI cl con (.rng2 a b) Γ = (evE cl con a Γ).bind fun x Γ1 => (evE cl con b Γ1).bind fun y Γ2 => intK x fun i => intK y fun j => gdR (small62 i && small62 j && decide (j - i ≤ LIM)) (.ok (rangeT i (j - i).toNat 1) Γ2) := by
  simp only [evI]
  refine congrArg _ (funext fun x => funext fun Γ1 => congrArg _ (funext fun y => funext fun Γ2 => ?_))
  cases x with
  | v d => cases d <;> first | rfl | (cases y with
    | v d' => cases d' <;> rfl
    | _ => rfl)
  | _ => rfl
@[simp] theorem i_rng3 : evI cl con (.rng3 a b c) Γ = (evE cl con a Γ).bind fun x Γ1 => (evE cl con b Γ1).bind fun y Γ2 => (evE cl con c Γ2).bind fun z Γ3 => intK x fun i => intK y fun j => intK z fun k => gdR (Builtin.Range.small i j k && decide (k ≠ 0 ∧ -1073741824 < k ∧ k < 1073741824) && decide (rgN i j k ≤ LIM)) (.ok (rangeT i (rgN i j k) k) Γ3) := by
  simp only [evI]
  refine congrArg _ (funext fun x => funext fun Γ1 => congrArg _ (funext fun y => funext fun Γ2 => congrArg _ (funext fun z => funext fun Γ3 => ?_)))
  cases x with
  | v d => cases d <;> first | rfl | (cases y with
    | v d' => cases d' <;> first | rfl | (cases z with
      | v d'' => cases d'' <;> rfl
      | _ => rfl)
    | _ => rfl)
  | _ => rfl
@[simp] theorem i_enum : evI cl con (.enum a) Γ = (evE cl con a Γ).bind fun t Γ1 => optK (t.fz.bind listT) fun ds => .ok (ds.zipIdx.map fun p => .tp [.v (.int p.2), p.1]) Γ1 := by
  simp only [evI]
  refine congrArg _ (funext fun x => funext fun Γ1 => ?_)
  cases x.fz.bind listT <;> rfl
@[simp] theorem i_zip : evI cl con (.zip a b) Γ = (evE cl con a Γ).bind fun x Γ1 => (evE cl con b Γ1).bind fun y Γ2 => optK (x.fz.bind listT) fun ds => optK (y.fz.bind listT) fun es => .ok ((ds.zip es).map fun p => .tp [p.1, p.2]) Γ2 := by
  simp only [evI]
  refine congrArg _ (funext fun x => funext fun Γ1 => congrArg _ (funext fun y => funext fun Γ2 => ?_))
  cases x.fz.bind listT with
  | none => rfl
  | some ds => cases y.fz.bind listT <;> rfl
@[simp] theorem i_rvd : evI cl con (.rvd a) Γ = (evE cl con a Γ).bind fun t Γ1 => optK (t.fz.bind listT) fun ds => .ok ds.reverse Γ1 := by
  simp only [evI]
  refine congrArg _ (funext fun x => funext fun Γ1 => ?_)
  cases x.fz.bind listT <;> rfl
variable {x y : Ss} {s : S}
@[simp] theorem s_set : evS cl con (.set i e) Γ = liftE (evE cl con e Γ) fun t Γ1 => gdS (t.noB && decide (i < Γ1.length)) (.nx (Γ1.set i (some t))) := rfl
@[simp] theorem s_setF : evS cl con (.setF i e) Γ = liftE (evE cl con e Γ) fun t Γ1 => optS t.fz fun d => gdS (decide (i < Γ1.length)) (.nx (Γ1.set i (some d))) := by
  simp only [evS]
  refine congrArg _ (funext fun x => funext fun Γ1 => ?_)
  cases x.fz with
  | none => rfl
  | some d =>
    by_cases h : i < Γ1.length
    · simp [h, optS, gdS]
    · simp [h, optS, gdS]
@[simp] theorem s_setT {is : List Nat} : evS cl con (.setT is e) Γ = liftE (evE cl con e Γ) fun t Γ1 => optS (seqT t) fun ds => gdS (T.noBs ds) (optS (setSlots Γ1 is ds) fun Γ2 => .nx Γ2) := by
  simp only [evS]
  refine congrArg _ (funext fun x => funext fun Γ1 => ?_)
  cases seqT x with
  | none => rfl
  | some ds =>
    show (if T.noBs ds = true then _ else _) = gdS _ _
    unfold gdS
    split
    · cases h : setSlots Γ1 is ds <;> simp [optS, h]
    · rfl
theorem getΓ_nil (Γ : Env) (i : Nat) : getΓ Γ (i, []) = slotT Γ i := by
  unfold getΓ slotT
  dsimp only
  cases h : Γ[i]? with
  | none => rfl
  | some o => cases o with
    | none => rfl
    | some t => cases t <;> rfl
theorem if_cg {α : Type} {c : Prop} [Decidable c] {x x' y : α} (h : x = x') : (if c then x else y) = (if c then x' else y) := by rw [h]
theorem putΓ_nil (Γ : Env) (i : Nat) (o : Option T) (h : o ≠ none → slotT Γ i ≠ none) : putΓ Γ (i, []) o = putO Γ i o := by
  cases o with
  | none => rfl
  | some u =>
    have := h (by simp)
    unfold slotT at this
    unfold putΓ putO setΓ
    dsimp only
    split
    · rename_i t e
      cases t <;> rfl
    · rename_i e
      exfalso
      apply this
      split
      · rename_i t e2; exact absurd e2 (e t)
      · rfl
@[simp] theorem s_sto_nm : evS cl con (.sto (.nm i) a e) Γ = liftE (evE cl con e Γ) fun t Γ1 => gdS (isLs Γ1 (i, [])) (liftE (evE cl con a Γ1) fun k Γ3 => putO Γ3 i (stoT (slotT Γ3 i) k t)) := by
  simp only [evS, evPl]
  refine congrArg _ (funext fun t => funext fun Γ1 => ?_)
  cases h : Γ1[i]? with
  | none => simp [isLs, getΓ, h, gdS, liftI]
  | some o => cases o with
    | none => simp [isLs, getΓ, h, gdS, liftI]
    | some u =>
      simp only [liftI_ok]
      unfold gdS
      refine if_cg (congrArg _ (funext fun k => funext fun Γ3 => ?_))
      rw [getΓ_nil, putΓ_nil]
      intro h e2
      apply h
      rw [e2]; rfl
@[simp] theorem s_dsto_nm : evS cl con (.dsto (.nm i) a e) Γ = liftE (evE cl con e Γ) fun t Γ1 => gdS (isDs Γ1 (i, [])) (liftE (evE cl con a Γ1) fun k Γ3 => putO Γ3 i (dstoT (slotT Γ3 i) k t)) := by
  simp only [evS, evPl]
  refine congrArg _ (funext fun t => funext fun Γ1 => ?_)
  cases h : Γ1[i]? with
  | none => simp [isDs, getΓ, h, gdS, liftI]
  | some o => cases o with
    | none => simp [isDs, getΓ, h, gdS, liftI]
    | some u =>
      simp only [liftI_ok]
      unfold gdS
      refine if_cg (congrArg _ (funext fun k => funext fun Γ3 => ?_))
      rw [getΓ_nil, putΓ_nil]
      intro h e2
      apply h
      rw [e2]; rfl
@[simp] theorem s_mut_nm {m : MO} : evS cl con (.mut m (.nm i) as) Γ = gdS (isLs Γ (i, [])) (liftI (evEs cl con as Γ) fun ts Γ2 => putO Γ2 i (mutT m (slotT Γ2 i) ts)) := by
  simp only [evS, evPl]
  cases h : Γ[i]? with
  | none => simp [isLs, getΓ, h, gdS, liftI]
  | some o => cases o with
    | none => simp [isLs, getΓ, h, gdS, liftI]
    | some u =>
      simp only [liftI_ok]
      unfold gdS
      refine if_cg (congrArg _ (funext fun k => funext fun Γ3 => ?_))
      rw [getΓ_nil, putΓ_nil]
      intro h e2
      apply h
      rw [e2]; cases m <;> rfl
@[simp] theorem s_stf_nm {c f : String} : evS cl con (.stf c (.nm i) f e) Γ = liftE (evE cl con e Γ) fun t Γ2 => putO Γ2 i (stfT c (slotT Γ2 i) f t) := by
  simp only [evS, evPl]
  refine congrArg _ (funext fun t => funext fun Γ1 => ?_)
  cases h : Γ1[i]? with
  | none => simp [slotT, stfT, putO, h, liftI]
  | some o => cases o with
    | none => simp [slotT, stfT, putO, h, liftI]
    | some u =>
      simp only [liftI_ok]
      rw [getΓ_nil, putΓ_nil]
      intro h e2
      apply h
      rw [e2]; rfl
def slotJ (o : Option (Option T)) : Option T := match o with
  | some (some t) => some t
  | _ => none
@[simp] theorem slotJ_s (t : T) : slotJ (some (some t)) = some t := rfl
@[simp] theorem slotT_eq (Γ : Env) (i : Nat) : slotT Γ i = slotJ (Γ[i]?) := by
  unfold slotT slotJ
  cases h : Γ[i]? with
  | none => rfl
  | some o => cases o <;> rfl
def isLJ (o : Option T) : Bool := match o with
  | some (.l _) => true
  | _ => false
@[simp] theorem isLJ_s (ts : List T) : isLJ (some (.l ts)) = true := rfl
@[simp] theorem isLs_eq (Γ : Env) (i : Nat) : isLs Γ (i, []) = isLJ (slotJ (Γ[i]?)) := by
  unfold isLs
  rw [getΓ_nil, slotT_eq]
  rfl
def isDJ (o : Option T) : Bool := match o with
  | some (.dc _ _ _) => true
  | _ => false
@[simp] theorem isDJ_s (t : Bool) (ks : List D) (ts : List T) : isDJ (some (.dc t ks ts)) = true := rfl
@[simp] theorem isDs_eq (Γ : Env) (i : Nat) : isDs Γ (i, []) = isDJ (slotJ (Γ[i]?)) := by
  unfold isDs
  rw [getΓ_nil, slotT_eq]
  rfl
def augK (o : Option (Option T)) (f : Int → SR) : SR := match o with
  | some (some (.v (.int x))) => f x
  | _ => .bad
theorem augK_congr {o o' : Option (Option T)} {f : Int → SR} (h : o = o') : augK o f = augK o' f := by rw [h]
@[simp] theorem augK_i {j : Int} {f : Int → SR} : augK (some (some (.v (.int j)))) f = f j := rfl
@[simp] theorem s_augV {o : BOp} : evS cl con (.augV i o e) Γ = augK (Γ[i]?) fun x => liftE (evE cl con e Γ) fun t Γ1 => putO Γ1 i ((augI o x t).map fun z => .v (.int z)) := rfl
@[simp] theorem s_augS {o : BOp} : evS cl con (.augS i o a e) Γ = gdS (isLs Γ (i, [])) (liftE (evE cl con a Γ) fun k Γ1 => optS (getI (slotT Γ1 i) k) fun x => liftE (evE cl con e Γ1) fun t Γ2 => putO Γ2 i (augT o (slotT Γ2 i) k x t)) := by
  simp only [evS]
  unfold gdS
  refine if_cg (congrArg _ (funext fun k => funext fun Γ1 => ?_))
  cases getI (slotT Γ1 i) k <;> rfl
@[simp] theorem s_ex : evS cl con (.ex e) Γ = liftE (evE cl con e Γ) fun _ Γ1 => .nx Γ1 := rfl
@[simp] theorem s_ife : evS cl con (.ife e x y) Γ = liftE (evE cl con e Γ) fun t Γ1 => ifS t (evSs cl con x Γ1) (evSs cl con y Γ1) := rfl
/-- a loop's turn -/
def forS (cl : Calls) (con : String → Option D) (tg : Tg) (m : Ss) (d : T) (Γ2 : Env) : SR := optS (bindTg tg d Γ2) fun Γ3 => evSs cl con m Γ3
@[simp] theorem s_for {tg : Tg} {it : I} : evS cl con (.for tg it x) Γ = liftI (evI cl con it Γ) fun ds Γ1 => forL (forS cl con tg x) ds Γ1 := by
  have key : forS cl con tg x = fun d Γ2 => match bindTg tg d Γ2 with
      | some Γ3 => evSs cl con x Γ3
      | none => .bad := by
    funext d Γ2
    unfold forS
    cases bindTg tg d Γ2 <;> rfl
  simp only [evS]
  rw [key]
  try rfl
@[simp] theorem s_whl {n : Nat} : evS cl con (.whl n e x) Γ = whlL (evE cl con e) (evSs cl con x) n Γ := rfl
@[simp] theorem s_ret {io : List Nat} : evS cl con (.ret io e) Γ = liftE (evE cl con e Γ) fun t Γ1 => gdS t.noB (.rt t (keepIo io Γ1)) := rfl
@[simp] theorem s_retN {io : List Nat} : evS cl con (.retN io) Γ = .rt (.v .non) (keepIo io Γ) := rfl
@[simp] theorem s_pass : evS cl con .pass Γ = .nx Γ := rfl
@[simp] theorem s_brk : evS cl con .brk Γ = .bk Γ := rfl
@[simp] theorem s_cnt : evS cl con .cnt Γ = .ct Γ := rfl
@[simp] theorem ss_nil : evSs cl con .nil Γ = .nx Γ := rfl
@[simp] theorem ss_cons : evSs cl con (.cons s x) Γ = (evS cl con s Γ).seq fun Γ1 => evSs cl con x Γ1 := by
  simp only [evSs]
  cases evS cl con s Γ <;> rfl
@[simp] theorem ss_kill {is : List Nat} : evSs cl con (.kill is x) Γ = evSs cl con x (wipeE Γ is) := rfl
end
theorem evF_at {P : String → Option Fn} {con : String → Option D} {k : Nat} {f : String} {ts : List T} {fn : Fn} (h : P f = some fn) (hl : ts.length = fn.np) (ha : argOk fn.io 0 ts = true) : evF P con (k + 1) f ts = toCR fn.io (evSs (evF P con k) con fn.body (env0 ts fn.ns)) := by
  simp only [evF, h]; rw [if_pos ⟨hl, ha⟩]
theorem toCR_rt {t : T} {Γ : Env} (h : t.noB = true) : toCR [] (.rt t Γ) = .ret t [] := by simp [toCR, outs, h]
@[simp] theorem toCR_v {d : D} {Γ : Env} : toCR [] (.rt (.v d) Γ) = .ret (.v d) [] := rfl
@[simp] theorem toCR_w {d : D} {Γ : Env} : toCR [] (.rt (.w d) Γ) = .ret (.w d) [] := rfl
@[simp] theorem toCR_l {ts : List T} {Γ : Env} : toCR [] (.rt (.l ts) Γ) = if T.noBs ts then .ret (.l ts) [] else .bad := rfl
@[simp] theorem toCR_tp {ts : List T} {Γ : Env} : toCR [] (.rt (.tp ts) Γ) = if T.noBs ts then .ret (.tp ts) [] else .bad := rfl
@[simp] theorem toCR_nx {Γ : Env} : toCR [] (.nx Γ) = .ret (.v .non) [] := rfl
@[simp] theorem toCR_ex {x : Exn} {Γ : Env} : toCR [] (.ex x Γ) = .ex x [] := rfl

/-! ### loops -/
def turnOk (I : Env → Prop) (R : SR → Prop) : SR → Prop
  | .nx Γ' => I Γ'
  | .ct Γ' => I Γ'
  | .bk Γ' => R (.nx Γ')
  | .bad => False
  | r => R r
theorem forL_post {step : T → Env → SR} {R : SR → Prop} (I : Nat → Env → Prop) : ∀ {ds : List T} {Γ : Env} (n : Nat), I n Γ →
    (∀ i d Γ, ds[i]? = some d → I (n + i) Γ → turnOk (I (n + i + 1)) R (step d Γ)) → (∀ Γ, I (n + ds.length) Γ → R (.nx Γ)) → R (forL step ds Γ)
  | [], Γ, n, h0, _, hd => hd Γ h0
  | d :: ds, Γ, n, h0, hs, hd => by
    have q := hs 0 d Γ rfl h0
    have ih := fun (Γ' : Env) (h : I (n + 0 + 1) Γ') => forL_post (step := step) (R := R) I (ds := ds) (Γ := Γ') (n + 1) h (fun i d' Γ2 hi hI => by
      have := hs (i + 1) d' Γ2 (by simpa using hi) (by rw [show n + (i + 1) = n + 1 + i by omega]; exact hI)
      rw [show n + (i + 1) + 1 = n + 1 + i + 1 by omega] at this
      exact this) (fun Γ2 hI => hd Γ2 (by rw [List.length_cons, show n + (ds.length + 1) = n + 1 + ds.length by omega]; exact hI))
    unfold forL
    cases e : step d Γ with
    | nx Γ' => rw [e] at q; exact ih Γ' q
    | ct Γ' => rw [e] at q; exact ih Γ' q
    | bk Γ' => rw [e] at q; exact q
    | bad => rw [e] at q; exact q.elim
    | rt t Γ' => rw [e] at q; exact q
    | ex x Γ' => rw [e] at q; exact q
theorem forL_go {step : T → Env → SR} {R : SR → Prop} {ds : List T} {Γ : Env} (I : Nat → Env → Prop) (h0 : I 0 Γ)
    (hs : ∀ i d Γ, ds[i]? = some d → I i Γ → turnOk (I (i + 1)) R (step d Γ)) (hd : ∀ Γ, I ds.length Γ → R (.nx Γ)) : R (forL step ds Γ) :=
  forL_post I 0 h0 (fun i d Γ hi hI => by simpa using hs i d Γ hi (by simpa using hI)) (fun Γ hI => hd Γ (by simpa using hI))
theorem lcL_map {step : T → Env → R (Option T)} {Γ : Env} {g : T → Option T} : ∀ {ds : List T} {acc : List T}, (∀ d ∈ ds, step d Γ = .ok (g d) Γ) → lcL step ds Γ acc = .ok (acc ++ ds.filterMap g) Γ
  | [], acc, _ => by simp [lcL]
  | d :: ds, acc, h => by
    have h1 := h d (by simp)
    have ih := fun acc => lcL_map (acc := acc) (step := step) (Γ := Γ) (g := g) (ds := ds) fun e he => h e (by simp [he])
    unfold lcL
    rw [h1]
    cases e : g d with
    | none => simp [ih, e]
    | some t => simp [ih, e]
theorem lcL_pure {step : T → Env → R (Option T)} {Γ : Env} {g : T → T} {ds : List T} (h : ∀ d ∈ ds, step d Γ = .ok (some (g d)) Γ) : lcL step ds Γ [] = .ok (ds.map g) Γ := by
  rw [lcL_map (g := fun d => some (g d)) h]
  simp
theorem rangeT0 (n : Nat) : rangeT 0 n 1 = (List.range n).map fun (i : Nat) => T.v (.int (i : Int)) := by
  unfold rangeT
  apply List.map_congr_left
  intro i _
  congr 2; omega
theorem rangeTlo (lo : Int) (n : Nat) : rangeT lo n 1 = (List.range n).map fun (i : Nat) => T.v (.int (lo + (i : Int))) := by
  unfold rangeT
  apply List.map_congr_left
  intro i _
  congr 2; omega
theorem lcL_filtM {α : Type} {step : T → Env → R (Option T)} {Γ : Env} {f : α → T} {p : α → Bool} {g : α → T} {xs : List α} (h : ∀ x ∈ xs, step (f x) Γ = .ok (if p x then some (g x) else none) Γ) : lcL step (xs.map f) Γ [] = .ok ((xs.filter p).map g) Γ := by
  have key : ∀ (xs : List α) (acc : List T), (∀ x ∈ xs, step (f x) Γ = .ok (if p x then some (g x) else none) Γ) → lcL step (xs.map f) Γ acc = .ok (acc ++ (xs.filter p).map g) Γ := by
    intro xs
    induction xs with
    | nil => intro acc _; simp [lcL]
    | cons x xs ih =>
      intro acc h
      rw [List.map_cons]
      unfold lcL
      rw [h x (by simp)]
      cases hp : p x with
      | false => simp only [Bool.false_eq_true, if_false]; rw [ih _ fun y hy => h y (by simp [hy])]; simp [hp]
      | true => simp only [if_true]; rw [ih _ fun y hy => h y (by simp [hy])]; simp [hp]
  simpa using key xs [] h
theorem lcL_mapM {α : Type} {step : T → Env → R (Option T)} {Γ : Env} {f : α → T} {g : α → T} {xs : List α} (h : ∀ x ∈ xs, step (f x) Γ = .ok (some (g x)) Γ) : lcL step (xs.map f) Γ [] = .ok (xs.map g) Γ := by
  have key : ∀ (xs : List α) (acc : List T), (∀ x ∈ xs, step (f x) Γ = .ok (some (g x)) Γ) → lcL step (xs.map f) Γ acc = .ok (acc ++ xs.map g) Γ := by
    intro xs
    induction xs with
    | nil => intro acc _; simp [lcL]
    | cons x xs ih =>
      intro acc h
      rw [List.map_cons]
      unfold lcL
      rw [h x (by simp)]
      dsimp only
      rw [ih _ fun y hy => h y (by simp [hy])]
      simp
  simpa using key xs [] h
@[simp] theorem wipeE_nil (Γ : Env) : wipeE Γ [] = Γ := rfl
@[simp] theorem wipeE_cons (Γ : Env) (v : Nat) (vs : List Nat) : wipeE Γ (v :: vs) = (wipeE Γ vs).set v none := rfl
@[simp] theorem restE_nil (Γ Γ' : Env) : restE Γ Γ' [] = Γ' := rfl
@[simp] theorem restE_cons (Γ Γ' : Env) (v : Nat) (vs : List Nat) : restE Γ Γ' (v :: vs) = restE Γ (Γ'.set v (keepV (Γ[v]?))) vs := rfl
@[simp] theorem keepV_n : keepV (some none) = none := rfl
@[simp] theorem keepV_v (d : D) : keepV (some (some (.v d))) = some (.v d) := rfl
@[simp] theorem keepV_l (d : List T) : keepV (some (some (.l d))) = none := rfl
@[simp] theorem keepV_tp (d : List T) : keepV (some (some (.tp d))) = none := rfl
@[simp] theorem keepV_w (d : D) : keepV (some (some (.w d))) = some (.w d) := rfl
@[simp] theorem bindTg_nm (i : Nat) (d : T) (Γ : Env) : bindTg (.nm i) d Γ = if i < Γ.length then some (Γ.set i (some d)) else none := rfl
@[simp] theorem bindTg_tp (is : List Nat) (ds : List T) (Γ : Env) : bindTg (.tp is) (.tp ds) Γ = setSlots Γ is ds := rfl
@[simp] theorem bindTg_tv (is : List Nat) (ds : List D) (Γ : Env) : bindTg (.tp is) (.v (.tup ds)) Γ = setSlots Γ is (ds.map .v) := rfl
@[simp] theorem bindTg_tw (is : List Nat) (ds : List D) (Γ : Env) : bindTg (.tp is) (.w (.tup ds)) Γ = setSlots Γ is (ds.map subW) := rfl
@[simp] theorem setSlots_nil (Γ : Env) : setSlots Γ [] [] = some Γ := rfl
@[simp] theorem setSlots_cons (Γ : Env) (i : Nat) (is : List Nat) (d : T) (ds : List T) : setSlots Γ (i :: is) (d :: ds) = if i < Γ.length then setSlots (Γ.set i (some d)) is ds else none := rfl
@[simp] theorem itemsT_l (ds : List D) : itemsT (.v (.lst ds)) = some (ds.map .v) := rfl
@[simp] theorem itemsT_t (ds : List D) : itemsT (.v (.tup ds)) = some (ds.map .v) := rfl
@[simp] theorem itemsT_s (s : List Nat) : itemsT (.v (.str s)) = some (s.map fun c => .v (.str [c])) := rfl
@[simp] theorem itemsT_c (s : List Int) : itemsT (.v (.scr s)) = some (s.map fun n => .v (.int n)) := rfl
@[simp] theorem itemsT_wl (ds : List D) : itemsT (.w (.lst ds)) = some (ds.map subW) := rfl
@[simp] theorem itemsT_wt (ds : List D) : itemsT (.w (.tup ds)) = some (ds.map subW) := rfl
@[simp] theorem listT_l (ds : List D) : listT (.v (.lst ds)) = some (ds.map .v) := rfl
@[simp] theorem listT_c (s : List Int) : listT (.v (.scr s)) = some (s.map fun n => .v (.int n)) := rfl
@[simp] theorem listT_w (ds : List D) : listT (.w (.lst ds)) = some (ds.map subW) := rfl
@[simp] theorem seqT_l (ds : List D) : seqT (.v (.lst ds)) = some (ds.map .v) := rfl
@[simp] theorem seqT_t (ds : List D) : seqT (.v (.tup ds)) = some (ds.map .v) := rfl
@[simp] theorem seqT_wl (ds : List D) : seqT (.w (.lst ds)) = some (ds.map subW) := rfl
@[simp] theorem seqT_wt (ds : List D) : seqT (.w (.tup ds)) = some (ds.map subW) := rfl
@[simp] theorem seqT_tp (ts : List T) : seqT (.tp ts) = some ts := rfl
@[simp] theorem seqT_ll (ts : List T) : seqT (.l ts) = some ts := rfl
@[simp] theorem imm_non : D.imm .non = true := by simp [D.imm]
@[simp] theorem imm_bl (b : Bool) : D.imm (.bl b) = true := by simp [D.imm]
@[simp] theorem imm_int (b : Int) : D.imm (.int b) = true := by simp [D.imm]
@[simp] theorem imm_str (b : List Nat) : D.imm (.str b) = true := by simp [D.imm]
@[simp] theorem imm_tup (ds : List D) : D.imm (.tup ds) = D.imms ds := by simp [D.imm]
@[simp] theorem imm_lst (ds : List D) : D.imm (.lst ds) = false := by simp [D.imm]
@[simp] theorem imm_scr (ds : List Int) : D.imm (.scr ds) = false := by simp [D.imm]
@[simp] theorem imm_dct (t : Bool) (ks vs : List D) : D.imm (.dct t ks vs) = false := by simp [D.imm]
@[simp] theorem imm_obj (t : String) (ks : List String) (vs : List D) : D.imm (.obj t ks vs) = false := by simp [D.imm]
@[simp] theorem imms_nil : D.imms [] = true := by simp [D.imms]
@[simp] theorem imms_cons (d : D) (ds : List D) : D.imms (d :: ds) = (d.imm && D.imms ds) := by simp [D.imms]
@[simp] theorem subW_eq (d : D) : subW d = if d.imm then .v d else .w d := rfl
@[simp] theorem subB_eq (d : D) : subB d = if d.imm then .v d else .b d := rfl
@[simp] theorem mkTp_eq (ts : List T) : mkTp ts = if D.imms (T.ers ts) then .v (.tup (T.ers ts)) else .tp ts := rfl
@[simp] theorem ers_nil : T.ers [] = [] := rfl
@[simp] theorem ers_cons (t : T) (ts : List T) : T.ers (t :: ts) = t.er :: T.ers ts := by simp [T.ers]
@[simp] theorem addT_s (s t : List Nat) : addT (.v (.str s)) (.v (.str t)) = if s.length + t.length ≤ LIM then some (.v (.str (s ++ t))) else none := rfl
@[simp] theorem asL_l (ts : List T) : asL (.l ts) = some ts := rfl
@[simp] theorem asL_v (ds : List D) : asL (.v (.lst ds)) = some (ds.map .v) := rfl
@[simp] theorem asL_w (ds : List D) : asL (.w (.lst ds)) = some (ds.map subW) := rfl
@[simp] theorem asL_b (ds : List D) : asL (.b (.lst ds)) = some (ds.map subB) := rfl
theorem addT_asL {x y : T} {a b : List T} (hx : asL x = some a) (hy : asL y = some b) (h : a.length + b.length ≤ 16000000) : addT x y = some (.l (a ++ b)) := by
  have n1 : ∀ d : D, (∀ i, d ≠ .int i) ∨ asL (.v d) = none := fun d => by cases d <;> first | (right; rfl) | (left; intro i z; cases z)
  unfold addT
  split
  · cases hx
  · cases hx
  · rw [hx, hy]
    dsimp only
    rw [if_pos (by show _ ≤ 16777216; omega)]
@[simp] theorem addT_ll {a b : List T} (h : a.length + b.length ≤ 16000000) : addT (.l a) (.l b) = some (.l (a ++ b)) := addT_asL rfl rfl h
@[simp] theorem addT_vl {a : List D} {b : List T} (h : a.length + b.length ≤ 16000000) : addT (.v (.lst a)) (.l b) = some (.l (a.map .v ++ b)) := addT_asL rfl rfl (by rw [List.length_map]; exact h)
@[simp] theorem addT_lv {a : List T} {b : List D} (h : a.length + b.length ≤ 16000000) : addT (.l a) (.v (.lst b)) = some (.l (a ++ b.map .v)) := addT_asL rfl rfl (by rw [List.length_map]; exact h)
@[simp] theorem addT_vv {a b : List D} (h : a.length + b.length ≤ 16000000) : addT (.v (.lst a)) (.v (.lst b)) = some (.l (a.map .v ++ b.map .v)) := addT_asL rfl rfl (by rw [List.length_map, List.length_map]; exact h)
@[simp] theorem addT_wl {a : List D} {b : List T} (h : a.length + b.length ≤ 16000000) : addT (.w (.lst a)) (.l b) = some (.l (a.map subW ++ b)) := addT_asL rfl rfl (by rw [List.length_map]; exact h)
@[simp] theorem addT_lw {a : List T} {b : List D} (h : a.length + b.length ≤ 16000000) : addT (.l a) (.w (.lst b)) = some (.l (a ++ b.map subW)) := addT_asL rfl rfl (by rw [List.length_map]; exact h)
theorem sIx_nn {n d : Nat} {i : Int} (h : 0 ≤ i) : HT.sIx n d (some i) = min i.toNat n := by
  unfold HT.sIx
  first
    | (simp only []; split <;> omega)
    | (split <;> omega)
    | omega
theorem cutL_two {α : Type} {xs : List α} {a b : Int} (ha : 0 ≤ a) (hb : a ≤ b) : cutL xs (some a) (some b) = (xs.drop a.toNat).take (b - a).toNat := by
  unfold cutL
  rw [sIx_nn ha, sIx_nn (by omega)]
  apply List.ext_getElem?
  intro i
  rw [List.getElem?_take, List.getElem?_take]
  by_cases h : a.toNat ≤ xs.length
  · rw [Nat.min_eq_left h, List.getElem?_drop]
    by_cases h2 : b.toNat ≤ xs.length
    · rw [Nat.min_eq_left h2, show b.toNat - a.toNat = (b - a).toNat by omega]
    · rw [Nat.min_eq_right (by omega)]
      by_cases h3 : i < xs.length - a.toNat
      · rw [if_pos h3, if_pos (by omega)]
      · rw [if_neg h3, List.getElem?_eq_none (by omega)]; simp
  · rw [Nat.min_eq_right (by omega), List.getElem?_drop, List.getElem?_drop, List.getElem?_eq_none (by omega), List.getElem?_eq_none (by omega)]
    simp
theorem cutL_to {α : Type} {xs : List α} {b : Int} (hb : 0 ≤ b) : cutL xs none (some b) = xs.take b.toNat := by
  unfold cutL
  rw [sIx_nn hb]
  have : HT.sIx xs.length 0 none = 0 := rfl
  rw [this, List.drop_zero, Nat.sub_zero, ← List.take_take, List.take_length]
theorem cutL_from {α : Type} {xs : List α} {a : Int} (ha : 0 ≤ a) : cutL xs (some a) none = xs.drop a.toNat := by
  unfold cutL
  rw [sIx_nn ha]
  have : HT.sIx xs.length xs.length none = xs.length := rfl
  rw [this]
  by_cases h : a.toNat ≤ xs.length
  · rw [Nat.min_eq_left h, List.take_of_length_le (by simp)]
  · rw [Nat.min_eq_right (by omega), List.drop_of_length_le (Nat.le_refl _), List.drop_of_length_le (by omega)]; simp
@[simp] theorem LIM_eq : LIM = 16777216 := (rfl)
theorem lim_ok {n : Nat} (h : n ≤ 16000000) : n ≤ 16777216 := by omega
@[simp] theorem lOnly_l (ts : List T) : lOnly (.l ts) = some ts := rfl
@[simp] theorem lOnly_vl (ds : List D) : lOnly (.v (.lst ds)) = some (ds.map .v) := rfl
@[simp] theorem lOnly_vs (ns : List Int) : lOnly (.v (.scr ns)) = some (ns.map fun n => .v (.int n)) := rfl
abbrev vi (i : Int) : T := .v (.int i)
abbrev vis (xs : List Int) : List T := xs.map fun i => T.v (.int i)
theorem vis_app (xs : List Int) (i : Int) : vis (xs ++ [i]) = vis xs ++ [vi i] := List.map_append
@[simp] theorem er_v (d : D) : (T.v d).er = d := by simp [T.er]
@[simp] theorem er_b (d : D) : (T.b d).er = d := by simp [T.er]
@[simp] theorem er_w (d : D) : (T.w d).er = d := by simp [T.er]
@[simp] theorem er_dc (t : Bool) (ks : List D) (ts : List T) : (T.dc t ks ts).er = .dct t ks (ts.map T.er) := by simp [T.er, ers_map]
@[simp] theorem er_ob (c : String) (ns : List String) (ts : List T) : (T.ob c ns ts).er = .obj c ns (ts.map T.er) := by simp [T.er, ers_map]
@[simp] theorem er_l (ts : List T) : (T.l ts).er = .lst (ts.map T.er) := by simp [T.er, ers_map]
@[simp] theorem er_tp (ts : List T) : (T.tp ts).er = .tup (ts.map T.er) := by simp [T.er, ers_map]
@[simp] theorem noB_v (d : D) : (T.v d).noB = true := by simp [T.noB]
@[simp] theorem noB_w (d : D) : (T.w d).noB = true := by simp [T.noB]
@[simp] theorem noB_subW (d : D) : (subW d).noB = true := by unfold subW; split <;> rfl
@[simp] theorem er_subW (d : D) : (subW d).er = d := by unfold subW; split <;> rfl
@[simp] theorem er_subB (d : D) : (subB d).er = d := by unfold subB; split <;> rfl
@[simp] theorem cl_v (d : D) : (T.v d).cl = d.imm := by simp [T.cl]
@[simp] theorem cl_w (d : D) : (T.w d).cl = true := by simp [T.cl]
@[simp] theorem cl_b (d : D) : (T.b d).cl = false := by simp [T.cl]
@[simp] theorem cl_l (ts : List T) : (T.l ts).cl = T.cls ts := by simp [T.cl]
@[simp] theorem cl_tp (ts : List T) : (T.tp ts).cl = T.cls ts := by simp [T.cl]
@[simp] theorem cl_dc (t : Bool) (ks : List D) (ts : List T) : (T.dc t ks ts).cl = T.cls ts := by simp [T.cl]
@[simp] theorem cl_ob (c : String) (ns : List String) (ts : List T) : (T.ob c ns ts).cl = T.cls ts := by simp [T.cl]
@[simp] theorem cls_nil : T.cls [] = true := rfl
@[simp] theorem cls_cons (t : T) (ts : List T) : T.cls (t :: ts) = (t.cl && T.cls ts) := rfl
@[simp] theorem cls_app (ts us : List T) : T.cls (ts ++ us) = (T.cls ts && T.cls us) := by rw [cls_all, cls_all, cls_all, List.all_append]
@[simp] theorem noBs_nil : T.noBs [] = true := rfl
@[simp] theorem noBs_cons (t : T) (ts : List T) : T.noBs (t :: ts) = (t.noB && T.noBs ts) := rfl
@[simp] theorem noBs_app (ts us : List T) : T.noBs (ts ++ us) = (T.noBs ts && T.noBs us) := noBs_append
@[simp] theorem noBs_mapv {α : Type} (f : α → D) (xs : List α) : T.noBs (xs.map fun a => T.v (f a)) = true := by
  rw [noBs_all, List.all_map, List.all_eq_true]; intro x _; simp
@[simp] theorem noBs_mapv' (xs : List D) : T.noBs (xs.map T.v) = true := by
  rw [noBs_all, List.all_map, List.all_eq_true]; intro x _; simp
@[simp] theorem comp_v {α : Type} (f : α → D) : (T.v ∘ f) = fun a => T.v (f a) := (rfl)
@[simp] theorem noBs_rev (ts : List T) : T.noBs ts.reverse = T.noBs ts := by rw [noBs_all, noBs_all, List.all_reverse]
@[simp] theorem noBs_mapc {α : Type} (f : α → D) (xs : List α) : T.noBs (xs.map (T.v ∘ f)) = true := noBs_mapv f xs
@[simp] theorem er_comp_c {α : Type} (f : α → D) : (T.er ∘ T.v ∘ f) = f := by funext a; simp
@[simp] theorem noB_l (ts : List T) : (T.l ts).noB = T.noBs ts := by simp [T.noB]
@[simp] theorem noB_tp (ts : List T) : (T.tp ts).noB = T.noBs ts := by simp [T.noB]
@[simp] theorem noB_b (d : D) : (T.b d).noB = false := by simp [T.noB]
@[simp] theorem noB_dc (t : Bool) (ks : List D) (ts : List T) : (T.dc t ks ts).noB = T.noBs ts := by simp [T.noB]
@[simp] theorem noB_ob (c : String) (ns : List String) (ts : List T) : (T.ob c ns ts).noB = T.noBs ts := by simp [T.noB]
@[simp] theorem isF_v (d : D) : isF (.v d) = true := rfl
@[simp] theorem isF_w (d : D) : isF (.w d) = true := rfl
@[simp] theorem isF_l (d : List T) : isF (.l d) = false := rfl
@[simp] theorem isF_tp (d : List T) : isF (.tp d) = false := rfl
@[simp] theorem isF_dc (t : Bool) (ks : List D) (ts : List T) : isF (.dc t ks ts) = false := rfl
@[simp] theorem isF_ob (c : String) (ns : List String) (ts : List T) : isF (.ob c ns ts) = false := rfl
@[simp] theorem bor_v (d : D) : bor (.v d) = .v d := rfl
@[simp] theorem bor_w (d : D) : bor (.w d) = .w d := rfl
@[simp] theorem bor_l (ts : List T) : bor (.l ts) = .b (.lst (ts.map T.er)) := by simp [bor]
@[simp] theorem bor_tp (ts : List T) : bor (.tp ts) = subB (.tup (ts.map T.er)) := by simp [bor]
@[simp] theorem bor_dc (t : Bool) (ks : List D) (ts : List T) : bor (.dc t ks ts) = .b (.dct t ks (ts.map T.er)) := by simp [bor]
@[simp] theorem bor_ob (c : String) (ns : List String) (ts : List T) : bor (.ob c ns ts) = .b (.obj c ns (ts.map T.er)) := by simp [bor]
@[simp] theorem fz_v (d : D) : (T.v d).fz = some (.v d) := by
  unfold T.fz
  rw [er_v, cl_v, noB_v]
  cases d.imm <;> rfl
@[simp] theorem fz_w (d : D) : (T.w d).fz = some (if d.imm then .v d else .w d) := by
  unfold T.fz
  rw [er_w, cl_w]
  cases d.imm <;> rfl
theorem fz_v' (d : D) : (T.v d).fz = some (.v d) := by simp
theorem fz_l (ts : List T) (h : T.noBs ts = true) : (T.l ts).fz = some (if T.cls ts then .w (.lst (ts.map T.er)) else .v (.lst (ts.map T.er))) := by
  unfold T.fz
  rw [er_l, imm_lst, cl_l, noB_l, h]
  cases T.cls ts <;> rfl
@[simp] theorem fz_lw (ts : List T) (h : T.cls ts = true) : (T.l ts).fz = some (.w (.lst (ts.map T.er))) := by
  unfold T.fz
  rw [er_l, imm_lst, cl_l, h]; rfl
theorem fz_tpw (ts : List T) (h : T.cls ts = true) (h2 : D.imms (ts.map T.er) = false) : (T.tp ts).fz = some (.w (.tup (ts.map T.er))) := by
  unfold T.fz
  rw [er_tp, imm_tup, h2, cl_tp, h]; rfl
theorem fz_dcw (t : Bool) (ks : List D) (ts : List T) (h : T.cls ts = true) : (T.dc t ks ts).fz = some (.w (.dct t ks (ts.map T.er))) := by
  unfold T.fz
  rw [er_dc, imm_dct, cl_dc, h]; rfl
theorem fz_obw (t : String) (ks : List String) (ts : List T) (h : T.cls ts = true) : (T.ob t ks ts).fz = some (.w (.obj t ks (ts.map T.er))) := by
  unfold T.fz
  rw [er_ob, imm_obj, cl_ob, h]; rfl
@[simp] theorem cls_vis {α : Type} (f : α → Int) (xs : List α) : T.cls (xs.map fun a => T.v (.int (f a))) = true := by
  rw [cls_all, List.all_map, List.all_eq_true]; intro x _; simp
@[simp] theorem er_comp_v {α : Type} (f : α → D) : (T.er ∘ fun a => T.v (f a)) = f := by funext a; simp
@[simp] theorem er_comp_v' : (T.er ∘ T.v) = id := by funext a; simp
@[simp] theorem binT_add : binT .add = addT := by funext x y; rfl
@[simp] theorem binT_mul : binT .mul = mulT := by funext x y; rfl
@[simp] theorem addT_i (i j : Int) : addT (.v (.int i)) (.v (.int j)) = some (.v (.int (i + j))) := rfl
@[simp] theorem subT_i (i j : Int) : binT .sub (.v (.int i)) (.v (.int j)) = some (.v (.int (i - j))) := rfl
@[simp] theorem modT_i (i j : Int) : binT .mod (.v (.int i)) (.v (.int j)) = if j ≠ 0 then some (.v (.int (i.fmod j))) else none := rfl
@[simp] theorem fdivT_i (i j : Int) : binT .fdiv (.v (.int i)) (.v (.int j)) = if 0 < j ∧ j.natAbs.log2 < 9000 then some (.v (.int (i / j))) else none := rfl
@[simp] theorem powT_i (i j : Int) : binT .pow (.v (.int i)) (.v (.int j)) = if 0 ≤ j ∧ j ≤ 1000000 ∧ i.natAbs < 2 ^ 64 then some (.v (.int (i ^ j.toNat))) else none := rfl
@[simp] theorem ltT_i (i j : Int) : cmpT .lt (.v (.int i)) (.v (.int j)) = some (decide (i < j)) := rfl
@[simp] theorem leT_i (i j : Int) : cmpT .le (.v (.int i)) (.v (.int j)) = some (decide (i ≤ j)) := rfl
@[simp] theorem gtT_i (i j : Int) : cmpT .gt (.v (.int i)) (.v (.int j)) = some (decide (j < i)) := rfl
@[simp] theorem geT_i (i j : Int) : cmpT .ge (.v (.int i)) (.v (.int j)) = some (decide (j ≤ i)) := rfl
@[simp] theorem eqT_ (x y : T) : cmpT .eq x y = eqT x y := rfl
@[simp] theorem neT_ (x y : T) : cmpT .ne x y = (eqT x y).map fun b => !b := rfl
@[simp] theorem inT_ (x y : T) : cmpT .isIn x y = inT x y := rfl
@[simp] theorem ninT_ (x y : T) : cmpT .notIn x y = (inT x y).map fun b => !b := rfl
@[simp] theorem lenT_ (t : T) : bltT .len [t] = (sizeT t).map fun (n : Nat) => T.v (.int (n : Int)) := by
  simp only [bltT]
  cases sizeT t <;> rfl
@[simp] theorem maxT_2 (i j : Int) : bltT .max [.v (.int i), .v (.int j)] = some (.v (.int (if j > i then j else i))) := rfl
@[simp] theorem minT_2 (i j : Int) : bltT .min [.v (.int i), .v (.int j)] = some (.v (.int (if j < i then j else i))) := rfl
@[simp] theorem allT_ (t : T) : bltT .all [t] = ((lOnly t).bind boolsT).map fun bs => .v (.bl (bs.all id)) := by simp only [bltT]
@[simp] theorem size_str (s : List Nat) : sizeT (.v (.str s)) = some s.length := rfl
@[simp] theorem size_lst (s : List D) : sizeT (.v (.lst s)) = some s.length := by simp [sizeT, asQ]
@[simp] theorem size_tup (s : List D) : sizeT (.v (.tup s)) = some s.length := by simp [sizeT, asQ]
@[simp] theorem size_scr (s : List Int) : sizeT (.v (.scr s)) = some s.length := by simp [sizeT, asQ]
@[simp] theorem size_bl (s : List D) : sizeT (.b (.lst s)) = some s.length := by simp [sizeT, asQ]
@[simp] theorem size_l (s : List T) : sizeT (.l s) = some s.length := by simp [sizeT, asQ]
@[simp] theorem eq_ii (i j : Int) : eqT (.v (.int i)) (.v (.int j)) = some (decide (i = j)) := by
  simp [eqT, D.okD, eqD, D.py, PyData.eqv]
  rfl
@[simp] theorem eq_bb (i j : Bool) : eqT (.v (.bl i)) (.v (.bl j)) = some (i == j) := by
  simp [eqT, D.okD, eqD, D.py, PyData.eqv]
@[simp] theorem boolsT_map {α : Type} (f : α → Bool) (xs : List α) : boolsT (xs.map fun a => T.v (.bl (f a))) = some (xs.map f) := by
  induction xs with
  | nil => rfl
  | cons x xs ih => simp [boolsT, ih]
@[simp] theorem intsT_map {α : Type} (f : α → Int) (xs : List α) : intsT (xs.map fun a => T.v (.int (f a))) = some (xs.map f) := by
  induction xs with
  | nil => rfl
  | cons x xs ih => simp [intsT, ih]
@[simp] theorem in_sign (c : Nat) (s : List Nat) : inT (.v (.str [c])) (.v (.str s)) = some (decide (c ∈ s)) := rfl
theorem sm62 {n : Nat} (h : n ≤ 1000000) : (small62 (n : Int) && decide ((n : Int) ≤ LIM)) = true := by
  unfold small62
  rw [Bool.and_eq_true, decide_eq_true_eq, decide_eq_true_eq]
  exact ⟨⟨by omega, by omega⟩, by show (n : Int) ≤ 16777216; omega⟩
theorem sm62' {n : Nat} (h : n ≤ 1000000) : (small62 (n : Int) && decide ((n : Int) ≤ 16777216)) = true := sm62 h
theorem rangeT_get {lo : Int} {n : Nat} {c : Int} {i : Nat} {d : T} (h : (rangeT lo n c)[i]? = some d) : i < n ∧ d = .v (.int (lo + (i : Int) * c)) := by
  unfold rangeT at h
  rw [List.getElem?_map] at h
  obtain ⟨j, h1, h2⟩ := Option.map_eq_some_iff.mp h
  obtain ⟨h3, h4⟩ := List.getElem?_eq_some_iff.mp h1
  rw [List.length_range] at h3
  rw [List.getElem_range] at h4
  exact ⟨h3, by rw [← h2, h4]⟩
@[simp] theorem rangeT_length {lo : Int} {n : Nat} {c : Int} : (rangeT lo n c).length = n := by simp [rangeT]
theorem ixN_nat' {n i : Nat} (h : i < n) : L2.ixN n (i : Int) = some i := by
  unfold L2.ixN
  rw [if_pos (by omega), if_pos (by omega)]; simp
theorem atI_nat' {α : Type} {xs : List α} {i : Nat} {x : α} (h : xs[i]? = some x) : L2.atI xs (i : Int) = some x := by
  unfold L2.atI
  rw [ixN_nat' (List.getElem?_eq_some_iff.mp h).1]
  exact h
theorem ix_lst {ds : List D} {i : Nat} {d : D} (h : ds[i]? = some d) : ixT (.v (.lst ds)) (.v (.int (i : Int))) = some (.v d) := by
  simp only [ixT, asQ, Option.bind_some]
  exact atI_nat' (by simp [h])
theorem ix_lstI {ds : List D} {i : Int} {d : D} (h0 : 0 ≤ i) (h : ds[i.toNat]? = some d) : ixT (.v (.lst ds)) (.v (.int i)) = some (.v d) := by
  have := ix_lst h
  rw [Int.toNat_of_nonneg h0] at this
  exact this
theorem ix_str {s : List Nat} {i : Int} {c : Nat} (h0 : 0 ≤ i) (h : s[i.toNat]? = some c) : ixT (.v (.str s)) (.v (.int i)) = some (.v (.str [c])) := by
  have : L2.atI s i = some c := by
    have := atI_nat' h
    rw [Int.toNat_of_nonneg h0] at this
    exact this
  simp only [ixT, this]
  rfl
theorem ix_bl {ds : List D} {i : Int} {d : D} (h0 : 0 ≤ i) (h : ds[i.toNat]? = some d) : ixT (.b (.lst ds)) (.v (.int i)) = some (subB d) := by
  have : L2.atI (ds.map subB) i = some (subB d) := by
    have := atI_nat' (xs := ds.map subB) (i := i.toNat) (x := subB d) (by simp [h])
    rw [Int.toNat_of_nonneg h0] at this
    exact this
  simp only [ixT, asQ, Option.bind_some]
  exact this
theorem log2_lt {i : Int} {n : Nat} (h : i.natAbs < 2 ^ n) (hn : 0 < n) : i.natAbs.log2 < n := by
  by_cases h0 : i.natAbs = 0
  · rw [h0]; simp [Nat.log2]; exact hn
  · exact (Nat.log2_lt h0).mpr h
theorem mul_ok {i j : Int} {a b : Nat} (hi : i.natAbs < 2 ^ a) (hj : j.natAbs < 2 ^ b) (ha : 0 < a) (hb : 0 < b) (h : a + b ≤ 1000000) : mulT (.v (.int i)) (.v (.int j)) = some (.v (.int (i * j))) := by
  have := log2_lt hi ha
  have := log2_lt hj hb
  simp only [mulT]
  rw [if_pos (by omega)]
/-- factors below 2 ^ 64 -/
theorem mul64 {i j : Int} (hi : -18446744073709551616 < i ∧ i < 18446744073709551616) (hj : -18446744073709551616 < j ∧ j < 18446744073709551616) : mulT (.v (.int i)) (.v (.int j)) = some (.v (.int (i * j))) :=
  mul_ok (a := 64) (b := 64) (by rw [show (2:Nat)^64 = 18446744073709551616 by decide]; omega) (by rw [show (2:Nat)^64 = 18446744073709551616 by decide]; omega) (by decide) (by decide) (by decide)
theorem app_ok {ts : List T} {t : T} (h : ts.length < 16000000) (h2 : t.noB = true) : mutT .append (some (.l ts)) [t] = some (.l (ts ++ [t])) := by
  simp only [mutT]
  rw [if_pos (by rw [h2, Bool.true_and, decide_eq_true_eq]; show ts.length < 16777216; omega)]
theorem ext_ok {ts us : List T} {t : T} (e : lstT t = some us) (h : ts.length + us.length ≤ 16000000) (h2 : T.noBs us = true) : mutT .extend (some (.l ts)) [t] = some (.l (ts ++ us)) := by
  simp only [mutT, e]
  rw [if_pos (by rw [h2, Bool.true_and, decide_eq_true_eq]; show _ ≤ 16777216; omega)]
@[simp] theorem rev_ok (ts : List T) : mutT .reverse (some (.l ts)) [] = some (.l ts.reverse) := rfl
@[simp] theorem clear_ok (ts : List T) : mutT .clear (some (.l ts)) [] = some (.l []) := rfl
theorem fm {a : Int} {m : Int} (hm : 0 < m) : 0 ≤ a.fmod m ∧ a.fmod m < m := ⟨Int.fmod_nonneg_of_pos _ hm, Int.fmod_lt_of_pos _ hm⟩
theorem mod_ok {i j : Int} (h : 0 < j) : binT .mod (.v (.int i)) (.v (.int j)) = some (.v (.int (i.fmod j))) := by
  rw [modT_i, if_pos (by omega)]
theorem fdiv_ok {i j : Int} (h : 0 < j) (h2 : j < 18446744073709551616) : binT .fdiv (.v (.int i)) (.v (.int j)) = some (.v (.int (i / j))) := by
  rw [fdivT_i, if_pos ⟨h, Nat.lt_of_lt_of_le (log2_lt (n := 64) (by rw [show (2:Nat)^64 = 18446744073709551616 by decide]; omega) (by decide)) (by decide)⟩]
theorem cutL_map {α β : Type} (f : α → β) (xs : List α) (lo hi : Option Int) : cutL (xs.map f) lo hi = (cutL xs lo hi).map f := by
  unfold cutL
  rw [List.length_map, List.map_take, List.map_drop]
theorem cutL_mem {α : Type} {xs : List α} {lo hi : Option Int} {x : α} (h : x ∈ cutL xs lo hi) : x ∈ xs := by
  unfold cutL at h
  exact List.mem_of_mem_drop (List.mem_of_mem_take h)
theorem cutL_len {α : Type} (xs : List α) (lo hi : Option Int) : (cutL xs lo hi).length ≤ xs.length := by
  unfold cutL
  rw [List.length_take, List.length_drop]; omega
@[simp] theorem revT_l (ts : List T) : revT (.l ts) = some (.l ts.reverse) := rfl
@[simp] theorem revT_v (ds : List D) : revT (.v (.lst ds)) = some (.l (ds.map T.v).reverse) := rfl
theorem ix_l {ts : List T} {i : Int} {t : T} (h0 : 0 ≤ i) (h : ts[i.toNat]? = some t) : ixT (.l ts) (.v (.int i)) = some t := by
  simp only [ixT, asQ, Option.bind_some]
  have := atI_nat' h
  rw [Int.toNat_of_nonneg h0] at this
  exact this
theorem ix_last {ds : List D} {d : D} (h : ds.getLast? = some d) : ixT (.v (.lst ds)) (.v (.int (-1))) = some (.v d) := by
  obtain ⟨ys, rfl⟩ := List.getLast?_eq_some_iff.mp h
  simp only [ixT, asQ, Option.bind_some, List.map_append]
  exact L2.atI_last _ _
@[simp] theorem slT_s (s : List Nat) (lo hi : Option Int) : slT (.v (.str s)) lo hi = some (.v (.str (cutL s lo hi))) := rfl
@[simp] theorem slT_l (ts : List T) (lo hi : Option Int) : slT (.l ts) lo hi = some (.l (cutL ts lo hi)) := rfl
@[simp] theorem slT_vl (ds : List D) (lo hi : Option Int) : slT (.v (.lst ds)) lo hi = some (.l ((cutL ds lo hi).map .v)) := by simp [slT, cutL_map]
@[simp] theorem slT_vs (ns : List Int) (lo hi : Option Int) : slT (.v (.scr ns)) lo hi = some (.l ((cutL ns lo hi).map fun n => .v (.int n))) := by simp [slT, cutL_map]
theorem okDs_flat {ds : List D} (h : ∀ d ∈ ds, d.flat = true) (n : Nat) : D.okDs ds n = true := by
  induction ds with
  | nil => simp [D.okDs]
  | cons d ds ih =>
    have h1 := h d (by simp)
    simp only [D.okDs, Bool.and_eq_true]
    refine ⟨?_, ih fun e he => h e (by simp [he])⟩
    cases d <;> first | rfl | (cases h1; done) | (cases n <;> rfl)
@[simp] theorem okD_60 (ds : List D) : (D.lst ds).okD 60 = D.okDs ds 59 := by simp [D.okD]
@[simp] theorem okDt_60 (ds : List D) : (D.tup ds).okD 60 = D.okDs ds 59 := by simp [D.okD]
theorem eqD_nil (ds : List D) : eqD (.lst ds) (.lst []) = ds.isEmpty := by
  cases ds <;> simp [eqD, D.py, D.pys, PyData.eqv, PyData.eqvAll]
theorem eqT_nil {ds : List D} (h : ∀ d ∈ ds, d.flat = true) : eqT (.b (.lst ds)) (.l []) = some ds.isEmpty := by
  unfold eqT
  rw [er_b, er_l, okD_60, okDs_flat h, List.map_nil, okD_60, eqD_nil]
  simp [D.okDs]
theorem eqT_nilv {ds : List D} (h : ∀ d ∈ ds, d.flat = true) : eqT (.v (.lst ds)) (.l []) = some ds.isEmpty := by
  unfold eqT
  rw [er_v, er_l, okD_60, okDs_flat h, List.map_nil, okD_60, eqD_nil]
  simp [D.okDs]
theorem strsT_v (ss : List (List Nat)) : strsT (ss.map fun s => T.v (.str s)) = some ss := by
  induction ss with
  | nil => rfl
  | cons s ss ih => simp [strsT, ih]
theorem strsT_b (ss : List (List Nat)) : strsT ((ss.map D.str).map subB) = some ss := by
  rw [List.map_map]
  have : (subB ∘ D.str) = fun s => T.v (.str s) := by funext s; simp
  rw [this]; exact strsT_v ss
theorem strsT_w (ss : List (List Nat)) : strsT ((ss.map D.str).map subW) = some ss := by
  rw [List.map_map]
  have : (subW ∘ D.str) = fun s => T.v (.str s) := by funext s; simp
  rw [this]; exact strsT_v ss
theorem strsT_d (ss : List (List Nat)) : strsT ((ss.map D.str).map T.v) = some ss := by
  rw [List.map_map]; exact strsT_v ss
theorem join_b {a : List Nat} {ss : List (List Nat)} (h : (ss.map List.length).sum + ss.length * a.length ≤ 16777216) : methT .join (.v (.str a)) (.b (.lst (ss.map D.str))) = some (.v (.str (TL.joinL a ss))) := by
  simp only [methT, asQ, Option.bind_some]
  rw [strsT_b]
  exact if_pos h
theorem join_v {a : List Nat} {ss : List (List Nat)} (h : (ss.map List.length).sum + ss.length * a.length ≤ 16777216) : methT .join (.v (.str a)) (.v (.lst (ss.map D.str))) = some (.v (.str (TL.joinL a ss))) := by
  simp only [methT, asQ, Option.bind_some]
  rw [strsT_d]
  exact if_pos h
theorem join_l {a : List Nat} {ss : List (List Nat)} (h : (ss.map List.length).sum + ss.length * a.length ≤ 16777216) : methT .join (.v (.str a)) (.l (ss.map fun s => T.v (.str s))) = some (.v (.str (TL.joinL a ss))) := by
  simp only [methT, asQ, Option.bind_some]
  rw [strsT_v]
  exact if_pos h
@[simp] theorem mTy_j (s : List Nat) : mTy .join (.v (.str s)) = true := rfl
@[simp] theorem mTy_f (s : List Nat) : mTy .find (.v (.str s)) = true := rfl
theorem sum_one {ss : List (List Nat)} (h : ∀ s ∈ ss, s.length = 1) : (ss.map List.length).sum = ss.length := by
  induction ss with
  | nil => rfl
  | cons s ss ih =>
    have := h s (by simp)
    have := ih fun x hx => h x (by simp [hx])
    simp only [List.map_cons, List.sum_cons, List.length_cons]; omega
theorem sto_ok {ts : List T} {j : Int} {t : T} (h0 : 0 ≤ j) (h1 : j < ts.length) (h2 : t.noB = true) : stoT (some (.l ts)) (.v (.int j)) t = some (.l (ts.set j.toNat t)) := by
  have e : L2.ixN ts.length j = some j.toNat := by
    have := ixN_nat' (n := ts.length) (i := j.toNat) (by omega)
    rw [Int.toNat_of_nonneg h0] at this; exact this
  simp only [stoT, ixT1, e, Option.bind_some]
  rw [if_pos h2]
theorem mulL_ok {ts us : List T} {k : Nat} (h : asF (.l ts) = some us) (hk : us.length * k ≤ 16000000) (hk2 : k ≤ 1000000) : mulT (.l ts) (.v (.int (k : Int))) = some (.l (List.replicate k us).flatten) := by
  simp only [mulT, h]
  have : (2 : Int) ^ 63 = 9223372036854775808 := by decide
  rw [Int.toNat_natCast, if_pos ⟨by omega, by omega, by show _ ≤ 16777216; omega⟩]
theorem asF_l {ts : List T} (h : T.cls ts = true) : asF (.l ts) = some ((ts.map T.er).map subW) := by
  unfold asF
  rw [fz_lw ts h]; rfl
theorem join_w {a : List Nat} {ss : List (List Nat)} (h : (ss.map List.length).sum + ss.length * a.length ≤ 16777216) : methT .join (.v (.str a)) (.w (.lst (ss.map D.str))) = some (.v (.str (TL.joinL a ss))) := by
  simp only [methT, asQ, Option.bind_some]
  rw [strsT_w]
  exact if_pos h
theorem ix_w {ds : List D} {i : Int} {d : D} (h0 : 0 ≤ i) (h : ds[i.toNat]? = some d) : ixT (.w (.lst ds)) (.v (.int i)) = some (subW d) := by
  have : L2.atI (ds.map subW) i = some (subW d) := by
    have := atI_nat' (xs := ds.map subW) (i := i.toNat) (x := subW d) (by simp [h])
    rw [Int.toNat_of_nonneg h0] at this
    exact this
  simp only [ixT, asQ, Option.bind_some]
  exact this
theorem ix_wt {ds : List D} {i : Int} {d : D} (h0 : 0 ≤ i) (h : ds[i.toNat]? = some d) : ixT (.w (.tup ds)) (.v (.int i)) = some (subW d) := by
  have : L2.atI (ds.map subW) i = some (subW d) := by
    have := atI_nat' (xs := ds.map subW) (i := i.toNat) (x := subW d) (by simp [h])
    rw [Int.toNat_of_nonneg h0] at this
    exact this
  simp only [ixT, asQ, Option.bind_some]
  exact this
theorem ix_bt {ds : List D} {i : Int} {d : D} (h0 : 0 ≤ i) (h : ds[i.toNat]? = some d) : ixT (.b (.tup ds)) (.v (.int i)) = some (subB d) := by
  have : L2.atI (ds.map subB) i = some (subB d) := by
    have := atI_nat' (xs := ds.map subB) (i := i.toNat) (x := subB d) (by simp [h])
    rw [Int.toNat_of_nonneg h0] at this
    exact this
  simp only [ixT, asQ, Option.bind_some]
  exact this
theorem ix_tp {ts : List T} {i : Int} {t : T} (h0 : 0 ≤ i) (h : ts[i.toNat]? = some t) : ixT (.tp ts) (.v (.int i)) = some t := by
  simp only [ixT, asQ, Option.bind_some]
  have := atI_nat' h
  rw [Int.toNat_of_nonneg h0] at this
  exact this
@[simp] theorem size_w (s : List D) : sizeT (.w (.lst s)) = some s.length := by simp [sizeT, asQ]
@[simp] theorem size_wt (s : List D) : sizeT (.w (.tup s)) = some s.length := by simp [sizeT, asQ]
@[simp] theorem size_tp (s : List T) : sizeT (.tp s) = some s.length := by simp [sizeT, asQ]
@[simp] theorem lOnly_w (ds : List D) : lOnly (.w (.lst ds)) = some (ds.map subW) := rfl
@[simp] theorem lOnly_b (ds : List D) : lOnly (.b (.lst ds)) = some (ds.map subB) := rfl
@[simp] theorem revT_w (ds : List D) : revT (.w (.lst ds)) = some (.l (ds.map subW).reverse) := rfl
@[simp] theorem slT_w (ds : List D) (lo hi : Option Int) : slT (.w (.lst ds)) lo hi = some (.l ((cutL ds lo hi).map subW)) := by
  have : slT (.w (.lst ds)) lo hi = some (.l (cutL (ds.map subW) lo hi)) := rfl
  rw [this, cutL_map]
@[simp] theorem map_subW_int {α : Type} (f : α → Int) (xs : List α) : (xs.map fun a => D.int (f a)).map subW = xs.map fun a => T.v (.int (f a)) := by
  rw [List.map_map]; apply List.map_congr_left; intro a _; simp
@[simp] theorem map_subW_int0 (xs : List Int) : (xs.map D.int).map subW = vis xs := by
  rw [List.map_map]; apply List.map_congr_left; intro a _; simp
end Tv

namespace Tv
open PySem
/-! ### numbers out of a cell, as all laws draw them -/
def k_abc : List Nat := [97, 98, 99, 100, 101, 102, 103, 104, 105, 106, 107, 108, 109, 110, 111, 112, 113, 114, 115, 116, 117, 118, 119, 120, 121, 122]
def k_dig : List Nat := [48, 49, 50, 51, 52, 53, 54, 55, 56, 57]
def k_sg1 : List Nat := [32, 33, 34, 35, 36, 38, 39, 40, 41, 42, 43, 44, 45, 46, 47, 48, 49, 50, 51, 52, 53, 54, 55, 56, 57, 58, 59, 60, 61, 62, 63, 64, 65, 66, 67, 68, 69, 70, 71, 72, 73, 74, 75, 76, 77, 78, 79, 80, 81, 82, 83, 84, 85, 86, 87, 88, 89, 90, 91, 92, 93, 94, 95, 96]
def k_sg2 : List Nat := [97, 98, 99, 100, 101, 102, 103, 104, 105, 106, 107, 108, 109, 110, 111, 112, 113, 114, 115, 116, 117, 118, 119, 120, 121, 122, 123, 124, 125, 126, 10, 9]
def c_numbers_b1 : Ss := 
    (.cons (.ife (.and (.cmp .ge (.frz 3) (.bin .pow (.int 10) (.int 18))) (.cmp .gt (.frz 4) (.int 0))) (
      (.cons (.mut .append (.nm 5) (.cons (.bin .mod (.frz 4) (.ix (.frz 2) (.frz 6))) .nil)) 
      (.cons (.setF 4 (.bin .fdiv (.frz 4) (.ix (.frz 2) (.frz 6)))) (.kill [6] .nil)))) (
      (.cons (.setF 7 (.bin .mod (.bin .add (.bin .add (.bin .add (.frz 3) (.bin .mul (.int 7919) (.frz 1))) (.bin .mul (.bin .mul (.int 101) (.frz 6)) (.frz 6))) (.frz 6)) (.int 2147483647))) 
      (.cons (.setF 7 (.bin .mod (.bin .mul (.frz 7) (.int 48271)) (.int 2147483647))) 
      (.cons (.setF 7 (.bin .mod (.bin .mul (.bin .mod (.bin .mul (.frz 7) (.frz 7)) (.int 2147483629)) (.int 48271)) (.int 2147483647))) 
      (.cons (.mut .append (.nm 5) (.cons (.bin .mod (.bin .fdiv (.frz 7) (.int 16)) (.ix (.frz 2) (.frz 6))) .nil)) (.kill [6, 7] .nil))))))) .nil)
def c_numbers : Fn := ⟨3, 8, [], 
  (.cons (.setF 3 (.blt .max (.cons (.frz 0) (.cons (.bin .sub (.neg (.int 1)) (.frz 0)) .nil)))) 
  (.cons (.setF 4 (.frz 3)) 
  (.cons (.set 5 (.lst .nil)) 
  (.cons (.for (.nm 6) (.rng1 (.blt .len (.cons (.frz 2) .nil))) c_numbers_b1) 
  (.cons (.ret [] (.mov 5)) .nil)))))⟩


def numOf (c : Int) : Int := if -1 - c > c then -1 - c else c
def numH (n s k : Int) : Int :=
  ((((((n + 7919 * s + 101 * k * k + k).fmod 2147483647) * 48271).fmod 2147483647) * ((((n + 7919 * s + 101 * k * k + k).fmod 2147483647) * 48271).fmod 2147483647)).fmod 2147483629 * 48271).fmod 2147483647 / 16
def numsL (n s : Int) : Nat → Int → List Int → List Int
  | _, _, [] => []
  | k, left, z :: zs => if (10 : Int) ^ 18 ≤ n ∧ 0 < left then left.fmod z :: numsL n s (k + 1) (left / z) zs else (numH n s k).fmod z :: numsL n s (k + 1) left zs
def nums (c s : Int) (zs : List Int) : List Int := numsL (numOf c) s 0 (numOf c) zs
theorem numsL_length {n s : Int} : ∀ {zs : List Int} {k : Nat} {l : Int}, (numsL n s k l zs).length = zs.length
  | [], _, _ => rfl
  | z :: zs, k, l => by unfold numsL; split <;> simp [numsL_length]
theorem nums_length {c s : Int} {zs : List Int} : (nums c s zs).length = zs.length := numsL_length
theorem numsL_get {n s : Int} : ∀ {zs : List Int} {k : Nat} {l : Int} {i : Nat} {z : Int}, (∀ z ∈ zs, 0 < z) → zs[i]? = some z → ∃ d, (numsL n s k l zs)[i]? = some d ∧ 0 ≤ d ∧ d < z
  | [], _, _, _, _, _, h => by simp at h
  | z :: zs, k, l, 0, y, hp, h => by
    simp at h; subst h
    have := hp z (by simp)
    unfold numsL; split
    · exact ⟨_, rfl, Int.fmod_nonneg_of_pos _ this, Int.fmod_lt_of_pos _ this⟩
    · exact ⟨_, rfl, Int.fmod_nonneg_of_pos _ this, Int.fmod_lt_of_pos _ this⟩
  | z :: zs, k, l, i + 1, y, hp, h => by
    unfold numsL; split
    · simpa using numsL_get (fun z hz => hp z (by simp [hz])) (by simpa using h)
    · simpa using numsL_get (fun z hz => hp z (by simp [hz])) (by simpa using h)
theorem nums_get {c s : Int} {zs : List Int} {i : Nat} {z : Int} (hp : ∀ z ∈ zs, 0 < z) (h : zs[i]? = some z) : ∃ d, (nums c s zs)[i]? = some d ∧ 0 ≤ d ∧ d < z := numsL_get hp h
structure Sizes (zs : List Int) : Prop where
  pos : ∀ z ∈ zs, 0 < z
  big : ∀ z ∈ zs, z < 2 ^ 64
  len : zs.length ≤ 1000
theorem ev_numbers {P con k} {c s : Int} {zs : List Int} (h : P "_law_numbers" = some c_numbers) (hz : Sizes zs) (hs : -1000000000 < s ∧ s < 1000000000) :
    evF P con (k + 1) "_law_numbers" [.v (.int c), .v (.int s), .v (.lst (zs.map .int))] = .ret (.l (vis (nums c s zs))) [] := by
  have hzl := hz.len
  rw [evF_at h rfl rfl]
  simp -implicitDefEqProofs [c_numbers, env0]
  rw [sm62' (by omega)]
  simp -implicitDefEqProofs
  refine forL_go (R := fun r => toCR [] (r.seq _) = _) (fun i Γ => ∃ l acc, Γ = [some (vi c), some (vi s), some (.v (.lst (zs.map .int))), some (vi (numOf c)), some (vi l), some (.l (vis acc)), none, none] ∧ acc ++ numsL (numOf c) s i l (zs.drop i) = nums c s zs ∧ acc.length = i) ⟨numOf c, [], rfl, rfl, rfl⟩ ?_ ?_
  · rintro i d Γ hd ⟨l, acc, rfl, hacc, hlen⟩
    obtain ⟨hi, rfl⟩ := rangeT_get hd
    obtain ⟨z, hzi⟩ : ∃ z, zs[i]? = some z := ⟨zs[i], List.getElem?_eq_getElem hi⟩
    have hm : z ∈ zs := List.mem_of_getElem? hzi
    have hp := hz.pos z hm
    have hb := hz.big z hm
    have hx : ixT (.v (.lst (zs.map .int))) (.v (.int (i : Int))) = some (.v (.int z)) := ix_lst (by simp [hzi])
    have ed : zs.drop i = z :: zs.drop (i + 1) := by
      rw [List.drop_eq_getElem_cons hi]
      rw [List.getElem?_eq_getElem hi] at hzi
      rw [Option.some.inj hzi]
    rw [ed] at hacc
    unfold numsL at hacc
    have p18 : binT .pow (.v (.int 10)) (.v (.int 18)) = some (.v (.int (10 ^ 18))) := by rw [powT_i, if_pos (by decide)]; rfl
    have e1 : (0 : Int) + (i : Int) * 1 = i := by omega
    have hl : (vis acc).length < 16000000 := by rw [List.length_map]; omega
    have ht : ∀ q : Int, mutT .append (some (T.l (vis acc))) [.v (.int q)] = some (.l (vis acc ++ [.v (.int q)])) := fun q => app_ok hl rfl
    have no : ¬ ((10 : Int) ^ 18 ≤ numOf c ∧ 0 < l) → turnOk (fun Γ => ∃ l acc, Γ = [some (vi c), some (vi s), some (.v (.lst (zs.map .int))), some (vi (numOf c)), some (vi l), some (.l (vis acc)), none, none] ∧ acc ++ numsL (numOf c) s (i + 1) l (zs.drop (i + 1)) = nums c s zs ∧ acc.length = i + 1)
        (fun r => toCR [] (r.seq fun Γ1 => evSs (evF P con k) con (.cons (.ret [] (.mov 5)) .nil) Γ1) = .ret (.l (vis (nums c s zs))) []) (forS (evF P con k) con (.nm 6) c_numbers_b1 (.v (.int i)) [some (vi c), some (vi s), some (.v (.lst (zs.map .int))), some (vi (numOf c)), some (vi l), some (.l (vis acc)), none, none]) := by
      intro hn
      rw [if_neg hn] at hacc
      have m1 : mulT (.v (.int 7919)) (vi s) = some (.v (.int (7919 * s))) := mul64 (by omega) (by omega)
      have m2 : mulT (.v (.int 101)) (.v (.int i)) = some (.v (.int (101 * i))) := mul64 (by omega) (by omega)
      have m3 : mulT (.v (.int (101 * i))) (.v (.int i)) = some (.v (.int (101 * i * i))) := mul64 (by omega) (by omega)
      obtain ⟨a, ha⟩ : ∃ a, a = (numOf c + 7919 * s + 101 * i * i + i).fmod 2147483647 := ⟨_, rfl⟩
      have b1 : 0 ≤ a ∧ a < 2147483647 := ha ▸ fm (by decide)
      have m4 : mulT (.v (.int a)) (.v (.int 48271)) = some (.v (.int (a * 48271))) := mul64 (by omega) (by omega)
      obtain ⟨b, hb'⟩ : ∃ b, b = (a * 48271).fmod 2147483647 := ⟨_, rfl⟩
      have b2 : 0 ≤ b ∧ b < 2147483647 := hb' ▸ fm (by decide)
      have m5 : mulT (.v (.int b)) (.v (.int b)) = some (.v (.int (b * b))) := mul64 (by omega) (by omega)
      obtain ⟨d, hd'⟩ : ∃ d, d = (b * b).fmod 2147483629 := ⟨_, rfl⟩
      have b3 : 0 ≤ d ∧ d < 2147483629 := hd' ▸ fm (by decide)
      have m6 : mulT (.v (.int d)) (.v (.int 48271)) = some (.v (.int (d * 48271))) := mul64 (by omega) (by omega)
      have q1 : binT .mod (.v (.int (numOf c + 7919 * s + 101 * i * i + i))) (.v (.int 2147483647)) = some (.v (.int a)) := by rw [mod_ok (by decide), ha]
      have q2 : binT .mod (.v (.int (a * 48271))) (.v (.int 2147483647)) = some (.v (.int b)) := by rw [mod_ok (by decide), hb']
      have q3 : binT .mod (.v (.int (b * b))) (.v (.int 2147483629)) = some (.v (.int d)) := by rw [mod_ok (by decide), hd']
      have q4 : binT .mod (.v (.int (d * 48271))) (.v (.int 2147483647)) = some (.v (.int ((d * 48271).fmod 2147483647))) := mod_ok (by decide)
      have q5 : ∀ q : Int, binT .fdiv (.v (.int q)) (.v (.int 16)) = some (.v (.int (q / 16))) := fun q => fdiv_ok (by decide) (by decide)
      have q6 : ∀ q : Int, binT .mod (.v (.int q)) (.v (.int z)) = some (.v (.int (q.fmod z))) := fun q => mod_ok hp
      have eh : numH (numOf c) s i = (d * 48271).fmod 2147483647 / 16 := by unfold numH; rw [← ha, ← hb', ← hd']
      rw [eh] at hacc
      by_cases c1 : 1000000000000000000 ≤ numOf c
      · have c2 : ¬ 0 < l := fun z => hn ⟨c1, z⟩
        have e : forS (evF P con k) con (.nm 6) c_numbers_b1 (.v (.int i)) [some (vi c), some (vi s), some (.v (.lst (zs.map .int))), some (vi (numOf c)), some (vi l), some (.l (vis acc)), none, none] = .nx [some (vi c), some (vi s), some (.v (.lst (zs.map .int))), some (vi (numOf c)), some (vi l), some (.l (vis acc ++ [vi (((d * 48271).fmod 2147483647 / 16).fmod z)])), none, none] := by
          simp -implicitDefEqProofs [forS, bindTg, c_numbers_b1, p18, c1, c2, m1, m2, m3, m4, m5, m6, q1, q2, q3, q4, q5, q6, hx, ht]
        rw [e]
        exact ⟨l, acc ++ [((d * 48271).fmod 2147483647 / 16).fmod z], by rw [vis_app], by simpa using hacc, by simp [hlen]⟩
      · have e : forS (evF P con k) con (.nm 6) c_numbers_b1 (.v (.int i)) [some (vi c), some (vi s), some (.v (.lst (zs.map .int))), some (vi (numOf c)), some (vi l), some (.l (vis acc)), none, none] = .nx [some (vi c), some (vi s), some (.v (.lst (zs.map .int))), some (vi (numOf c)), some (vi l), some (.l (vis acc ++ [vi (((d * 48271).fmod 2147483647 / 16).fmod z)])), none, none] := by
          simp -implicitDefEqProofs [forS, bindTg, c_numbers_b1, p18, c1, m1, m2, m3, m4, m5, m6, q1, q2, q3, q4, q5, q6, hx, ht]
        rw [e]
        exact ⟨l, acc ++ [((d * 48271).fmod 2147483647 / 16).fmod z], by rw [vis_app], by simpa using hacc, by simp [hlen]⟩
    rw [e1]
    by_cases c1 : 1000000000000000000 ≤ numOf c
    · by_cases c2 : 0 < l
      · rw [if_pos ⟨c1, c2⟩] at hacc
        have e : forS (evF P con k) con (.nm 6) c_numbers_b1 (.v (.int i)) [some (vi c), some (vi s), some (.v (.lst (zs.map .int))), some (vi (numOf c)), some (vi l), some (.l (vis acc)), none, none] = .nx [some (vi c), some (vi s), some (.v (.lst (zs.map .int))), some (vi (numOf c)), some (vi (l / z)), some (.l (vis acc ++ [vi (l.fmod z)])), none, none] := by
          simp -implicitDefEqProofs [forS, bindTg, c_numbers_b1, p18, c1, c2, hx, mod_ok hp, fdiv_ok hp hb, ht]
        rw [e]
        exact ⟨l / z, acc ++ [l.fmod z], by rw [vis_app], by simpa using hacc, by simp [hlen]⟩
      · exact no fun q => c2 q.2
    · exact no fun q => c1 q.1
  · rintro Γ ⟨l, acc, rfl, hacc, hlen⟩
    simp -implicitDefEqProofs
    rw [rangeT_length, List.drop_length] at hacc
    simp only [numsL, List.append_nil] at hacc
    rw [hacc]
def c_sign : Fn := ⟨1, 2, [], 
  (.cons (.set 1 (.str k_sg1)) 
  (.cons (.setF 1 (.bin .add (.frz 1) (.str k_sg2))) 
  (.cons (.ret [] (.ix (.frz 1) (.bin .mod (.frz 0) (.int 96)))) .nil)))⟩


def signs : List Nat := k_sg1 ++ k_sg2
theorem ev_sign {P : String → Option Fn} {con : String → Option D} {k : Nat} {q : Int} (h : P "_law_sign" = some c_sign) : ∃ c, c ∈ signs ∧ evF P con (k + 1) "_law_sign" [.v (.int q)] = .ret (.v (.str [c])) [] := by
  rw [evF_at h rfl rfl]
  have b := fm (a := q) (m := 96) (by decide)
  obtain ⟨c, hc⟩ : ∃ c, (k_sg1 ++ k_sg2)[(q.fmod 96).toNat]? = some c :=
    ⟨_, List.getElem?_eq_getElem (by rw [show (k_sg1 ++ k_sg2).length = 96 by decide]; omega)⟩
  refine ⟨c, List.mem_of_getElem? hc, ?_⟩
  have hx := ix_str b.1 hc
  have l : k_sg1.length + k_sg2.length = 96 := by decide
  simp -implicitDefEqProofs [c_sign, env0, hx, l]
end Tv

namespace Tv
open PySem
def k_copies : List Nat := [99, 111, 112, 105, 101, 115]
def c_is_whole : Fn := ⟨1, 1, [], 
  (.cons (.ret [] (.and (.isi (.frz 0) .int) (.not (.isi (.frz 0) .bool)))) .nil)⟩

def c_need_row : Fn := ⟨3, 3, [], 
  (.cons (.ife (.or (.not (.isi (.frz 1) .list)) (.not (.cmp2 .le .le (.int 1) (.blt .len (.cons (.frz 1) .nil)) (.frz 2)))) (
    (.cons (.dead) .nil)) ((.kill [0, 1, 2] .nil))) .nil)⟩

def c_is_many : Fn := ⟨1, 1, [], 
  (.cons (.ret [] (.and (.call "is_whole" (.cons (.frz 0) .nil)) (.cmp2 .le .le (.int 0) (.frz 0) (.glb "MOST_COPIES")))) .nil)⟩

def c_is_thing : Fn := ⟨2, 2, [], 
  (.cons (.ret [] (.and (.call "is_whole" (.cons (.frz 0) .nil)) (.cmp2 .le .lt (.int 0) (.frz 0) (.frz 1)))) .nil)⟩

def c_are_ranks_b1 : Ss := 
      (.cons (.ife (.or (.not (.call "is_thing" (.cons (.frz 4) (.cons (.frz 1) .nil)))) (.cmp .isIn (.frz 4) (.var 2))) (
        (.cons (.ret [] (.bl false)) .nil)) (.nil)) 
      (.cons (.mut .append (.nm 2) (.cons (.frz 4) .nil)) (.kill [4] .nil)))
def c_are_ranks_b2 : Ss := 
    (.cons (.ife (.or (.not (.isi (.frz 3) .list)) (.cmp .eq (.frz 3) (.lst .nil))) (
      (.cons (.ret [] (.bl false)) .nil)) (.nil)) 
    (.cons (.for (.nm 4) (.seq (.frz 3)) c_are_ranks_b1) (.kill [3] .nil)))
def c_are_ranks : Fn := ⟨2, 5, [], 
  (.cons (.ife (.or (.not (.isi (.frz 0) .list)) (.cmp .gt (.blt .len (.cons (.frz 0) .nil)) (.glb "MOST_RANKS"))) (
    (.cons (.ret [] (.bl false)) .nil)) (.nil)) 
  (.cons (.set 2 (.lst .nil)) 
  (.cons (.for (.nm 3) (.seq (.frz 0)) c_are_ranks_b2) 
  (.cons (.ret [] (.bl true)) .nil))))⟩

def c_look_at_wishes_b1 : Ss := 
    (.cons (.ife (.not (.call "is_many" (.cons (.frz 4) .nil))) (
      (.cons (.dead) .nil)) ((.kill [3, 4] .nil))) .nil)
def c_look_at_wishes_b2 : Ss := 
    (.cons (.ife (.not (.call "are_ranks" (.cons (.frz 5) (.cons (.blt .len (.cons (.frz 1) .nil)) .nil)))) (
      (.cons (.dead) .nil)) ((.kill [3, 5] .nil))) .nil)
def c_look_at_wishes : Fn := ⟨1, 6, [], 
  (.cons (.ife (.or (.not (.isi (.frz 0) .tuple)) (.cmp .ne (.blt .len (.cons (.frz 0) .nil)) (.int 2))) (
    (.cons (.dead) .nil)) (.nil)) 
  (.cons (.setT [1, 2] (.frz 0)) (.kill [0] 
  (.cons (.ex (.call "need_row" (.cons (.str k_copies) (.cons (.frz 1) (.cons (.glb "MOST_THINGS") .nil))))) 
  (.cons (.for (.tp [3, 4]) (.enum (.frz 1)) c_look_at_wishes_b1) 
  (.cons (.ex (.call "need_row" (.cons (.str [108, 105, 115, 116, 115]) (.cons (.frz 2) (.cons (.glb "MOST_ASKERS") .nil))))) 
  (.cons (.for (.tp [3, 5]) (.enum (.frz 2)) c_look_at_wishes_b2) (.kill [1, 2] .nil))))))))⟩

def c_l_cell_at : Fn := ⟨2, 2, [], 
  (.cons (.ife (.cmp .lt (.frz 1) (.blt .len (.cons (.frz 0) .nil))) (
    (.cons (.ret [] (.ix (.frz 0) (.frz 1))) .nil)) ((.kill [0, 1] .nil))) 
  (.cons (.ret [] (.int 0)) .nil))⟩

def c_l_wishes_e1 : E := .ix (.lst (.cons (.int 1) (.cons (.int 1) (.cons (.int 2) (.cons (.int 0) (.cons (.int 3) (.cons (.int 7) (.cons (.int 1) (.cons (.int 4) (.cons (.int 5) (.cons (.int 6) (.cons (.int 1) .nil)))))))))))) (.frz 14)
def c_l_wishes_e2 : E := .frz 16
def c_l_wishes_b1 : Ss := 
      (.cons (.setF 15 (.lc [16] (.nm 16) (.rng1 (.blt .len (.cons (.var 7) .nil))) (.so (.cmp .eq (.ix (.frz 11) (.frz 16)) (.frz 13))) c_l_wishes_e2)) (.kill [13] 
      (.cons (.ife (.cmp .ne (.frz 15) (.lst .nil)) (
        (.cons (.mut .append (.nm 12) (.cons (.ix (.lst (.cons (.frz 15) (.cons (.rev (.frz 15)) .nil))) (.ix (.frz 11) (.neg (.int 1)))) .nil)) (.kill [15] .nil))) ((.kill [15] .nil))) .nil)))
def c_l_wishes_b2 : Ss := 
    (.cons (.setF 10 (.call "_law_cell_at" (.cons (.frz 0) (.cons (.bin .add (.bin .add (.frz 1) (.int 1)) (.frz 9)) .nil)))) 
    (.cons (.setF 11 (.call "_law_numbers" (.cons (.frz 10) (.cons (.bin .add (.bin .add (.bin .mul (.int 11) (.frz 1)) (.bin .mul (.int 3) (.frz 9))) (.int 1)) (.cons (.bin .add (.bin .mul (.lst (.cons (.bin .add (.frz 4) (.int 1)) .nil)) (.frz 2)) (.lst (.cons (.int 2) .nil))) .nil))))) (.kill [9, 10] 
    (.cons (.set 12 (.lst .nil)) 
    (.cons (.for (.nm 13) (.rng2 (.int 1) (.bin .add (.frz 4) (.int 1))) c_l_wishes_b1) (.kill [11] 
    (.cons (.mut .append (.nm 8) (.cons (.mov 12) .nil)) (.kill [12] .nil))))))))
def c_l_wishes : Fn := ⟨5, 17, [], 
  (.cons (.setF 5 (.bin .add (.lst (.cons (.frz 2) (.cons (.frz 3) .nil))) (.bin .mul (.lst (.cons (.int 11) .nil)) (.frz 2)))) 
  (.cons (.setF 6 (.call "_law_numbers" (.cons (.call "_law_cell_at" (.cons (.frz 0) (.cons (.frz 1) .nil))) (.cons (.frz 1) (.cons (.frz 5) .nil))))) 
  (.cons (.set 7 (.lc [14] (.nm 14) (.seq (.sl (.frz 6) (.so (.int 2)) (.so (.bin .add (.int 3) (.ix (.frz 6) (.int 0)))))) .no c_l_wishes_e1)) 
  (.cons (.set 8 (.lst .nil)) 
  (.cons (.for (.nm 9) (.rng1 (.bin .add (.int 1) (.ix (.frz 6) (.int 1)))) c_l_wishes_b2) 
  (.cons (.ret [] (.tup (.cons (.mov 7) (.cons (.mov 8) .nil)))) .nil))))))⟩


section
variable {P : String → Option Fn} {con : String → Option D} {k : Nat} {d : D}
def isWhole : D → Bool
  | .int _ => true
  | _ => false
theorem ev_is_whole (h : P "is_whole" = some c_is_whole) (hd : d.tyOk = true) : evF P con (k + 1) "is_whole" [.v d] = .ret (.v (.bl (isWhole d))) [] := by
  rw [evF_at h rfl rfl]
  simp -implicitDefEqProofs [c_is_whole, env0, hd]
  cases d <;> first | (cases hd; done) | simp -implicitDefEqProofs [D.isi, isWhole]
def isBetween (a b : Int) : D → Bool
  | .int i => decide (a ≤ i ∧ i ≤ b)
  | _ => false
theorem ev_is_many (h : P "is_many" = some c_is_many) (h1 : P "is_whole" = some c_is_whole) (h2 : con "MOST_COPIES" = some (.int 7)) (hd : d.tyOk = true) : evF P con (k + 2) "is_many" [.v d] = .ret (.v (.bl (isBetween 0 7 d))) [] := by
  rw [evF_at h rfl rfl]
  have w := ev_is_whole (P := P) (con := con) (k := k) (d := d) h1 hd
  cases d with
  | int i =>
    by_cases c1 : 0 ≤ i
    · by_cases c2 : i ≤ 7 <;> simp -implicitDefEqProofs [c_is_many, env0, w, isWhole, isBetween, h2, c1, c2]
    · simp -implicitDefEqProofs [c_is_many, env0, w, isWhole, isBetween, h2, c1]
  | _ => simp -implicitDefEqProofs [c_is_many, env0, w, isWhole, isBetween]
theorem ev_is_thing {n : Int} (h : P "is_thing" = some c_is_thing) (h1 : P "is_whole" = some c_is_whole) (hd : d.tyOk = true) : evF P con (k + 2) "is_thing" [.v d, .v (.int n)] = .ret (.v (.bl (isBetween 0 (n - 1) d))) [] := by
  rw [evF_at h rfl rfl]
  have w := ev_is_whole (P := P) (con := con) (k := k) (d := d) h1 hd
  cases d with
  | int i =>
    by_cases c1 : 0 ≤ i
    · by_cases c2 : i < n
      · have c3 : i ≤ n - 1 := by omega
        simp -implicitDefEqProofs [c_is_thing, env0, w, isWhole, isBetween, c1, c2, c3]
      · have c3 : ¬ i ≤ n - 1 := by omega
        simp -implicitDefEqProofs [c_is_thing, env0, w, isWhole, isBetween, c1, c2, c3]
    · simp -implicitDefEqProofs [c_is_thing, env0, w, isWhole, isBetween, c1]
  | _ => simp -implicitDefEqProofs [c_is_thing, env0, w, isWhole, isBetween]
/-- one rank's things -/
def goRank (n : Int) : List D → List Int → Option (List Int)
  | [], seen => some seen
  | .int i :: r, seen => if 0 ≤ i ∧ i < n ∧ i ∉ seen then goRank n r (seen ++ [i]) else none
  | _ :: _, _ => none
def goRanks (n : Int) : List D → List Int → Option (List Int)
  | [], seen => some seen
  | .lst xs :: r, seen => if xs = [] then none else (goRank n xs seen).bind (goRanks n r)
  | _ :: _, _ => none
def areRanks (n : Int) : D → Bool
  | .lst rs => decide (rs.length ≤ 5) && (goRanks n rs []).isSome
  | _ => false
theorem eqD_int (i j : Int) : eqD (.int i) (.int j) = decide (i = j) := by
  simp [eqD, D.py, PyData.eqv]; rfl
theorem in_ints {i : Int} {xs : List Int} : inT (.v (.int i)) (.b (.lst (xs.map .int))) = some (decide (i ∈ xs)) := by
  have e : asQ (.b (.lst (xs.map .int))) = some (xs.map fun i => T.v (.int i)) := by
    simp only [asQ, List.map_map, Option.some.injEq]; apply List.map_congr_left; intro j _; simp
  simp only [inT, e]
  have f : ((T.v (.int i)).er.flat && (xs.map fun i => T.v (.int i)).all fun t => t.er.flat) = true := by
    rw [Bool.and_eq_true]
    refine ⟨by simp [D.flat], ?_⟩
    rw [List.all_eq_true]
    intro t ht
    obtain ⟨j, _, rfl⟩ := List.mem_map.mp ht
    simp [D.flat]
  rw [if_pos f]
  congr 1
  rw [Bool.eq_iff_iff, List.any_eq_true, decide_eq_true_eq]
  constructor
  · rintro ⟨t, ht, h⟩
    obtain ⟨j, hj, rfl⟩ := List.mem_map.mp ht
    rw [er_v, er_v, eqD_int, decide_eq_true_eq] at h
    rw [← h]; exact hj
  · intro h
    exact ⟨_, List.mem_map.mpr ⟨i, h, rfl⟩, by simp [eqD_int]⟩
theorem okD_ty {d : D} {n : Nat} (h : d.okD n = true) : d.tyOk = true := by
  cases d with
  | dct t ks vs => cases n <;> simp [D.okD] at h
  | obj c ns vs => cases n <;> simp [D.okD] at h
  | exc c ns vs => cases n <;> simp [D.okD] at h
  | _ => rfl
theorem okDs_mem {n : Nat} : ∀ {ds : List D}, D.okDs ds n = true → ∀ d ∈ ds, d.okD n = true
  | [], _, d, h => by simp at h
  | e :: ds, h, d, hd => by
    simp only [D.okDs, Bool.and_eq_true] at h
    rcases List.mem_cons.mp hd with rfl | hd
    · exact h.1
    · exact okDs_mem h.2 d hd
theorem goRank_len {n : Int} : ∀ {xs : List D} {seen out : List Int}, goRank n xs seen = some out → out.length = seen.length + xs.length
  | [], seen, out, h => by cases h; simp
  | d :: r, seen, out, h => by
    cases d with
    | int i =>
      unfold goRank at h
      split at h
      · have := goRank_len h; simp at this ⊢; omega
      · cases h
    | _ => cases h
abbrev gk (d : D) (n : Int) (seen : List Int) (j3 : Option T) : Env := [some (.v d), some (vi n), some (.l (vis seen)), j3, none]
theorem forL_nil (b : T → Env → SR) (r : Env) : forL b [] r = .nx r := rfl
theorem forL_rt {b : T → Env → SR} {d : T} {ds : List T} {r r1 : Env} {t : T} (h : b d r = .rt t r1) : forL b (d :: ds) r = .rt t r1 := by simp only [forL, h]
theorem forL_nx {b : T → Env → SR} {d : T} {ds : List T} {r r1 : Env} (h : b d r = .nx r1) : forL b (d :: ds) r = forL b ds r1 := by simp only [forL, h]
def rtIs (t : T) (r : SR) : Prop := ∃ Γ, r = .rt t Γ
@[simp] theorem rtIs_rt (t : T) (Γ : Env) : rtIs t (.rt t Γ) = True := by simp [rtIs]
/-- the inner loop -/
theorem rank_loop {n : Int} {d0 : D} {j3 : Option T} (h : P "is_thing" = some c_is_thing) (h1 : P "is_whole" = some c_is_whole) : ∀ (xs : List D) (seen : List Int), seen.length + xs.length ≤ 10000000 → (∀ x ∈ xs, x.tyOk = true) →
    match goRank n xs seen with
    | some out => forL (forS (evF P con (k + 2)) con (.nm 4) c_are_ranks_b1) (xs.map T.v) (gk d0 n seen j3) = .nx (gk d0 n out j3)
    | none => ∃ Γ, forL (forS (evF P con (k + 2)) con (.nm 4) c_are_ranks_b1) (xs.map T.v) (gk d0 n seen j3) = .rt (.v (.bl false)) Γ
  | [], seen, _, _ => rfl
  | x :: xs, seen, hl, ht => by
    have t := ev_is_thing (P := P) (con := con) (k := k) (d := x) (n := n) h h1 (ht x (by simp))
    rw [List.length_cons] at hl
    rw [List.map_cons]
    have odd : isBetween 0 (n - 1) x = false → ∃ Γ, forL (forS (evF P con (k + 2)) con (.nm 4) c_are_ranks_b1) (.v x :: xs.map T.v) (gk d0 n seen j3) = .rt (.v (.bl false)) Γ := by
      intro hx
      have e : rtIs (.v (.bl false)) (forS (evF P con (k + 2)) con (.nm 4) c_are_ranks_b1 (.v x) (gk d0 n seen j3)) := by
        simp -implicitDefEqProofs [forS, c_are_ranks_b1, t, hx]
      obtain ⟨Γ, e⟩ := e
      exact ⟨Γ, forL_rt e⟩
    cases x with
    | int i =>
      by_cases c : 0 ≤ i ∧ i < n ∧ i ∉ seen
      · have c3 : i ≤ n - 1 := by omega
        have hap : mutT .append (some (.l (vis seen))) [.v (.int i)] = some (.l (vis (seen ++ [i]))) := by rw [app_ok (by rw [List.length_map]; omega) rfl, vis_app]
        have e : forS (evF P con (k + 2)) con (.nm 4) c_are_ranks_b1 (.v (.int i)) (gk d0 n seen j3) = .nx (gk d0 n (seen ++ [i]) j3) := by
          simp -implicitDefEqProofs [forS, c_are_ranks_b1, t, isBetween, c.1, c3, in_ints, c.2.2, hap, Function.comp_def]
        have ih := rank_loop (n := n) (d0 := d0) (j3 := j3) h h1 xs (seen ++ [i]) (by simp; omega) (fun y hy => ht y (by simp [hy]))
        unfold goRank
        rw [if_pos c]
        rw [forL_nx e]
        exact ih
      · unfold goRank
        rw [if_neg c]
        by_cases c1 : 0 ≤ i ∧ i ≤ n - 1
        · have c2 : i ∈ seen := Decidable.byContradiction fun q => c ⟨c1.1, by omega, q⟩
          have e : rtIs (.v (.bl false)) (forS (evF P con (k + 2)) con (.nm 4) c_are_ranks_b1 (.v (.int i)) (gk d0 n seen j3)) := by
            simp -implicitDefEqProofs [forS, c_are_ranks_b1, t, isBetween, c1, in_ints, c2, Function.comp_def]
          obtain ⟨Γ, e⟩ := e
          exact ⟨Γ, forL_rt e⟩
        · exact odd (by simp [isBetween]; omega)
    | _ => exact odd rfl
theorem ranks_loop {n : Int} {d0 : D} (h : P "is_thing" = some c_is_thing) (h1 : P "is_whole" = some c_is_whole) : ∀ (rs : List D) (seen : List Int), seen.length + (rs.map fun d => match d with
      | .lst xs => xs.length
      | _ => 0).sum ≤ 10000000 → (∀ d ∈ rs, d.okD 60 = true) →
    match goRanks n rs seen with
    | some out => forL (forS (evF P con (k + 2)) con (.nm 3) c_are_ranks_b2) (rs.map T.v) (gk d0 n seen none) = .nx (gk d0 n out none)
    | none => ∃ Γ, forL (forS (evF P con (k + 2)) con (.nm 3) c_are_ranks_b2) (rs.map T.v) (gk d0 n seen none) = .rt (.v (.bl false)) Γ
  | [], seen, _, _ => rfl
  | r :: rs, seen, hl, hd => by
    rw [List.map_cons]
    have odd : r.isi .list = false → ∃ Γ, forL (forS (evF P con (k + 2)) con (.nm 3) c_are_ranks_b2) (.v r :: rs.map T.v) (gk d0 n seen none) = .rt (.v (.bl false)) Γ := by
      intro hx
      have ht := okD_ty (hd r (by simp))
      have e : rtIs (.v (.bl false)) (forS (evF P con (k + 2)) con (.nm 3) c_are_ranks_b2 (.v r) (gk d0 n seen none)) := by
        simp -implicitDefEqProofs [forS, c_are_ranks_b2, hx, ht]
      obtain ⟨Γ, e⟩ := e
      exact ⟨Γ, forL_rt e⟩
    rw [List.map_cons, List.sum_cons] at hl
    cases r with
    | lst xs =>
      have eqn : eqT (.v (.lst xs)) (.l []) = some xs.isEmpty := by
        unfold Tv.eqT
        rw [er_v, er_l, hd _ List.mem_cons_self, List.map_nil, okD_60, eqD_nil]
        simp [D.okDs]
      have hty : (D.lst xs).tyOk = true := rfl
      by_cases c : xs = []
      · subst c
        have e0 : goRanks n (.lst [] :: rs) seen = none := by simp [goRanks]
        rw [e0]
        have e : rtIs (.v (.bl false)) (forS (evF P con (k + 2)) con (.nm 3) c_are_ranks_b2 (.v (.lst [])) (gk d0 n seen none)) := by
          simp -implicitDefEqProofs [forS, c_are_ranks_b2, D.isi, eqn, hty]
        obtain ⟨Γ, e⟩ := e
        exact ⟨Γ, forL_rt e⟩
      · have hne : xs.isEmpty = false := by cases xs with
          | nil => exact absurd rfl c
          | cons _ _ => rfl
        rw [hne] at eqn
        have hl' : seen.length + xs.length ≤ 10000000 := by dsimp only at hl; omega
        have hxs : ∀ x ∈ xs, x.tyOk = true := fun x hx => by
          have := hd _ List.mem_cons_self
          rw [okD_60] at this
          exact okD_ty (okDs_mem this x hx)
        have q := rank_loop (P := P) (con := con) (k := k) (n := n) (d0 := d0) (j3 := some (.v (.lst xs))) h h1 xs seen hl' hxs
        have unfoldStep : forS (evF P con (k + 2)) con (.nm 3) c_are_ranks_b2 (.v (.lst xs)) (gk d0 n seen none) = (forL (forS (evF P con (k + 2)) con (.nm 4) c_are_ranks_b1) (xs.map T.v) (gk d0 n seen (some (.v (.lst xs))))).seq fun Γ1 => .nx (Γ1.set 3 none) := by
          simp -implicitDefEqProofs [forS, c_are_ranks_b2, D.isi, eqn, hty]
        have e0 : goRanks n (.lst xs :: rs) seen = (goRank n xs seen).bind (goRanks n rs) := by simp [goRanks, c]
        rw [e0]
        cases hg : goRank n xs seen with
        | none =>
          rw [hg] at q
          obtain ⟨Γ, q⟩ := q
          rw [q] at unfoldStep
          exact ⟨Γ, forL_rt unfoldStep⟩
        | some out1 =>
          have hlen := goRank_len hg
          rw [hg] at q
          rw [q] at unfoldStep
          have ih := ranks_loop (n := n) (d0 := d0) h h1 rs out1 (by dsimp only at hl; omega) (fun d hd' => hd d (by simp [hd']))
          have st : forS (evF P con (k + 2)) con (.nm 3) c_are_ranks_b2 (.v (.lst xs)) (gk d0 n seen none) = .nx (gk d0 n out1 none) := unfoldStep
          rw [forL_nx st]
          exact ih
    | scr ns => exact absurd (hd _ List.mem_cons_self) (by simp [D.okD])
    | _ => exact odd rfl
/-- how many things stand in the ranks, at most -/
def sizeR : D → Nat
  | .lst rs => (rs.map fun d => match d with
      | .lst xs => xs.length
      | _ => 0).sum
  | _ => 0
theorem ev_are_ranks {n : Int} (h0 : P "are_ranks" = some c_are_ranks) (h : P "is_thing" = some c_is_thing) (h1 : P "is_whole" = some c_is_whole) (h2 : con "MOST_RANKS" = some (.int 5)) (hs : sizeR d ≤ 10000000) (hd : d.okD 61 = true) :
    evF P con (k + 3) "are_ranks" [.v d, .v (.int n)] = .ret (.v (.bl (areRanks n d))) [] := by
  rw [evF_at h0 rfl rfl]
  have hty := okD_ty hd
  have odd : d.isi .list = false → toCR c_are_ranks.io (evSs (evF P con (k + 2)) con c_are_ranks.body (env0 [.v d, .v (.int n)] c_are_ranks.ns)) = .ret (.v (.bl false)) [] := fun hx => by
    simp -implicitDefEqProofs [c_are_ranks, env0, hx, hty]
  cases d with
  | lst rs =>
    have hd' : ∀ d ∈ rs, d.okD 60 = true := okDs_mem (by simpa [D.okD] using hd)
    have q := ranks_loop (P := P) (con := con) (k := k) (n := n) (d0 := .lst rs) h h1 rs [] (by simpa [sizeR] using hs) hd'
    have i1 : (D.lst rs).isi .list = true := rfl
    by_cases c : rs.length ≤ 5
    · have c' : ¬ (5 : Int) < rs.length := by omega
      have e : evSs (evF P con (k + 2)) con c_are_ranks.body (env0 [.v (.lst rs), .v (.int n)] c_are_ranks.ns) = (forL (forS (evF P con (k + 2)) con (.nm 3) c_are_ranks_b2) (rs.map T.v) (gk (.lst rs) n [] none)).seq fun Γ1 => .rt (.v (.bl true)) (keepIo [] Γ1) := by
        simp -implicitDefEqProofs [c_are_ranks, env0, i1, h2, c', hty]
        try rfl
      rw [e]
      show toCR [] _ = _
      cases hg : goRanks n rs [] with
      | none =>
        rw [hg] at q
        obtain ⟨Γ, q⟩ := q
        rw [q]
        simp [areRanks, hg]
      | some out =>
        rw [hg] at q
        rw [q]
        simp [areRanks, hg, c]
    · have c' : (5 : Int) < rs.length := by omega
      simp -implicitDefEqProofs [c_are_ranks, env0, i1, h2, c', areRanks, c, hty]
  | scr ns => exact absurd hd (by simp [D.okD])
  | _ => exact odd rfl
theorem ev_need_row {p : List Nat} {xs : List D} {n : Int} (h : P "need_row" = some c_need_row) (h1 : 1 ≤ xs.length) (h2 : (xs.length : Int) ≤ n) : evF P con (k + 1) "need_row" [.v (.str p), .v (.lst xs), .v (.int n)] = .ret (.v .non) [] := by
  rw [evF_at h rfl rfl]
  have c1 : (1 : Int) ≤ xs.length := by omega
  have hty : (D.lst xs).tyOk = true := rfl
  have i1 : (D.lst xs).isi .list = true := rfl
  simp -implicitDefEqProofs [c_need_row, env0, i1, hty, c1, h2]
/-- good wishes -/
structure OkW (cs ls : List D) : Prop where
  c1 : 1 ≤ cs.length
  c2 : cs.length ≤ 6
  cb : ∀ d ∈ cs, isBetween 0 7 d = true
  ct : ∀ d ∈ cs, d.tyOk = true
  l1 : 1 ≤ ls.length
  l2 : ls.length ≤ 7
  lr : ∀ d ∈ ls, areRanks cs.length d = true
  ok : ∀ d ∈ ls, d.okD 61 = true
  sz : ∀ d ∈ ls, sizeR d ≤ 10000000
structure PLook (P : String → Option Fn) (con : String → Option D) : Prop where
  look : P "look_at_wishes" = some c_look_at_wishes
  need : P "need_row" = some c_need_row
  many : P "is_many" = some c_is_many
  ranks : P "are_ranks" = some c_are_ranks
  thing : P "is_thing" = some c_is_thing
  whole : P "is_whole" = some c_is_whole
  mt : con "MOST_THINGS" = some (.int 6)
  mc : con "MOST_COPIES" = some (.int 7)
  ma : con "MOST_ASKERS" = some (.int 7)
  mr : con "MOST_RANKS" = some (.int 5)
theorem getT_zip {ts : List T} {n i : Nat} {d : T} (h : ((ts.zipIdx n).map fun p => T.tp [.v (.int p.2), p.1])[i]? = some d) : ∃ x, ts[i]? = some x ∧ d = .tp [.v (.int ((n + i : Nat) : Int)), x] := by
  rw [List.getElem?_map] at h
  obtain ⟨p, hp, rfl⟩ := Option.map_eq_some_iff.mp h
  rw [List.getElem?_zipIdx] at hp
  obtain ⟨x, hx, rfl⟩ := Option.map_eq_some_iff.mp hp
  exact ⟨x, hx, by simp⟩
/-- an environment that stays as it is -/
theorem forL_same {step : T → Env → SR} {Γ : Env} {ds : List T} (h : ∀ d ∈ ds, step d Γ = .nx Γ) : forL step ds Γ = .nx Γ := by
  induction ds with
  | nil => rfl
  | cons d ds ih => rw [forL_nx (h d (by simp))]; exact ih fun e he => h e (by simp [he])
theorem ev_look {cs ls : List D} (p : PLook P con) (h : OkW cs ls) : evF P con (k + 4) "look_at_wishes" [.v (.tup [.lst cs, .lst ls])] = .ret (.v .non) [] := by
  rw [evF_at p.look rfl rfl]
  have n1 := ev_need_row (P := P) (con := con) (k := k + 2) (p := k_copies) (xs := cs) (n := 6) p.need h.c1 (by have := h.c2; omega)
  have n2 := ev_need_row (P := P) (con := con) (k := k + 2) (p := [108, 105, 115, 116, 115]) (xs := ls) (n := 7) p.need h.l1 (by have := h.l2; omega)
  have l1 : forL (forS (evF P con (k + 3)) con (.tp [3, 4]) c_look_at_wishes_b1) ((cs.map T.v).zipIdx.map fun p => T.tp [.v (.int p.2), p.1]) [none, some (.v (.lst cs)), some (.v (.lst ls)), none, none, none] = .nx [none, some (.v (.lst cs)), some (.v (.lst ls)), none, none, none] := by
    refine forL_same fun d hd => ?_
    obtain ⟨i, hi⟩ := List.mem_iff_getElem?.mp hd
    obtain ⟨x, hx, rfl⟩ := getT_zip hi
    rw [List.getElem?_map] at hx
    obtain ⟨y, hy, rfl⟩ := Option.map_eq_some_iff.mp hx
    have hm := List.mem_of_getElem? hy
    have m := ev_is_many (P := P) (con := con) (k := k + 1) (d := y) p.many p.whole p.mc (h.ct y hm)
    rw [h.cb y hm] at m
    simp -implicitDefEqProofs [forS, c_look_at_wishes_b1, m]
  have l2 : forL (forS (evF P con (k + 3)) con (.tp [3, 5]) c_look_at_wishes_b2) ((ls.map T.v).zipIdx.map fun p => T.tp [.v (.int p.2), p.1]) [none, some (.v (.lst cs)), some (.v (.lst ls)), none, none, none] = .nx [none, some (.v (.lst cs)), some (.v (.lst ls)), none, none, none] := by
    refine forL_same fun d hd => ?_
    obtain ⟨i, hi⟩ := List.mem_iff_getElem?.mp hd
    obtain ⟨x, hx, rfl⟩ := getT_zip hi
    rw [List.getElem?_map] at hx
    obtain ⟨y, hy, rfl⟩ := Option.map_eq_some_iff.mp hx
    have hm := List.mem_of_getElem? hy
    have m := ev_are_ranks (P := P) (con := con) (k := k) (d := y) (n := (cs.length : Int)) p.ranks p.thing p.whole p.mr (h.sz y hm) (h.ok y hm)
    rw [h.lr y hm] at m
    simp -implicitDefEqProofs [forS, c_look_at_wishes_b2, m]
  have hty : (D.tup [.lst cs, .lst ls]).tyOk = true := rfl
  have i1 : (D.tup [.lst cs, .lst ls]).isi .tuple = true := rfl
  simp -implicitDefEqProofs [c_look_at_wishes, env0, i1, hty, p.mt, p.ma]
  simp -implicitDefEqProofs [n1, n2, l1, l2]
end
end Tv

namespace Tv
open PySem
section
variable {P : String → Option Fn} {con : String → Option D} {k : Nat}
mutual
theorem eqv_py : ∀ (d : D) (n : Nat), d.okD n = true → PyData.eqv d.py d.py = true
  | .non, _, _ => by simp [D.py, PyData.eqv]
  | .bl b, _, _ => by simp [D.py, PyData.eqv]
  | .int i, _, _ => by simp [D.py, PyData.eqv]
  | .str s, _, _ => by simp [D.py, PyData.eqv]
  | .lst xs, n + 1, h => by simp only [D.okD] at h; simp [D.py, PyData.eqv, eqvs_py xs n h]
  | .tup xs, n + 1, h => by simp only [D.okD] at h; simp [D.py, PyData.eqv, eqvs_py xs n h]
  | .lst xs, 0, h => by simp [D.okD] at h
  | .tup xs, 0, h => by simp [D.okD] at h
  | .scr ns, _, h => by simp [D.okD] at h
  | .ktp ds, _, h => by simp [D.okD] at h
  | .dct _ _ _, _, h => by simp [D.okD] at h
  | .obj _ _ _, _, h => by simp [D.okD] at h
  | .exc _ _ _, _, h => by simp [D.okD] at h
theorem eqvs_py : ∀ (ds : List D) (n : Nat), D.okDs ds n = true → PyData.eqvAll (D.pys ds) (D.pys ds) = true
  | [], _, _ => by simp [D.pys, PyData.eqvAll]
  | d :: ds, n, h => by
    simp only [D.okDs, Bool.and_eq_true] at h
    simp [D.pys, PyData.eqvAll, eqv_py d n h.1, eqvs_py ds n h.2]
end
theorem eqD_self {d : D} {n : Nat} (h : d.okD n = true) : eqD d d = true := eqv_py d n h
theorem eqT_self {x y : T} {d : D} (hx : x.er = d) (hy : y.er = d) (h : d.okD 60 = true) : eqT x y = some true := by
  unfold Tv.eqT
  rw [hx, hy, h, eqD_self h]; rfl
def cellAt (ns : List Int) (i : Nat) : Int := (ns[i]?).getD 0
theorem ev_cell_at {ns : List Int} {i : Nat} (h : P "_law_cell_at" = some c_l_cell_at) : evF P con (k + 1) "_law_cell_at" [.v (.scr ns), .v (.int (i : Int))] = .ret (.v (.int (cellAt ns i))) [] := by
  rw [evF_at h rfl rfl]
  by_cases c : i < ns.length
  · have c' : (i : Int) < ns.length := by omega
    have e : ixT (.v (.scr ns)) (.v (.int (i : Int))) = some (.v (.int (cellAt ns i))) := by
      simp only [ixT, asQ, Option.bind_some]
      refine atI_nat' ?_
      unfold cellAt
      rw [List.getElem?_map, List.getElem?_eq_getElem c]; rfl
    simp -implicitDefEqProofs [c_l_cell_at, env0, c', e]
  · have c' : ¬ (i : Int) < ns.length := by omega
    have : cellAt ns i = 0 := by unfold cellAt; rw [List.getElem?_eq_none (by omega)]; rfl
    simp -implicitDefEqProofs [c_l_cell_at, env0, c', this]
/-- rows of things -/
abbrev rowD (row : List Int) : D := .lst (row.map .int)
abbrev ranksD (rs : List (List Int)) : D := .lst (rs.map rowD)
abbrev wishD (cs : List Int) (ls : List (List (List Int))) : D := .tup [.lst (cs.map .int), .lst (ls.map ranksD)]
/-- an asker's list -/
structure OkR (n : Nat) (rs : List (List Int)) : Prop where
  len : rs.length ≤ 5
  ne : ∀ r ∈ rs, r ≠ []
  nd : rs.flatten.Nodup
  rg : ∀ x ∈ rs.flatten, 0 ≤ x ∧ x < n
structure Okw (cs : List Int) (ls : List (List (List Int))) : Prop where
  c1 : 1 ≤ cs.length
  c2 : cs.length ≤ 6
  cb : ∀ c ∈ cs, 0 ≤ c ∧ c ≤ 7
  l1 : 1 ≤ ls.length
  l2 : ls.length ≤ 7
  lr : ∀ rs ∈ ls, OkR cs.length rs
theorem goRank_ints {n : Int} : ∀ {row seen : List Int}, (∀ x ∈ row, 0 ≤ x ∧ x < n) → (seen ++ row).Nodup → goRank n (row.map .int) seen = some (seen ++ row)
  | [], seen, _, _ => by simp [goRank]
  | x :: row, seen, h, nd => by
    have hx := h x (by simp)
    have hn : x ∉ seen := fun m => by
      rw [List.nodup_append] at nd
      exact nd.2.2 x m x (by simp) rfl
    rw [List.map_cons]
    unfold goRank
    rw [if_pos ⟨hx.1, hx.2, hn⟩, goRank_ints (fun y hy => h y (by simp [hy])) (by simpa using nd)]
    simp
theorem goRanks_ints {n : Int} : ∀ {rs : List (List Int)} {seen : List Int}, (∀ r ∈ rs, r ≠ []) → (∀ x ∈ rs.flatten, 0 ≤ x ∧ x < n) → (seen ++ rs.flatten).Nodup → goRanks n (rs.map rowD) seen = some (seen ++ rs.flatten)
  | [], seen, _, _, _ => by simp [goRanks]
  | r :: rs, seen, h0, h, nd => by
    rw [List.map_cons]
    unfold goRanks
    have hne : r.map D.int ≠ [] := by simpa using h0 r (by simp)
    rw [List.flatten_cons] at nd h
    rw [if_neg hne, goRank_ints (fun x hx => h x (by simp [hx])) (by rw [← List.append_assoc] at nd; exact (List.nodup_append.mp nd).1)]
    rw [Option.bind_some, goRanks_ints (fun y hy => h0 y (by simp [hy])) (fun x hx => h x (List.mem_append_right _ hx)) (by simpa using nd)]
    simp
theorem nodup_bound : ∀ {n : Nat} {xs : List Int}, xs.Nodup → (∀ x ∈ xs, 0 ≤ x ∧ x < n) → xs.length ≤ n
  | 0, xs, _, h => by
    cases xs with
    | nil => simp
    | cons x xs => have := h x (by simp); omega
  | n + 1, xs, nd, h => by
    by_cases m : (n : Int) ∈ xs
    · have h1 := nodup_bound (n := n) (xs := xs.erase (n : Int)) (nd.erase _) fun x hx => by
        have hx' := List.mem_of_mem_erase hx
        have hne : x ≠ n := fun e => by
          subst e
          exact (List.Nodup.not_mem_erase nd) hx
        have := h x hx'
        omega
      rw [List.length_erase_of_mem m] at h1
      have := List.length_pos_of_mem m
      omega
    · have h1 := nodup_bound (n := n) (xs := xs) nd fun x hx => by
        have hne : x ≠ n := fun e => m (e ▸ hx)
        have := h x hx
        omega
      omega
theorem okD_row (row : List Int) (n : Nat) : (rowD row).okD (n + 1) = true := by
  show D.okDs _ n = true
  exact okDs_flat (fun d hd => by obtain ⟨i, _, rfl⟩ := List.mem_map.mp hd; rfl) n
theorem okD_ranks (rs : List (List Int)) (n : Nat) : (ranksD rs).okD (n + 2) = true := by
  show D.okDs _ (n + 1) = true
  induction rs with
  | nil => rfl
  | cons r rs ih =>
    rw [List.map_cons]
    simp only [D.okDs, Bool.and_eq_true]
    exact ⟨okD_row r n, ih⟩
theorem okD_wish (cs : List Int) (ls : List (List (List Int))) (n : Nat) : (wishD cs ls).okD (n + 4) = true := by
  have h1 : (D.lst (cs.map .int)).okD (n + 3) = true := okD_row cs (n + 2)
  have h2 : (D.lst (ls.map ranksD)).okD (n + 3) = true := by
    show D.okDs _ (n + 2) = true
    induction ls with
    | nil => rfl
    | cons r rs ih =>
      rw [List.map_cons]
      simp only [D.okDs, Bool.and_eq_true]
      exact ⟨okD_ranks r n, ih⟩
  show D.okDs [_, _] (n + 3) = true
  simp only [D.okDs, h1, h2, Bool.and_self]
theorem OkR.are {n : Nat} {rs : List (List Int)} (h : OkR n rs) : areRanks n (ranksD rs) = true := by
  have e := goRanks_ints (n := (n : Int)) (seen := []) h.ne (fun x hx => h.rg x hx) (by simpa using h.nd)
  simp [areRanks, e, h.len]
theorem OkR.size {n : Nat} {rs : List (List Int)} (h : OkR n rs) : sizeR (ranksD rs) ≤ n := by
  have e : sizeR (ranksD rs) = rs.flatten.length := by
    unfold sizeR ranksD
    simp only [List.map_map]
    rw [List.length_flatten]
    congr 1
    apply List.map_congr_left
    intro r _
    simp
  rw [e]
  exact nodup_bound h.nd h.rg
theorem Okw.ok {cs : List Int} {ls : List (List (List Int))} (h : Okw cs ls) : OkW (cs.map .int) (ls.map ranksD) where
  c1 := by simpa using h.c1
  c2 := by simpa using h.c2
  cb := fun d hd => by obtain ⟨c, hc, rfl⟩ := List.mem_map.mp hd; simpa [isBetween] using h.cb c hc
  l1 := by simpa using h.l1
  l2 := by simpa using h.l2
  lr := fun d hd => by obtain ⟨c, hc, rfl⟩ := List.mem_map.mp hd; rw [List.length_map]; exact (h.lr c hc).are
  ct := fun d hd => by obtain ⟨c, hc, rfl⟩ := List.mem_map.mp hd; rfl
  ok := fun d hd => by obtain ⟨c, hc, rfl⟩ := List.mem_map.mp hd; exact okD_ranks c 59
  sz := fun d hd => by obtain ⟨c, hc, rfl⟩ := List.mem_map.mp hd; exact Nat.le_trans (h.lr c hc).size (by have := h.c2; omega)
theorem ev_lookW {cs : List Int} {ls : List (List (List Int))} (p : PLook P con) (h : Okw cs ls) : evF P con (k + 4) "look_at_wishes" [.v (wishD cs ls)] = .ret (.v .non) [] := ev_look p h.ok
theorem noBs_vis (xs : List Int) : T.noBs (vis xs) = true := by unfold vis; rw [noBs_all, List.all_map, List.all_eq_true]; intro x _; simp
/-- the things of a rank -/
def rowOf (pl : List Int) (n : Nat) (r : Int) : List Int := ((List.range n).filter fun i => decide (pl[i]? = some r)).map fun (i : Nat) => (i : Int)
def rowT (b : Bool) (row : List Int) : T := if b then .l (vis row.reverse) else .w (rowD row)
theorem rowOf_T (pl : List Int) (n : Nat) (r : Int) : (((List.range n).filter fun i => decide (pl[i]? = some r)).map fun (i : Nat) => T.v (.int (i : Int))) = vis (rowOf pl n r) := by
  simp [rowOf, vis, List.map_map, Function.comp_def]
theorem w_row {cl : Calls} {pl : List Int} {r : Int} {a0 a1 a2 a3 a4 a5 a6 a7 a8 a9 a10 a12 a14 a15 : Option T} {n : Nat} (hn : n < pl.length) :
    lcL (lcS cl con [16] (.nm 16) (.so (.cmp .eq (.ix (.frz 11) (.frz 16)) (.frz 13))) c_l_wishes_e2) (rangeT 0 n 1) [a0, a1, a2, a3, a4, a5, a6, a7, a8, a9, a10, some (.w (.lst (pl.map .int))), a12, some (.v (.int r)), a14, a15, none] [] =
      .ok (vis (rowOf pl n r)) [a0, a1, a2, a3, a4, a5, a6, a7, a8, a9, a10, some (.w (.lst (pl.map .int))), a12, some (.v (.int r)), a14, a15, none] := by
  rw [rangeT0, ← rowOf_T]
  refine lcL_filtM fun i hi => ?_
  have hi' : i < pl.length := Nat.lt_trans (List.mem_range.mp hi) hn
  have e := ix_w (ds := pl.map D.int) (i := (i : Int)) (d := .int pl[i]) (by omega) (by simp [List.getElem?_eq_getElem hi'])
  simp -implicitDefEqProofs at e
  by_cases c : pl[i] = r
  · simp -implicitDefEqProofs [lcS, c_l_wishes_e2, e, c, List.getElem?_eq_getElem hi']
  · simp -implicitDefEqProofs [lcS, c_l_wishes_e2, e, c, List.getElem?_eq_getElem hi']
def addRow (b : Bool) (row : List Int) : List T := if row = [] then [] else [rowT b row]
theorem eqT_nilw {ds : List D} (h : ∀ d ∈ ds, d.flat = true) : eqT (.w (.lst ds)) (.l []) = some ds.isEmpty := by
  unfold Tv.eqT
  rw [er_w, er_l, okD_60, okDs_flat h, List.map_nil, okD_60, eqD_nil]
  simp [D.okDs]
theorem ix_lastw {ds : List D} {d : D} (h : ds.getLast? = some d) : ixT (.w (.lst ds)) (.v (.int (-1))) = some (subW d) := by
  obtain ⟨ys, rfl⟩ := List.getLast?_eq_some_iff.mp h
  simp only [ixT, asQ, Option.bind_some, List.map_append]
  exact L2.atI_last _ _
/-- the slots of _law_wishes within the loops -/
abbrev wEnv (a0 a1 a2 a3 a4 a5 a6 a7 a8 a11 a12 : Option T) : Env := [a0, a1, a2, a3, a4, a5, a6, a7, a8, none, none, a11, a12, none, none, none, none]
theorem w_b1 {cl : Calls} {pl cs : List Int} {r l : Int} {rk : List T} {a0 a1 a2 a3 a4 a5 a6 a8 : Option T} (hn : cs.length < pl.length) (h6 : cs.length ≤ 6) (hl : pl.getLast? = some l) (hl2 : l = 0 ∨ l = 1) (hr : rk.length ≤ 1000) :
    forS cl con (.nm 13) c_l_wishes_b1 (.v (.int r)) (wEnv a0 a1 a2 a3 a4 a5 a6 (some (.l (vis cs))) a8 (some (.w (.lst (pl.map .int)))) (some (.l rk))) =
      .nx (wEnv a0 a1 a2 a3 a4 a5 a6 (some (.l (vis cs))) a8 (some (.w (.lst (pl.map .int)))) (some (.l (rk ++ addRow (decide (l = 1)) (rowOf pl cs.length r))))) := by
  have row := w_row (con := con) (cl := cl) (pl := pl) (r := r) (a0 := a0) (a1 := a1) (a2 := a2) (a3 := a3) (a4 := a4) (a5 := a5) (a6 := a6) (a7 := some (.l (vis cs))) (a8 := a8) (a9 := none) (a10 := none) (a12 := some (.l rk)) (a14 := none) (a15 := none) (n := cs.length) hn
  obtain ⟨row1, hrow⟩ : ∃ row1, row1 = rowOf pl cs.length r := ⟨_, rfl⟩
  rw [← hrow] at row ⊢
  have sm := sm62' (n := cs.length) (by omega)
  have hlast := ix_lastw (ds := pl.map D.int) (d := .int l) (by rw [List.getLast?_map, hl]; rfl)
  have hcl : cs.length ≤ 16777216 := by omega
  have hfl : ∀ d ∈ row1.map D.int, d.flat = true := fun d hd => by obtain ⟨i, _, rfl⟩ := List.mem_map.mp hd; rfl
  have hne := eqT_nilw hfl
  have fz : (T.l (vis row1)).fz = some (.w (rowD row1)) := by rw [fz_lw _ (cls_vis _ _)]; simp [rowD, vis]
  have i0 : ∀ x y : T, ixT (.l [x, y]) (.v (.int 0)) = some x := fun x y => ix_l (by decide) rfl
  have i1 : ∀ x y : T, ixT (.l [x, y]) (.v (.int 1)) = some y := fun x y => ix_l (by decide) rfl
  have ap : ∀ t : T, t.noB = true → mutT .append (some (.l rk)) [t] = some (.l (rk ++ [t])) := fun t ht => app_ok (by omega) ht
  have hrev : revT (.w (rowD row1)) = some (.l (vis row1.reverse)) := by
    rw [revT_w, map_subW_int0]; simp [vis]
  have nb : T.noBs (vis row1.reverse) = true := noBs_vis _
  have ap1 := ap (.w (rowD row1)) rfl
  have ap2 := ap (.l (vis row1.reverse)) (by rw [noB_l]; exact nb)
  have hemp : (row1.map D.int).isEmpty = row1.isEmpty := by cases row1 <;> rfl
  rw [hemp] at hne
  obtain ⟨vr, hvr⟩ : ∃ vr, vr = vis row1 := ⟨_, rfl⟩
  obtain ⟨vr2, hvr2⟩ : ∃ vr, vr = vis row1.reverse := ⟨_, rfl⟩
  obtain ⟨rD, hrD⟩ : ∃ rD, rD = rowD row1 := ⟨_, rfl⟩
  obtain ⟨pD, hpD⟩ : ∃ pD, pD = D.lst (pl.map D.int) := ⟨_, rfl⟩
  have hne : eqT (.w rD) (.l []) = some row1.isEmpty := by rw [hrD]; exact hne
  rw [← hpD] at row hlast ⊢
  rw [← hvr] at row fz
  rw [← hvr2] at hrev nb ap2
  rw [← hrD] at fz hrev ap1
  unfold wEnv
  by_cases c : row1 = []
  · have ce : row1.isEmpty = true := by rw [c]; rfl
    rw [ce] at hne
    simp -implicitDefEqProofs [forS, c_l_wishes_b1]
    simp -implicitDefEqProofs [sm, row, hcl, fz, hne, addRow, c]
  · have ce : row1.isEmpty = false := by cases row1 with
      | nil => exact absurd rfl c
      | cons _ _ => rfl
    rw [ce] at hne
    rcases hl2 with rfl | rfl
    · simp -implicitDefEqProofs at hlast
      simp -implicitDefEqProofs [forS, c_l_wishes_b1]
      simp -implicitDefEqProofs [sm, row, hcl, fz, hne, hrev, hlast, i0, ap1]
      simp [addRow, c, rowT, hrD]
    · simp -implicitDefEqProofs at hlast
      simp -implicitDefEqProofs [forS, c_l_wishes_b1]
      simp -implicitDefEqProofs [sm, row, hcl, fz, hne, hrev, hlast, i1, ap2, nb]
      simp [addRow, c, rowT, hvr2]
/-- an asker's ranks, from r on -/
def drawR (b : Bool) (pl : List Int) (n : Nat) : List Int → List T
  | [] => []
  | r :: rs => addRow b (rowOf pl n r) ++ drawR b pl n rs
theorem drawR_nil (b : Bool) (pl : List Int) (n : Nat) : drawR b pl n [] = [] := rfl
theorem drawR_cons (b : Bool) (pl : List Int) (n : Nat) (r : Int) (rs : List Int) : drawR b pl n (r :: rs) = addRow b (rowOf pl n r) ++ drawR b pl n rs := rfl
theorem drawR_len (b : Bool) (pl : List Int) (n : Nat) : ∀ rs, (drawR b pl n rs).length ≤ rs.length
  | [] => Nat.le_refl _
  | r :: rs => by
    have := drawR_len b pl n rs
    unfold drawR addRow
    split <;> simp <;> omega
theorem drawR_cl (b : Bool) (pl : List Int) (n : Nat) : ∀ rs, T.cls (drawR b pl n rs) = true
  | [] => rfl
  | r :: rs => by
    have := drawR_cl b pl n rs
    unfold drawR addRow
    split
    · simpa using this
    · rw [cls_app, this, Bool.and_true]
      unfold rowT
      cases b with
      | false => simp
      | true => simp only [if_true, cls_cons, cls_nil, cl_l, Bool.and_true]; exact cls_vis _ _
theorem w_ranks {cl : Calls} {pl cs : List Int} {l : Int} {a0 a1 a2 a3 a4 a5 a6 a8 : Option T} (hn : cs.length < pl.length) (h6 : cs.length ≤ 6) (hl : pl.getLast? = some l) (hl2 : l = 0 ∨ l = 1) :
    ∀ (rs : List Int) (rk : List T), rk.length + rs.length ≤ 1000 → forL (forS cl con (.nm 13) c_l_wishes_b1) (rs.map fun i => T.v (.int i)) (wEnv a0 a1 a2 a3 a4 a5 a6 (some (.l (vis cs))) a8 (some (.w (.lst (pl.map .int)))) (some (.l rk))) =
      .nx (wEnv a0 a1 a2 a3 a4 a5 a6 (some (.l (vis cs))) a8 (some (.w (.lst (pl.map .int)))) (some (.l (rk ++ drawR (decide (l = 1)) pl cs.length rs)))) := by
  intro rs
  induction rs with
  | nil => intro rk _; rw [drawR_nil, List.append_nil, List.map_nil, forL_nil]
  | cons r rs ih =>
    intro rk h
    rw [List.length_cons] at h
    have e := w_b1 (con := con) (cl := cl) (pl := pl) (cs := cs) (r := r) (rk := rk) (a0 := a0) (a1 := a1) (a2 := a2) (a3 := a3) (a4 := a4) (a5 := a5) (a6 := a6) (a8 := a8) hn h6 hl hl2 (by omega)
    have hlen : (rk ++ addRow (decide (l = 1)) (rowOf pl cs.length r)).length ≤ rk.length + 1 := by
      rw [List.length_append]; unfold addRow; split <;> simp
    have e2 := ih (rk ++ addRow (decide (l = 1)) (rowOf pl cs.length r)) (by omega)
    rw [List.map_cons, forL_nx e, e2, List.append_assoc, drawR_cons]
/-- the rows an asker draws, as lists of whole numbers -/
def rowsOf (b : Bool) (pl : List Int) (n : Nat) : List Int → List (List Int)
  | [] => []
  | r :: rs => if rowOf pl n r = [] then rowsOf b pl n rs else (if b then (rowOf pl n r).reverse else rowOf pl n r) :: rowsOf b pl n rs
theorem rowsOf_er (b : Bool) (pl : List Int) (n : Nat) : ∀ rs, (drawR b pl n rs).map T.er = (rowsOf b pl n rs).map rowD
  | [] => rfl
  | r :: rs => by
    have ih := rowsOf_er b pl n rs
    rw [drawR_cons]
    unfold addRow rowsOf
    split
    · exact ih
    · rw [List.map_append, ih]
      unfold rowT
      cases b <;> simp [vis, vi, rowD, Function.comp_def]
theorem rowsOf_len (b : Bool) (pl : List Int) (n : Nat) : ∀ rs, (rowsOf b pl n rs).length ≤ rs.length
  | [] => Nat.le_refl _
  | r :: rs => by
    have := rowsOf_len b pl n rs
    unfold rowsOf
    split <;> simp <;> omega
theorem rowsOf_ne (b : Bool) (pl : List Int) (n : Nat) : ∀ rs, ∀ r ∈ rowsOf b pl n rs, r ≠ []
  | [], r, h => by simp [rowsOf] at h
  | x :: rs, r, h => by
    unfold rowsOf at h
    split at h
    · exact rowsOf_ne b pl n rs r h
    · rename_i c
      rcases List.mem_cons.mp h with rfl | h
      · cases b <;> simpa using c
      · exact rowsOf_ne b pl n rs r h
theorem mem_rowOf {pl : List Int} {n : Nat} {r x : Int} (h : x ∈ rowOf pl n r) : ∃ i : Nat, i < n ∧ x = i ∧ pl[i]? = some r := by
  unfold rowOf at h
  obtain ⟨i, hi, rfl⟩ := List.mem_map.mp h
  have := List.mem_filter.mp hi
  exact ⟨i, List.mem_range.mp this.1, rfl, by simpa using this.2⟩
theorem rowOf_nodup (pl : List Int) (n : Nat) (r : Int) : (rowOf pl n r).Nodup := by
  unfold rowOf
  refine List.Pairwise.map _ ?_ (List.nodup_range.filter _)
  intro a b h e
  exact h (by omega)
theorem mem_rowsOf {b : Bool} {pl : List Int} {n : Nat} {x : Int} : ∀ {rs : List Int}, x ∈ (rowsOf b pl n rs).flatten → ∃ r ∈ rs, x ∈ rowOf pl n r
  | [], h => by simp [rowsOf] at h
  | r :: rs, h => by
    unfold rowsOf at h
    split at h
    · obtain ⟨r', h1, h2⟩ := mem_rowsOf h
      exact ⟨r', by simp [h1], h2⟩
    · rw [List.flatten_cons, List.mem_append] at h
      rcases h with h | h
      · exact ⟨r, by simp, by cases b <;> simpa using h⟩
      · obtain ⟨r', h1, h2⟩ := mem_rowsOf h
        exact ⟨r', by simp [h1], h2⟩
theorem rowsOf_nodup {b : Bool} {pl : List Int} {n : Nat} : ∀ {rs : List Int}, rs.Nodup → (rowsOf b pl n rs).flatten.Nodup
  | [], _ => by simp [rowsOf]
  | r :: rs, nd => by
    rw [List.nodup_cons] at nd
    have ih := rowsOf_nodup (b := b) (pl := pl) (n := n) nd.2
    unfold rowsOf
    split
    · exact ih
    · rw [List.flatten_cons, List.nodup_append]
      refine ⟨?_, ih, ?_⟩
      · cases b
        · simpa using rowOf_nodup pl n r
        · exact List.pairwise_reverse.mpr ((rowOf_nodup pl n r).imp fun h => Ne.symm h)
      · intro x hx y hy e
        subst e
        have hx' : x ∈ rowOf pl n r := by cases b <;> simpa using hx
        obtain ⟨r', h1, h2⟩ := mem_rowsOf hy
        obtain ⟨i, _, ei, e1⟩ := mem_rowOf hx'
        obtain ⟨j, _, ej, e2⟩ := mem_rowOf h2
        have : i = j := by omega
        subst this
        rw [e1] at e2
        injection e2 with e3
        subst e3
        exact nd.1 h1
def ranksFrom (mr : Nat) : List Int := (List.range mr).map fun (i : Nat) => 1 + (i : Int)
theorem ranksFrom_nodup (mr : Nat) : (ranksFrom mr).Nodup := by
  unfold ranksFrom
  refine List.Pairwise.map _ ?_ List.nodup_range
  intro a b h e
  exact h (by omega)
theorem rowsOf_okR (b : Bool) (pl : List Int) (n mr : Nat) (h : mr ≤ 5) : OkR n (rowsOf b pl n (ranksFrom mr)) where
  len := Nat.le_trans (rowsOf_len _ _ _ _) (by unfold ranksFrom; simpa using h)
  ne := rowsOf_ne _ _ _ _
  nd := rowsOf_nodup (ranksFrom_nodup mr)
  rg := fun x hx => by
    obtain ⟨r, _, h2⟩ := mem_rowsOf hx
    obtain ⟨i, hi, rfl, _⟩ := mem_rowOf h2
    omega
/-- the numbers of an asker's places -/
abbrev zsA (mt mr : Nat) : List Int := List.replicate mt ((mr : Int) + 1) ++ [2]
def placesOf (ns : List Int) (at_ asker mt mr : Nat) : List Int := nums (cellAt ns (at_ + 1 + asker)) (11 * at_ + 3 * asker + 1) (zsA mt mr)
theorem zsA_len (mt mr : Nat) : (zsA mt mr).length = mt + 1 := by simp [zsA]
theorem zsA_pos (mt mr : Nat) : ∀ z ∈ zsA mt mr, 0 < z := fun z hz => by
  rcases List.mem_append.mp hz with h | h
  · have := (List.mem_replicate.mp h).2; omega
  · simp at h; omega
theorem zsA_sizes {mt mr : Nat} (h1 : mt ≤ 6) (h2 : mr ≤ 5) : Sizes (zsA mt mr) where
  pos := zsA_pos mt mr
  big := fun z hz => by
    rcases List.mem_append.mp hz with h | h
    · have := (List.mem_replicate.mp h).2; omega
    · simp at h; omega
  len := by rw [zsA_len]; omega
theorem placesOf_len (ns : List Int) (at_ asker mt mr : Nat) : (placesOf ns at_ asker mt mr).length = mt + 1 := by
  unfold placesOf; rw [nums_length, zsA_len]
theorem placesOf_last (ns : List Int) (at_ asker mt mr : Nat) : ∃ l, (placesOf ns at_ asker mt mr).getLast? = some l ∧ (l = 0 ∨ l = 1) := by
  obtain ⟨d, h1, h2, h3⟩ := nums_get (c := cellAt ns (at_ + 1 + asker)) (s := 11 * at_ + 3 * asker + 1) (zs := zsA mt mr) (i := mt) (z := 2) (zsA_pos mt mr) (by simp [zsA])
  refine ⟨d, ?_, by omega⟩
  rw [List.getLast?_eq_getElem?, placesOf_len]
  exact h1
def askerT (ns : List Int) (at_ mt mr n asker : Nat) : List T := drawR (decide ((placesOf ns at_ asker mt mr).getLast? = some 1)) (placesOf ns at_ asker mt mr) n (ranksFrom mr)
def askerL (ns : List Int) (at_ mt mr n asker : Nat) : List (List Int) := rowsOf (decide ((placesOf ns at_ asker mt mr).getLast? = some 1)) (placesOf ns at_ asker mt mr) n (ranksFrom mr)
theorem askerT_cl (ns : List Int) (at_ mt mr n asker : Nat) : T.cls (askerT ns at_ mt mr n asker) = true := drawR_cl _ _ _ _
theorem askerT_er (ns : List Int) (at_ mt mr n asker : Nat) : (askerT ns at_ mt mr n asker).map T.er = (askerL ns at_ mt mr n asker).map rowD := rowsOf_er _ _ _ _
theorem askerL_ok (ns : List Int) (at_ mt mr n asker : Nat) (h : mr ≤ 5) : OkR n (askerL ns at_ mt mr n asker) := rowsOf_okR _ _ _ _ h
theorem zs_ok {xs : List Int} {a b : List T} (h : a ++ b = vis xs) (hl : a.length + b.length ≤ 16000000) : addT (.l a) (.l b) = some (.l (vis xs)) := by rw [addT_ll hl, h]
theorem w_b2 (hp : P "_law_cell_at" = some c_l_cell_at) (hq : P "_law_numbers" = some c_numbers) {ns cs : List Int} {at_ mt ma mr asker : Nat} {ls : List T} {a5 a6 : Option T}
    (h0 : at_ ≤ 1000) (h1 : asker < 7) (h2 : mt ≤ 6) (h3 : mr ≤ 5) (hn : cs.length ≤ mt) (hl : ls.length < 1000) :
    forS (evF P con (k + 1)) con (.nm 9) c_l_wishes_b2 (.v (.int (asker : Int))) (wEnv (some (.v (.scr ns))) (some (.v (.int (at_ : Int)))) (some (.v (.int (mt : Int)))) (some (.v (.int (ma : Int)))) (some (.v (.int (mr : Int)))) a5 a6 (some (.l (vis cs))) (some (.l ls)) none none) =
      .nx (wEnv (some (.v (.scr ns))) (some (.v (.int (at_ : Int)))) (some (.v (.int (mt : Int)))) (some (.v (.int (ma : Int)))) (some (.v (.int (mr : Int)))) a5 a6 (some (.l (vis cs))) (some (.l (ls ++ [.l (askerT ns at_ mt mr cs.length asker)]))) none none) := by
  obtain ⟨l, hl1, hl2⟩ := placesOf_last ns at_ asker mt mr
  have hlen := placesOf_len ns at_ asker mt mr
  have e1 := ev_cell_at (P := P) (con := con) (k := k) (ns := ns) (i := at_ + 1 + asker) hp
  have e2 := ev_numbers (P := P) (con := con) (k := k) (c := cellAt ns (at_ + 1 + asker)) (s := 11 * at_ + 3 * asker + 1) hq (zsA_sizes h2 h3) (by omega)
  obtain ⟨pl, hpl⟩ : ∃ pl, pl = placesOf ns at_ asker mt mr := ⟨_, rfl⟩
  have hnums : nums (cellAt ns (at_ + 1 + asker)) (11 * at_ + 3 * asker + 1) (zsA mt mr) = pl := hpl.symm
  rw [hnums] at e2
  rw [← hpl] at hl1 hlen
  have e3 := w_ranks (con := con) (cl := evF P con (k + 1)) (pl := pl) (cs := cs) (a0 := some (.v (.scr ns))) (a1 := some (.v (.int (at_ : Int)))) (a2 := some (.v (.int (mt : Int)))) (a3 := some (.v (.int (ma : Int)))) (a4 := some (.v (.int (mr : Int)))) (a5 := a5) (a6 := a6) (a8 := some (.l ls)) (by omega) (by omega) hl1 hl2 (ranksFrom mr) [] (by unfold ranksFrom; simp; omega)
  have ht : askerT ns at_ mt mr cs.length asker = [] ++ drawR (decide (l = 1)) pl cs.length (ranksFrom mr) := by
    unfold askerT; rw [← hpl, hl1]; simp
  rw [← ht] at e3
  have hcl := T.noBs_of_cls (askerT_cl ns at_ mt mr cs.length asker)
  obtain ⟨tk, htk⟩ : ∃ tk, tk = askerT ns at_ mt mr cs.length asker := ⟨_, rfl⟩
  rw [← htk] at e3 hcl ⊢
  have mul := mulL_ok (ts := [T.v (.int ((mr : Int) + 1))]) (us := [T.v (.int ((mr : Int) + 1))]) (k := mt) (by rw [asF_l (by simp)]; simp) (by simp; omega) (by omega)
  have mul' : (List.replicate mt [T.v (.int ((mr : Int) + 1))]).flatten = vis (List.replicate mt ((mr : Int) + 1)) := by
    clear mul h2 hn hlen
    unfold vis
    rw [List.map_replicate]
    induction mt with
    | zero => rfl
    | succ n ih => simp [List.replicate_succ]
  rw [mul'] at mul
  have hz : addT (.l (vis (List.replicate mt ((mr : Int) + 1)))) (.l [T.v (.int 2)]) = some (.l (vis (zsA mt mr))) := zs_ok (by simp [vis, zsA]) (by simp; omega)
  have her : (vis (zsA mt mr)).map T.er = (zsA mt mr).map D.int := by simp [vis]
  have hrg2 : rangeT 1 mr 1 = (ranksFrom mr).map fun i => T.v (.int i) := by rw [rangeTlo]; simp [ranksFrom, List.map_map, Function.comp_def]
  rw [← hrg2] at e3
  have fzp : (T.l (vis pl)).fz = some (.w (.lst (pl.map D.int))) := by rw [fz_lw _ (cls_vis _ _)]; simp [vis]
  have nbp := noBs_vis pl
  have clz : T.cls (vis (zsA mt mr)) = true := cls_vis _ _
  have nbz := noBs_vis (zsA mt mr)
  have ap := app_ok (ts := ls) (t := .l tk) (by omega) (by simpa using hcl)
  have m1 := mul64 (i := 11) (j := at_) (by omega) (by omega)
  have m2 := mul64 (i := 3) (j := asker) (by omega) (by omega)
  have s1 := sm62' (n := 1) (by omega)
  have s2 := sm62' (n := mr + 1) (by omega)
  have s3 : (mr : Int) ≤ 16777216 := by omega
  have s4 : ((mr : Int) + 1).toNat - 1 = mr := by omega
  obtain ⟨zt, hzt⟩ : ∃ zt, zt = vis (zsA mt mr) := ⟨_, rfl⟩
  obtain ⟨zd, hzd⟩ : ∃ zd, zd = (zsA mt mr).map D.int := ⟨_, rfl⟩
  obtain ⟨vp, hvp⟩ : ∃ vp, vp = vis pl := ⟨_, rfl⟩
  obtain ⟨rep, hrep⟩ : ∃ rep, rep = vis (List.replicate mt ((mr : Int) + 1)) := ⟨_, rfl⟩
  rw [← hzt] at hz her clz nbz
  rw [← hzd] at e2 her
  rw [← hvp] at e2 fzp nbp
  rw [← hrep] at mul hz
  unfold wEnv at *
  simp -implicitDefEqProofs [forS, c_l_wishes_b2] at s1 s2 e1 e2 e3 mul ap ⊢
  simp -implicitDefEqProofs [e1, m1, m2, mul, hz, her, nbz, e2, nbp, fzp, s1, s2, s3, s4, e3, ap]
abbrev zsW (mt ma : Nat) : List Int := [(mt : Int), (ma : Int)] ++ List.replicate mt 11
theorem zsW_pos {mt ma : Nat} (h1 : 1 ≤ mt) (h2 : 1 ≤ ma) : ∀ z ∈ zsW mt ma, 0 < z := fun z hz => by
  rcases List.mem_append.mp hz with h | h
  · simp at h; omega
  · have := (List.mem_replicate.mp h).2; omega
theorem zsW_sizes {mt ma : Nat} (h1 : 1 ≤ mt) (h2 : 1 ≤ ma) (h3 : mt ≤ 6) (h4 : ma ≤ 7) : Sizes (zsW mt ma) where
  pos := zsW_pos h1 h2
  big := fun z hz => by
    rcases List.mem_append.mp hz with h | h
    · simp at h; omega
    · have := (List.mem_replicate.mp h).2; omega
  len := by simp; omega
def tabC : List Int := [1, 1, 2, 0, 3, 7, 1, 4, 5, 6, 1]
def tabAt (d : Int) : Int := tabC.getD d.toNat 0
theorem tabAt_rg (d : Int) : 0 ≤ tabAt d ∧ tabAt d ≤ 7 := by
  have : ∀ c ∈ tabC, 0 ≤ c ∧ c ≤ 7 := by decide
  unfold tabAt
  rw [List.getD_eq_getElem?_getD]
  cases h : tabC[d.toNat]? with
  | none => simp
  | some c => exact this c (List.mem_of_getElem? h)
theorem tab_ix {d : Int} (h : 0 ≤ d ∧ d < 11) : ixT (.l [T.v (.int 1), .v (.int 1), .v (.int 2), .v (.int 0), .v (.int 3), .v (.int 7), .v (.int 1), .v (.int 4), .v (.int 5), .v (.int 6), .v (.int 1)]) (.v (.int d)) = some (.v (.int (tabAt d))) := by
  refine ix_l h.1 ?_
  have : (vis tabC)[d.toNat]? = some (vi (tabAt d)) := by
    unfold vis tabAt
    rw [List.getElem?_map, List.getD_eq_getElem?_getD, List.getElem?_eq_getElem (show d.toNat < tabC.length by show d.toNat < 11; omega)]
    rfl
  exact this
theorem w_copies {cl : Calls} {a0 a1 a2 a3 a4 a5 a6 a7 a8 a9 a10 a11 a12 a13 a15 a16 : Option T} {sl : List Int} (h : ∀ d ∈ sl, 0 ≤ d ∧ d < 11) :
    lcL (lcS cl con [14] (.nm 14) .no c_l_wishes_e1) (sl.map fun i => T.v (.int i)) [a0, a1, a2, a3, a4, a5, a6, a7, a8, a9, a10, a11, a12, a13, none, a15, a16] [] = .ok (vis (sl.map tabAt)) [a0, a1, a2, a3, a4, a5, a6, a7, a8, a9, a10, a11, a12, a13, none, a15, a16] := by
  have : vis (sl.map tabAt) = sl.map fun d => T.v (.int (tabAt d)) := by simp [vis, vi, List.map_map, Function.comp_def]
  rw [this]
  refine lcL_mapM fun d hd => ?_
  have e := tab_ix (h d hd)
  simp -implicitDefEqProofs [lcS, c_l_wishes_e1]
  simp -implicitDefEqProofs [e]
/-- drawn lists -/
structure DrawnL (n : Nat) (lt : List T) (ls : List (List (List Int))) : Prop where
  is : ∃ rks : List (List T), lt = rks.map T.l ∧ rks.map (fun rk => rk.map T.er) = ls.map fun rs => rs.map rowD
  cl : T.cls lt = true
  ok : ∀ rs ∈ ls, OkR n rs
theorem DrawnL.er {n : Nat} {lt : List T} {ls : List (List (List Int))} (h : DrawnL n lt ls) : lt.map T.er = ls.map ranksD := by
  obtain ⟨rks, rfl, h2⟩ := h.is
  have h3 := congrArg (List.map D.lst) h2
  rw [List.map_map, List.map_map] at h3
  rw [List.map_map]
  have e1 : (T.er ∘ T.l) = (D.lst ∘ fun rk => rk.map T.er) := by funext rk; simp
  rw [e1, h3]
  rfl
theorem DrawnL.len {n : Nat} {lt : List T} {ls : List (List (List Int))} (h : DrawnL n lt ls) : lt.length = ls.length := by
  have := congrArg List.length h.er
  simpa using this
theorem ev_wishes (hp : P "_law_cell_at" = some c_l_cell_at) (hq : P "_law_numbers" = some c_numbers) (hw : P "_law_wishes" = some c_l_wishes) {ns : List Int} {at_ mt ma mr : Nat}
    (h0 : at_ ≤ 1000) (h1 : 1 ≤ mt) (h2 : mt ≤ 6) (h3 : 1 ≤ ma) (h4 : ma ≤ 7) (h5 : mr ≤ 5) :
    ∃ cs lt ls, evF P con (k + 2) "_law_wishes" [.v (.scr ns), .v (.int (at_ : Int)), .v (.int (mt : Int)), .v (.int (ma : Int)), .v (.int (mr : Int))] = .ret (.tp [.l (vis cs), .l lt]) [] ∧ DrawnL cs.length lt ls ∧ Okw cs ls ∧ cs.length ≤ mt ∧ ls.length ≤ ma := by
  have e1 := ev_cell_at (P := P) (con := con) (k := k) (ns := ns) (i := at_) hp
  have e2 := ev_numbers (P := P) (con := con) (k := k) (c := cellAt ns at_) (s := at_) hq (zsW_sizes h1 h3 h2 h4) (by omega)
  obtain ⟨n0, hn0⟩ : ∃ n0, n0 = nums (cellAt ns at_) at_ (zsW mt ma) := ⟨_, rfl⟩
  have hlen : n0.length = mt + 2 := by rw [hn0, nums_length]; simp
  have hget : ∀ (i : Nat) (z : Int), (zsW mt ma)[i]? = some z → ∃ d, n0[i]? = some d ∧ 0 ≤ d ∧ d < z := fun i z hz => by rw [hn0]; exact nums_get (zsW_pos h1 h3) hz
  rw [← hn0] at e2
  obtain ⟨d0, g0, p0, q0⟩ := hget 0 _ rfl
  obtain ⟨d1, g1, p1, q1⟩ := hget 1 _ rfl
  have hrest : ∀ d ∈ n0.drop 2, 0 ≤ d ∧ d < 11 := fun d hd => by
    obtain ⟨i, hi, rfl⟩ := List.mem_iff_getElem.mp hd
    rw [List.length_drop, hlen] at hi
    obtain ⟨d', g', p', q'⟩ := hget (2 + i) 11 (by rw [show 2 + i = i + 2 by omega]; simp [zsW, List.getElem?_replicate]; omega)
    rw [List.getElem_drop]
    rw [List.getElem?_eq_getElem (by omega)] at g'
    injection g' with g'
    omega
  obtain ⟨x0, rfl⟩ : ∃ x0 : Nat, d0 = x0 := ⟨d0.toNat, by omega⟩
  obtain ⟨x1, rfl⟩ : ∃ x1 : Nat, d1 = x1 := ⟨d1.toNat, by omega⟩
  obtain ⟨sl, hsl⟩ : ∃ sl, sl = (n0.drop 2).take (x0 + 1) := ⟨_, rfl⟩
  have hsl2 : sl.length = x0 + 1 := by rw [hsl, List.length_take, List.length_drop, hlen]; omega
  have hsl3 : ∀ d ∈ sl, 0 ≤ d ∧ d < 11 := fun d hd => hrest d (List.mem_of_mem_take (hsl ▸ hd))
  have loop : ∀ (cs : List Int) (a5 a6 : Option T), cs.length ≤ mt → ∃ (lt : List T) (ls : List (List (List Int))),
      forL (forS (evF P con (k + 1)) con (.nm 9) c_l_wishes_b2) (rangeT 0 (1 + x1) 1) (wEnv (some (.v (.scr ns))) (some (.v (.int (at_ : Int)))) (some (.v (.int (mt : Int)))) (some (.v (.int (ma : Int)))) (some (.v (.int (mr : Int)))) a5 a6 (some (.l (vis cs))) (some (.l [])) none none) =
      .nx (wEnv (some (.v (.scr ns))) (some (.v (.int (at_ : Int)))) (some (.v (.int (mt : Int)))) (some (.v (.int (ma : Int)))) (some (.v (.int (mr : Int)))) a5 a6 (some (.l (vis cs))) (some (.l lt)) none none) ∧ DrawnL cs.length lt ls ∧ lt.length = 1 + x1 := by
    intro cs a5 a6 hcs
    refine forL_go (R := fun r => ∃ (lt : List T) (ls : List (List (List Int))), r = .nx (wEnv (some (.v (.scr ns))) (some (.v (.int (at_ : Int)))) (some (.v (.int (mt : Int)))) (some (.v (.int (ma : Int)))) (some (.v (.int (mr : Int)))) a5 a6 (some (.l (vis cs))) (some (.l lt)) none none) ∧ DrawnL cs.length lt ls ∧ lt.length = 1 + x1)
      (fun i r => ∃ (lt : List T) (ls : List (List (List Int))), r = (wEnv (some (.v (.scr ns))) (some (.v (.int (at_ : Int)))) (some (.v (.int (mt : Int)))) (some (.v (.int (ma : Int)))) (some (.v (.int (mr : Int)))) a5 a6 (some (.l (vis cs))) (some (.l lt)) none none) ∧ DrawnL cs.length lt ls ∧ lt.length = i) ?_ ?_ ?_
    · exact ⟨[], [], rfl, ⟨⟨[], rfl, rfl⟩, rfl, fun _ h => by simp at h⟩, rfl⟩
    · rintro i d Γ hd ⟨lt, ls, rfl, ⟨⟨rks, h1', h2'⟩, h3', h4'⟩, h5'⟩
      obtain ⟨hi, rfl⟩ := rangeT_get hd
      have e := w_b2 (con := con) (k := k) hp hq (ns := ns) (cs := cs) (at_ := at_) (mt := mt) (ma := ma) (mr := mr) (asker := i) (ls := lt) (a5 := a5) (a6 := a6) h0 (by omega) h2 h5 hcs (by omega)
      rw [show (0 : Int) + (i : Int) * 1 = (i : Int) by omega, e]
      refine ⟨lt ++ [.l (askerT ns at_ mt mr cs.length i)], ls ++ [askerL ns at_ mt mr cs.length i], rfl, ⟨⟨rks ++ [askerT ns at_ mt mr cs.length i], by rw [h1']; simp, ?_⟩, ?_, ?_⟩, ?_⟩
      · rw [List.map_append, List.map_append, h2']
        simp [askerT_er]
      · rw [cls_app, h3']; simp [askerT_cl]
      · intro rs hrs
        rcases List.mem_append.mp hrs with h | h
        · exact h4' rs h
        · rw [List.mem_singleton.mp h]; exact askerL_ok _ _ _ _ _ _ h5
      · rw [List.length_append, h5']; rfl
    · rintro Γ ⟨lt, ls, rfl, hd, hl⟩
      exact ⟨lt, ls, rfl, hd, by rw [hl, rangeT_length]⟩
  have mul := mulL_ok (ts := [T.v (.int 11)]) (us := [T.v (.int 11)]) (k := mt) (by rw [asF_l (by simp)]; simp) (by simp; omega) (by omega)
  have mul' : (List.replicate mt [T.v (.int 11)]).flatten = vis (List.replicate mt 11) := by
    unfold vis
    rw [List.map_replicate]
    generalize mt = m
    induction m with
    | zero => rfl
    | succ n ih => simp [List.replicate_succ]
  rw [mul'] at mul
  have hz : addT (.l [T.v (.int (mt : Int)), .v (.int (ma : Int))]) (.l (vis (List.replicate mt 11))) = some (.l (vis (zsW mt ma))) := zs_ok (by simp [vis, zsW]) (by simp; omega)
  have fzz : (T.l (vis (zsW mt ma))).fz = some (.w (.lst ((zsW mt ma).map D.int))) := by rw [fz_lw _ (cls_vis _ _)]; simp [vis]
  have fzn : (T.l (vis n0)).fz = some (.w (.lst (n0.map D.int))) := by rw [fz_lw _ (cls_vis _ _)]; simp [vis]
  have nbn := noBs_vis n0
  have i0 := ix_w (ds := n0.map D.int) (i := 0) (d := .int x0) (by omega) (by simp [g0])
  have i1 := ix_w (ds := n0.map D.int) (i := 1) (d := .int x1) (by omega) (by simp [g1])
  simp -implicitDefEqProofs at i0 i1
  have hcut : slT (.w (.lst (n0.map D.int))) (some 2) (some (3 + (x0 : Int))) = some (.l (vis sl)) := by
    rw [slT_w, cutL_map, cutL_two (by omega) (by omega), map_subW_int0, hsl]
    have e : ((3 : Int) + x0 - 2).toNat = x0 + 1 := by omega
    rw [e]; rfl
  have fzs : (T.l (vis sl)).fz = some (.w (.lst (sl.map D.int))) := by rw [fz_lw _ (cls_vis _ _)]; simp [vis]
  have its : itemsT (.w (.lst (sl.map D.int))) = some (sl.map fun i => T.v (.int i)) := by rw [itemsT_wl, map_subW_int0]
  obtain ⟨cs, hcs⟩ : ∃ cs, cs = sl.map tabAt := ⟨_, rfl⟩
  have hcl : cs.length = x0 + 1 := by rw [hcs, List.length_map, hsl2]
  obtain ⟨zD, hzD⟩ : ∃ zD, zD = D.lst ((zsW mt ma).map D.int) := ⟨_, rfl⟩
  obtain ⟨nD, hnD⟩ : ∃ nD, nD = D.lst (n0.map D.int) := ⟨_, rfl⟩
  obtain ⟨sD, hsD⟩ : ∃ sD, sD = D.lst (sl.map D.int) := ⟨_, rfl⟩
  have cp := w_copies (con := con) (cl := evF P con (k + 1)) (a0 := some (.v (.scr ns))) (a1 := some (.v (.int (at_ : Int)))) (a2 := some (.v (.int (mt : Int)))) (a3 := some (.v (.int (ma : Int)))) (a4 := some (.v (.int (mr : Int)))) (a5 := some (.w zD)) (a6 := some (.w nD)) (a7 := none) (a8 := none) (a9 := none) (a10 := none) (a11 := none) (a12 := none) (a13 := none) (a15 := none) (a16 := none) hsl3
  rw [← hcs] at cp
  obtain ⟨lt, ls, lp, hdl, hl3⟩ := loop cs (some (.w zD)) (some (.w nD)) (by omega)
  have hll : ls.length = 1 + x1 := by rw [← hdl.len, hl3]
  refine ⟨cs, lt, ls, ?_, hdl, ⟨by omega, by omega, ?_, by omega, by omega, hdl.ok⟩, by omega, by omega⟩
  · have s1 := sm62' (n := 1 + x1) (by omega)
    have s2 : (1 : Int) + x1 ≤ 16777216 := by omega
    have s3 : ((1 : Int) + x1).toNat = 1 + x1 := by omega
    have s4 : sl.length ≤ 16777216 := by omega
    have nbl := T.noBs_of_cls hdl.cl
    have nbc := noBs_vis cs
    have imw : D.imms (T.ers [.l (vis cs), .l lt]) = false := by simp
    obtain ⟨vr, hvr⟩ : ∃ vr, vr = vis (List.replicate mt 11) := ⟨_, rfl⟩
    rw [← hvr] at mul hz
    simp -implicitDefEqProofs at s1 e1 e2 mul
    rw [evF_at hw rfl rfl]
    rw [← hzD] at fzz
    rw [← hnD] at fzn i0 i1 hcut
    rw [← hsD] at fzs its
    have ez : D.lst ((zsW mt ma).map D.int) = zD := hzD.symm
    simp -implicitDefEqProofs at ez
    rw [ez] at e2
    obtain ⟨vz, hvz⟩ : ∃ vz, vz = vis (zsW mt ma) := ⟨_, rfl⟩
    obtain ⟨vn, hvn⟩ : ∃ vn, vn = vis n0 := ⟨_, rfl⟩
    obtain ⟨vs, hvs⟩ : ∃ vs, vs = vis sl := ⟨_, rfl⟩
    rw [← hvz] at hz fzz
    rw [← hvn] at e2 fzn nbn
    rw [← hvs] at hcut fzs
    obtain ⟨sm, hsm⟩ : ∃ sm, sm = sl.map fun i => T.v (.int i) := ⟨_, rfl⟩
    rw [← hsm] at its cp
    have s5 : sm.length ≤ 16777216 := by rw [hsm, List.length_map]; exact s4
    unfold wEnv at lp
    simp -implicitDefEqProofs [c_l_wishes, env0]
    simp -implicitDefEqProofs [e1, mul, hz, fzz, e2, nbn, fzn, i0, i1, hcut, fzs, its, s5, cp]
    simp -implicitDefEqProofs [i1, s1, s2, s3, lp, nbl, nbc]
  · intro c hc
    rw [hcs] at hc
    obtain ⟨d, _, rfl⟩ := List.mem_map.mp hc
    exact tabAt_rg d
end
end Tv

namespace Tv
open PySem
def c_rank_among_b1 : Ss := 
    (.cons (.ife (.cmp .isIn (.frz 1) (.frz 3)) (
      (.cons (.ret [] (.bin .add (.frz 2) (.int 1))) .nil)) ((.kill [2, 3] .nil))) .nil)
def c_rank_among : Fn := ⟨2, 4, [], 
  (.cons (.for (.tp [2, 3]) (.enum (.frz 0)) c_rank_among_b1) 
  (.cons (.ret [] (.int 0)) .nil))⟩


def c_rank_in_b1 : Ss := 
    (.cons (.ife (.cmp .isIn (.frz 1) (.frz 3)) (
      (.cons (.ret [] (.bin .add (.frz 2) (.int 1))) .nil)) ((.kill [2, 3] .nil))) .nil)
def c_rank_in : Fn := ⟨2, 4, [], 
  (.cons (.for (.tp [2, 3]) (.enum (.frz 0)) c_rank_in_b1) 
  (.cons (.ret [] (.int 0)) .nil))⟩

def c_rank_of : Fn := ⟨3, 3, [], 
  (.cons (.ex (.call "look_at_wishes" (.cons (.frz 0) .nil))) 
  (.cons (.ret [] (.call "rank_in" (.cons (.ix (.ix (.frz 0) (.int 1)) (.frz 1)) (.cons (.frz 2) .nil)))) .nil))⟩

def c_l_rank_b1 : Ss := 
    (.cons (.ife (.cmp .isIn (.frz 2) (.frz 4)) (
      (.cons (.ret [] (.bin .add (.frz 3) (.int 1))) .nil)) ((.kill [3, 4] .nil))) .nil)
def c_l_rank : Fn := ⟨3, 5, [], 
  (.cons (.for (.tp [3, 4]) (.enum (.ix (.ix (.frz 0) (.int 1)) (.frz 1))) c_l_rank_b1) 
  (.cons (.ret [] (.int 0)) .nil))⟩


def c_longest_e1 : E := .blt .len (.cons (.frz 1) .nil)
def c_longest : Fn := ⟨1, 2, [], 
  (.cons (.ex (.call "look_at_wishes" (.cons (.frz 0) .nil))) 
  (.cons (.ret [] (.blt .max (.cons (.lc [1] (.nm 1) (.seq (.ix (.frz 0) (.int 1))) .no c_longest_e1) .nil))) .nil))⟩

def c_l_longest_e1 : E := .blt .len (.cons (.frz 1) .nil)
def c_l_longest : Fn := ⟨1, 2, [], 
  (.cons (.ret [] (.blt .max (.cons (.lc [1] (.nm 1) (.seq (.ix (.frz 0) (.int 1))) .no c_l_longest_e1) .nil))) .nil)⟩

def c_l_is_whole : Fn := ⟨1, 1, [], 
  (.cons (.ret [] (.and (.isi (.frz 0) .int) (.not (.isi (.frz 0) .bool)))) .nil)⟩


section
variable {P : String → Option Fn} {con : String → Option D} {k : Nat}
def rankGo (x : Int) : Nat → List (List Int) → Int
  | _, [] => 0
  | n, r :: rs => if x ∈ r then (n : Int) + 1 else rankGo x (n + 1) rs
def rankIn (rs : List (List Int)) (x : Int) : Int := rankGo x 0 rs
theorem in_row {x : Int} {row : List Int} : inT (.v (.int x)) (.v (rowD row)) = some (decide (x ∈ row)) := by
  have e : asQ (.v (rowD row)) = some (row.map fun i => T.v (.int i)) := by
    simp only [asQ, List.map_map]; rfl
  simp only [inT, e]
  have f : ((T.v (.int x)).er.flat && (row.map fun i => T.v (.int i)).all fun t => t.er.flat) = true := by
    rw [Bool.and_eq_true]
    refine ⟨by simp [D.flat], ?_⟩
    rw [List.all_eq_true]
    intro t ht
    obtain ⟨j, _, rfl⟩ := List.mem_map.mp ht
    simp [D.flat]
  rw [if_pos f]
  congr 1
  rw [Bool.eq_iff_iff, List.any_eq_true, decide_eq_true_eq]
  constructor
  · rintro ⟨t, ht, h⟩
    obtain ⟨j, hj, rfl⟩ := List.mem_map.mp ht
    rw [er_v, er_v, eqD_int, decide_eq_true_eq] at h
    rw [← h]; exact hj
  · intro h
    exact ⟨_, List.mem_map.mpr ⟨x, h, rfl⟩, by simp [eqD_int]⟩
/-- the first rank that has the thing -/
theorem forL_rank {step : T → Env → SR} {Γ : Env} {x : Int} (hit : ∀ (n : Nat) (r : List Int), x ∈ r → rtIs (.v (.int ((n : Int) + 1))) (step (.tp [.v (.int (n : Int)), .v (rowD r)]) Γ)) (miss : ∀ (n : Nat) (r : List Int), x ∉ r → step (.tp [.v (.int (n : Int)), .v (rowD r)]) Γ = .nx Γ) :
    ∀ (rs : List (List Int)) (n : Nat), ∃ Γ', forL step ((((rs.map rowD).map T.v).zipIdx n).map fun p => T.tp [.v (.int p.2), p.1]) Γ = if rankGo x n rs = 0 then .nx Γ else .rt (.v (.int (rankGo x n rs))) Γ'
  | [], n => ⟨[], rfl⟩
  | r :: rs, n => by
    rw [List.map_cons, List.map_cons, List.zipIdx_cons, List.map_cons]
    by_cases c : x ∈ r
    · obtain ⟨Γ', e⟩ := hit n r c
      refine ⟨Γ', ?_⟩
      have e2 : rankGo x n (r :: rs) = (n : Int) + 1 := by unfold rankGo; rw [if_pos c]
      rw [e2, if_neg (by omega), forL_rt e]
    · have e := miss n r c
      obtain ⟨Γ', h⟩ := forL_rank hit miss rs (n + 1)
      refine ⟨Γ', ?_⟩
      have e2 : rankGo x n (r :: rs) = rankGo x (n + 1) rs := by rw [rankGo]; rw [if_neg c]
      rw [e2, forL_nx e, h]
theorem among_loop {cl : Calls} {x : Int} {d0 : Option T} (rs : List (List Int)) : ∃ Γ', forL (forS cl con (.tp [2, 3]) c_rank_among_b1) ((((rs.map rowD).map T.v).zipIdx 0).map fun p => T.tp [.v (.int p.2), p.1]) [d0, some (.v (.int x)), none, none] = if rankGo x 0 rs = 0 then .nx [d0, some (.v (.int x)), none, none] else .rt (.v (.int (rankGo x 0 rs))) Γ' := by
  refine forL_rank (fun n r c => ?_) (fun n r c => ?_) rs 0
  · have i := in_row (x := x) (row := r)
    rw [decide_eq_true c] at i
    obtain ⟨rd, hrd⟩ : ∃ rd, rd = rowD r := ⟨_, rfl⟩
    rw [← hrd] at i ⊢
    simp -implicitDefEqProofs [forS, c_rank_among_b1, i]
  · have i := in_row (x := x) (row := r)
    rw [decide_eq_false c] at i
    obtain ⟨rd, hrd⟩ : ∃ rd, rd = rowD r := ⟨_, rfl⟩
    rw [← hrd] at i ⊢
    simp -implicitDefEqProofs [forS, c_rank_among_b1, i]
theorem ev_rank_among (h : P "rank_among" = some c_rank_among) {rs : List (List Int)} {x : Int} : evF P con (k + 1) "rank_among" [.v (ranksD rs), .v (.int x)] = .ret (.v (.int (rankIn rs x))) [] := by
  rw [evF_at h rfl rfl]
  obtain ⟨Γ, e⟩ := among_loop (con := con) (cl := evF P con k) (x := x) (d0 := some (.v (ranksD rs))) rs
  unfold rankIn
  obtain ⟨z, hz⟩ : ∃ z, z = rankGo x 0 rs := ⟨_, rfl⟩
  rw [← hz] at e ⊢
  obtain ⟨rD, hrD⟩ : ∃ rD, rD = rs.map rowD := ⟨_, rfl⟩
  have hr : ranksD rs = .lst rD := by rw [hrD]
  rw [← hrD] at e
  rw [hr] at e ⊢
  by_cases c : z = 0
  · rw [if_pos c] at e
    simp -implicitDefEqProofs [c_rank_among, env0]
    simp -implicitDefEqProofs [e, c]
  · rw [if_neg c] at e
    simp -implicitDefEqProofs [c_rank_among, env0]
    simp -implicitDefEqProofs [e]
theorem rankGo_pos {x : Int} : ∀ {rs : List (List Int)} {n : Nat}, x ∈ rs.flatten → rankGo x n rs ≠ 0
  | [], _, h => by simp at h
  | r :: rs, n, h => by
    unfold rankGo
    split
    · omega
    · rename_i c
      rw [List.flatten_cons, List.mem_append] at h
      exact rankGo_pos (h.resolve_left c)
structure PRank (P : String → Option Fn) (con : String → Option D) : Prop extends PLook P con where
  rin : P "rank_in" = some c_rank_in
  rof : P "rank_of" = some c_rank_of
theorem ev_rank_in (h : P "rank_in" = some c_rank_in) {rs : List (List Int)} {x : Int} : evF P con (k + 1) "rank_in" [.v (ranksD rs), .v (.int x)] = .ret (.v (.int (rankIn rs x))) [] := by
  rw [evF_at h rfl rfl]
  have hb : c_rank_in_b1 = c_rank_among_b1 := rfl
  obtain ⟨Γ, e⟩ := among_loop (con := con) (cl := evF P con k) (x := x) (d0 := some (.v (ranksD rs))) rs
  rw [← hb] at e
  unfold rankIn
  obtain ⟨z, hz⟩ : ∃ z, z = rankGo x 0 rs := ⟨_, rfl⟩
  rw [← hz] at e ⊢
  obtain ⟨rD, hrD⟩ : ∃ rD, rD = rs.map rowD := ⟨_, rfl⟩
  have hr : ranksD rs = .lst rD := by rw [hrD]
  rw [← hrD] at e
  rw [hr] at e ⊢
  by_cases c : z = 0
  · rw [if_pos c] at e
    simp -implicitDefEqProofs [c_rank_in, env0]
    simp -implicitDefEqProofs [e, c]
  · rw [if_neg c] at e
    simp -implicitDefEqProofs [c_rank_in, env0]
    simp -implicitDefEqProofs [e]
theorem ix_w1 (cw : List Int) (ls : List (List (List Int))) : ixT (.v (wishD cw ls)) (.v (.int 1)) = some (.v (.lst (ls.map ranksD))) := rfl
theorem ix_w0 (cw : List Int) (ls : List (List (List Int))) : ixT (.v (wishD cw ls)) (.v (.int 0)) = some (.v (.lst (cw.map .int))) := rfl
theorem ix_ranks {ls : List (List (List Int))} {rs : List (List Int)} {i : Nat} (hi : ls[i]? = some rs) : ixT (.v (.lst (ls.map ranksD))) (.v (.int (i : Int))) = some (.v (ranksD rs)) := ix_lst (by simp [hi])
theorem ev_rank_of (p : PRank P con) {cw : List Int} {ls : List (List (List Int))} {rs : List (List Int)} {i : Nat} {x : Int} (ok : Okw cw ls) (hi : ls[i]? = some rs) : evF P con (k + 5) "rank_of" [.v (wishD cw ls), .v (.int (i : Int)), .v (.int x)] = .ret (.v (.int (rankIn rs x))) [] := by
  rw [evF_at p.rof rfl rfl]
  have lw := ev_lookW (k := k) p.toPLook ok
  have i1 := ix_w1 cw ls
  have i2 := ix_ranks hi
  have ri := ev_rank_in p.rin (con := con) (k := k + 3) (rs := rs) (x := x)
  obtain ⟨w, hw⟩ : ∃ w, w = wishD cw ls := ⟨_, rfl⟩
  obtain ⟨rd, hrd⟩ : ∃ rd, rd = ranksD rs := ⟨_, rfl⟩
  rw [← hw] at lw i1
  rw [← hrd] at i2 ri
  rw [← hw]
  simp -implicitDefEqProofs [c_rank_of, env0]
  simp -implicitDefEqProofs [lw, i1, i2, ri]
theorem ev_l_rank (h : P "_law_rank" = some c_l_rank) {cw : List Int} {ls : List (List (List Int))} {rs : List (List Int)} {i : Nat} {x : Int} (hi : ls[i]? = some rs) : evF P con (k + 1) "_law_rank" [.v (wishD cw ls), .v (.int (i : Int)), .v (.int x)] = .ret (.v (.int (rankIn rs x))) [] := by
  rw [evF_at h rfl rfl]
  have i1 := ix_w1 cw ls
  have i2 := ix_ranks hi
  obtain ⟨w, hw⟩ : ∃ w, w = wishD cw ls := ⟨_, rfl⟩
  rw [← hw] at i1
  rw [← hw]
  have e : ∃ Γ', forL (forS (evF P con k) con (.tp [3, 4]) c_l_rank_b1) ((((rs.map rowD).map T.v).zipIdx 0).map fun p => T.tp [.v (.int p.2), p.1]) [some (.v w), some (.v (.int (i : Int))), some (.v (.int x)), none, none] = if rankGo x 0 rs = 0 then .nx [some (.v w), some (.v (.int (i : Int))), some (.v (.int x)), none, none] else .rt (.v (.int (rankGo x 0 rs))) Γ' := by
    refine forL_rank (fun n r c => ?_) (fun n r c => ?_) rs 0
    · have i := in_row (x := x) (row := r)
      rw [decide_eq_true c] at i
      obtain ⟨rd, hrd⟩ : ∃ rd, rd = rowD r := ⟨_, rfl⟩
      rw [← hrd] at i ⊢
      simp -implicitDefEqProofs [forS, c_l_rank_b1, i]
    · have i := in_row (x := x) (row := r)
      rw [decide_eq_false c] at i
      obtain ⟨rd, hrd⟩ : ∃ rd, rd = rowD r := ⟨_, rfl⟩
      rw [← hrd] at i ⊢
      simp -implicitDefEqProofs [forS, c_l_rank_b1, i]
  obtain ⟨Γ, e⟩ := e
  unfold rankIn
  obtain ⟨z, hz⟩ : ∃ z, z = rankGo x 0 rs := ⟨_, rfl⟩
  rw [← hz] at e ⊢
  obtain ⟨rD, hrD⟩ : ∃ rD, rD = rs.map rowD := ⟨_, rfl⟩
  have hr : ranksD rs = .lst rD := by rw [hrD]
  rw [← hrD] at e
  rw [hr] at i2
  by_cases c : z = 0
  · rw [if_pos c] at e
    simp -implicitDefEqProofs [c_l_rank, env0]
    simp -implicitDefEqProofs [i1, i2, e, c]
  · rw [if_neg c] at e
    simp -implicitDefEqProofs [c_l_rank, env0]
    simp -implicitDefEqProofs [i1, i2, e]
theorem intsT_vis : ∀ xs : List Int, intsT (vis xs) = some xs
  | [] => rfl
  | x :: xs => by
    have ih := intsT_vis xs
    show intsT (T.v (.int x) :: vis xs) = _
    simp [intsT, ih]
def lensOf (ls : List (List (List Int))) : List Int := ls.map fun rs => ((rs.length : Nat) : Int)
/-- the most ranks that one has -/
def longL (ls : List (List (List Int))) : Nat := match lensOf ls with
  | a :: r => (maxL a r).toNat
  | [] => 0
theorem max_lens {cw : List Int} {ls : List (List (List Int))} (ok : Okw cw ls) : bltT .max [.l (vis (lensOf ls))] = some (.v (.int (longL ls : Nat))) := by
  have h1 := ok.l1
  cases hls : ls with
  | nil => rw [hls] at h1; simp at h1
  | cons l0 lr =>
    have key : ∀ (a : Int) (r : List Int), bltT .max [.l (vis (a :: r))] = some (.v (.int (maxL a r))) := fun a r => by
      simp only [bltT, lOnly, Option.bind_some, intsT_vis]
    have e : lensOf (l0 :: lr) = ((l0.length : Nat) : Int) :: lensOf lr := rfl
    have nn : 0 ≤ maxL ((l0.length : Nat) : Int) (lensOf lr) := by
      have : ∀ (r : List Int) (a : Int), 0 ≤ a → 0 ≤ maxL a r := by
        intro r
        induction r with
        | nil => intro a h; exact h
        | cons b r ih =>
          intro a h
          unfold maxL
          rw [List.foldl_cons]
          refine ih _ ?_
          split <;> omega
      exact this _ _ (by omega)
    rw [e, key]
    unfold longL
    rw [e]
    dsimp only
    rw [Int.toNat_of_nonneg nn]
theorem lens_lc {cl : Calls} {w : Option T} {m : E} (hm : m = c_longest_e1) (ls : List (List (List Int))) : lcL (lcS cl con [1] (.nm 1) .no m) ((ls.map ranksD).map T.v) [w, none] [] = .ok (vis (lensOf ls)) [w, none] := by
  subst hm
  have e : vis (lensOf ls) = ls.map fun rs => T.v (.int ((rs.length : Nat) : Int)) := by simp [vis, lensOf, Function.comp_def]
  rw [e, List.map_map]
  refine lcL_mapM fun rs _ => ?_
  obtain ⟨rD, hrD⟩ : ∃ rD, rD = rs.map rowD := ⟨_, rfl⟩
  have hl : rD.length = rs.length := by rw [hrD, List.length_map]
  have hr : (T.v ∘ ranksD) rs = .v (.lst rD) := by rw [hrD]; rfl
  rw [hr]
  simp -implicitDefEqProofs [lcS, c_longest_e1, hl]
theorem ev_longest (p : PLook P con) (h : P "longest" = some c_longest) {cw : List Int} {ls : List (List (List Int))} (ok : Okw cw ls) : evF P con (k + 5) "longest" [.v (wishD cw ls)] = .ret (.v (.int (longL ls : Nat))) [] := by
  have lw := ev_lookW (k := k) p ok
  have h7 := ok.l2
  rw [evF_at h rfl rfl]
  have i1 := ix_w1 cw ls
  have lc := lens_lc (con := con) (cl := evF P con (k + 4)) (w := some (.v (wishD cw ls))) (m := c_longest_e1) rfl ls
  have mx := max_lens ok
  have its : itemsT (.v (.lst (ls.map ranksD))) = some ((ls.map ranksD).map T.v) := rfl
  have hll : ((ls.map ranksD).map T.v).length ≤ 16777216 := by rw [List.length_map, List.length_map]; omega
  obtain ⟨m, hm⟩ : ∃ m, m = longL ls := ⟨_, rfl⟩
  rw [← hm] at mx ⊢
  obtain ⟨vl, hvl⟩ : ∃ vl, vl = vis (lensOf ls) := ⟨_, rfl⟩
  rw [← hvl] at lc mx
  obtain ⟨w, hw⟩ : ∃ w, w = wishD cw ls := ⟨_, rfl⟩
  rw [← hw] at lw i1 lc ⊢
  obtain ⟨vD, hvD⟩ : ∃ vD, vD = (ls.map ranksD).map T.v := ⟨_, rfl⟩
  rw [← hvD] at its hll lc
  obtain ⟨lD, hlD⟩ : ∃ lD, lD = D.lst (ls.map ranksD) := ⟨_, rfl⟩
  rw [← hlD] at i1 its
  simp -implicitDefEqProofs [c_longest, env0]
  simp -implicitDefEqProofs [lw, i1, its, hll, lc, mx]
theorem ev_l_longest (h : P "_law_longest" = some c_l_longest) {cw : List Int} {ls : List (List (List Int))} (ok : Okw cw ls) : evF P con (k + 1) "_law_longest" [.v (wishD cw ls)] = .ret (.v (.int (longL ls : Nat))) [] := by
  have h7 := ok.l2
  rw [evF_at h rfl rfl]
  have i1 := ix_w1 cw ls
  have lc := lens_lc (con := con) (cl := evF P con k) (w := some (.v (wishD cw ls))) (m := c_l_longest_e1) rfl ls
  have mx := max_lens ok
  have its : itemsT (.v (.lst (ls.map ranksD))) = some ((ls.map ranksD).map T.v) := rfl
  have hll : ((ls.map ranksD).map T.v).length ≤ 16777216 := by rw [List.length_map, List.length_map]; omega
  obtain ⟨m, hm⟩ : ∃ m, m = longL ls := ⟨_, rfl⟩
  rw [← hm] at mx ⊢
  obtain ⟨vl, hvl⟩ : ∃ vl, vl = vis (lensOf ls) := ⟨_, rfl⟩
  rw [← hvl] at lc mx
  obtain ⟨w, hw⟩ : ∃ w, w = wishD cw ls := ⟨_, rfl⟩
  rw [← hw] at i1 lc ⊢
  obtain ⟨vD, hvD⟩ : ∃ vD, vD = (ls.map ranksD).map T.v := ⟨_, rfl⟩
  rw [← hvD] at its hll lc
  obtain ⟨lD, hlD⟩ : ∃ lD, lD = D.lst (ls.map ranksD) := ⟨_, rfl⟩
  rw [← hlD] at i1 its
  simp -implicitDefEqProofs [c_l_longest, env0]
  simp -implicitDefEqProofs [i1, its, hll, lc, mx]
theorem ev_l_whole {i : Int} (h : P "_law_is_whole" = some c_l_is_whole) : evF P con (k + 1) "_law_is_whole" [.v (.int i)] = .ret (.v (.bl true)) [] := by
  rw [evF_at h rfl rfl]
  simp -implicitDefEqProofs [c_l_is_whole, env0, D.isi, D.tyOk]
/-! plain: what the ranks of the things tell -/
theorem rankGo_at {x : Int} : ∀ {rs : List (List Int)} {n : Nat}, rs.flatten.Nodup → ∀ (r : Nat) (row : List Int), rs[r]? = some row → x ∈ row → rankGo x n rs = (n : Int) + r + 1
  | [], n, _, r, row, h, _ => by simp at h
  | q :: rs, n, nd, r, row, h, hx => by
    rw [List.flatten_cons, List.nodup_append] at nd
    unfold rankGo
    cases r with
    | zero =>
      simp at h; subst h
      rw [if_pos hx]; simp
    | succ r =>
      have h : rs[r]? = some row := by simpa using h
      have hn : x ∉ q := fun m => nd.2.2 x m x (List.mem_flatten.mpr ⟨row, List.mem_of_getElem? h, hx⟩) rfl
      rw [if_neg hn, rankGo_at nd.2.1 r row h hx]
      push_cast; omega
theorem rankGo_zero {x : Int} : ∀ {rs : List (List Int)} {n : Nat}, x ∉ rs.flatten → rankGo x n rs = 0
  | [], n, _ => rfl
  | q :: rs, n, h => by
    rw [List.flatten_cons, List.mem_append] at h
    unfold rankGo
    rw [if_neg (fun m => h (.inl m)), rankGo_zero fun m => h (.inr m)]
end
end Tv

namespace Tv
open PySem
def c_all_wishes_e1 : E := .tup (.cons (.frz 2) (.cons (.frz 5) .nil))
def c_all_wishes_b1 : Ss := 
      (.cons (.mut .extend (.nm 1) (.cons (.lc [5] (.nm 5) (.seq (.frz 4)) .no c_all_wishes_e1) .nil)) (.kill [4] .nil))
def c_all_wishes_b2 : Ss := 
    (.cons (.for (.nm 4) (.seq (.frz 3)) c_all_wishes_b1) (.kill [2, 3] .nil))
def c_all_wishes : Fn := ⟨1, 6, [], 
  (.cons (.ex (.call "look_at_wishes" (.cons (.frz 0) .nil))) 
  (.cons (.set 1 (.lst .nil)) 
  (.cons (.for (.tp [2, 3]) (.enum (.ix (.frz 0) (.int 1))) c_all_wishes_b2) 
  (.cons (.ret [] (.blt .sorted (.cons (.mov 1) .nil))) .nil))))⟩


/-- drawn wishes as the law holds them -/
structure HasW (W : T) (cw : List Int) (ls : List (List (List Int))) : Prop where
  er : W.er = wishD cw ls
  bor : bor W = .b (wishD cw ls)
  noB : W.noB = true
theorem hasW {cw : List Int} {lt : List T} {ls : List (List (List Int))} (h : lt.map T.er = ls.map ranksD) (n : T.noBs lt = true) : HasW (.tp [.l (vis cw), .l lt]) cw ls := by
  have e : (T.tp [.l (vis cw), .l lt]).er = wishD cw ls := by
    rw [er_tp, List.map_cons, List.map_cons, List.map_nil, er_l, er_l, h]; simp [vis]
  refine ⟨e, ?_, by simp [n]⟩
  show subB (T.tp [.l (vis cw), .l lt]).er = _
  rw [e]
  simp
theorem ixb1 (cw : List Int) (ls : List (List (List Int))) : ixT (.b (wishD cw ls)) (.v (.int 1)) = some (.b (.lst (ls.map ranksD))) := by
  have := ix_bt (ds := [D.lst (cw.map .int), .lst (ls.map ranksD)]) (i := 1) (d := .lst (ls.map ranksD)) (by decide) rfl
  simpa using this
theorem ixb0 (cw : List Int) (ls : List (List (List Int))) : ixT (.b (wishD cw ls)) (.v (.int 0)) = some (.b (.lst (cw.map .int))) := by
  have := ix_bt (ds := [D.lst (cw.map .int), .lst (ls.map ranksD)]) (i := 0) (d := .lst (cw.map .int)) (by decide) rfl
  simpa using this
theorem range_nat {n : Nat} {d : T} (h : d ∈ rangeT 0 n 1) : ∃ i : Nat, i < n ∧ d = .v (.int (i : Int)) := by
  obtain ⟨i, hi⟩ := List.mem_iff_getElem?.mp h
  obtain ⟨h1, h2⟩ := rangeT_get hi
  exact ⟨i, h1, by rw [h2]; congr 2; omega⟩
theorem okR_rev {n : Nat} {rs : List (List Int)} (h : OkR n rs) : OkR n rs.reverse where
  len := by rw [List.length_reverse]; exact h.len
  ne := fun r hr => h.ne r (List.mem_reverse.mp hr)
  nd := by
    have p : (rs.reverse.flatten).Perm rs.flatten := (List.reverse_perm rs).flatten
    exact p.nodup_iff.mpr h.nd
  rg := fun x hx => h.rg x (by
    obtain ⟨r, hr, hx⟩ := List.mem_flatten.mp hx
    exact List.mem_flatten.mpr ⟨r, List.mem_reverse.mp hr, hx⟩)
section
variable {P : String → Option Fn} {con : String → Option D} {k : Nat}
/-! all wishes -/
def rawP : Nat → List (List (List Int)) → List (Int × Int)
  | _, [] => []
  | i, rs :: ls => (rs.flatten.map fun x => ((i : Int), x)) ++ rawP (i + 1) ls
/-- the things of an asker, rising -/
def wishedOf (n : Nat) (rs : List (List Int)) : List Int := ((List.range n).filter fun (i : Nat) => decide (0 < rankIn rs (i : Int))).map fun (i : Nat) => (i : Int)
def wantP (n : Nat) : Nat → List (List (List Int)) → List (Int × Int)
  | _, [] => []
  | i, rs :: ls => ((wishedOf n rs).map fun x => ((i : Int), x)) ++ wantP n (i + 1) ls
theorem rankGo_nn {x : Int} : ∀ {rs : List (List Int)} {n : Nat}, 0 ≤ rankGo x n rs
  | [], n => by simp [rankGo]
  | q :: rs, n => by
    unfold rankGo
    split
    · omega
    · exact rankGo_nn
theorem rank_pos_iff {rs : List (List Int)} {x : Int} : 0 < rankIn rs x ↔ x ∈ rs.flatten := by
  constructor
  · intro h
    by_cases m : x ∈ rs.flatten
    · exact m
    · have := rankGo_zero (n := 0) m
      unfold rankIn at h; omega
  · intro m
    have h1 := rankGo_pos (n := 0) m
    have h2 := rankGo_nn (x := x) (rs := rs) (n := 0)
    unfold rankIn; omega
theorem wished_mem {n : Nat} {rs : List (List Int)} (h : OkR n rs) {x : Int} : x ∈ wishedOf n rs ↔ x ∈ rs.flatten := by
  unfold wishedOf
  rw [List.mem_map]
  constructor
  · rintro ⟨i, hi, rfl⟩
    have := (List.mem_filter.mp hi).2
    rw [decide_eq_true_eq] at this
    exact rank_pos_iff.mp this
  · intro hx
    obtain ⟨h0, h1⟩ := h.rg x hx
    refine ⟨x.toNat, List.mem_filter.mpr ⟨List.mem_range.mpr (by omega), ?_⟩, by omega⟩
    rw [decide_eq_true_eq, Int.toNat_of_nonneg h0]
    exact rank_pos_iff.mpr hx
theorem wished_lt (n : Nat) (rs : List (List Int)) : (wishedOf n rs).Pairwise (· < ·) := by
  unfold wishedOf
  refine List.pairwise_map.mpr ((List.pairwise_lt_range.filter _).imp fun h => ?_)
  omega
theorem wished_perm {n : Nat} {rs : List (List Int)} (h : OkR n rs) : (wishedOf n rs).Perm rs.flatten :=
  (List.perm_ext_iff_of_nodup ((wished_lt n rs).imp fun h e => by omega) h.nd).mpr fun x => wished_mem h
theorem want_perm {n : Nat} : ∀ (ls : List (List (List Int))) (i : Nat), (∀ rs ∈ ls, OkR n rs) → (wantP n i ls).Perm (rawP i ls)
  | [], _, _ => .refl _
  | rs :: ls, i, h => by
    unfold wantP rawP
    exact ((wished_perm (h rs (by simp))).map _).append (want_perm ls (i + 1) fun q hq => h q (by simp [hq]))
theorem want_fst {n : Nat} : ∀ (ls : List (List (List Int))) (i : Nat), ∀ p ∈ wantP n i ls, (i : Int) ≤ p.1
  | [], _, p, h => by cases h
  | rs :: ls, i, p, h => by
    unfold wantP at h
    rcases List.mem_append.mp h with h | h
    · obtain ⟨x, _, rfl⟩ := List.mem_map.mp h
      exact Int.le_refl _
    · have := want_fst ls (i + 1) p h
      push_cast at this; omega
theorem want_sorted {n : Nat} : ∀ (ls : List (List (List Int))) (i : Nat), SortedP (wantP n i ls)
  | [], _ => .nil
  | rs :: ls, i => by
    unfold wantP
    refine List.pairwise_append.mpr ⟨?_, want_sorted ls (i + 1), fun p hp q hq => ?_⟩
    · refine List.pairwise_map.mpr ((wished_lt n rs).imp fun {x y} h => ?_)
      exact leP_iff.mpr (.inr ⟨rfl, by show x ≤ y; omega⟩)
    · obtain ⟨x, _, rfl⟩ := List.mem_map.mp hp
      have := want_fst ls (i + 1) q hq
      exact leP_iff.mpr (.inl (by push_cast at this; show (i : Int) < q.1; omega))
theorem sort_want {n : Nat} {ls : List (List (List Int))} (h : ∀ rs ∈ ls, OkR n rs) : sortP (rawP 0 ls) = wantP n 0 ls := (sortP_is (want_perm ls 0 h) (want_sorted ls 0)).symm
abbrev prsD (ps : List (Int × Int)) : D := .lst (ps.map fun p => D.tup [.int p.1, .int p.2])
theorem pairs_er (ps : List (Int × Int)) : (ps.map pairTp).map T.er = ps.map fun p => D.tup [.int p.1, .int p.2] := by
  rw [List.map_map]; apply List.map_congr_left; intro p _; simp [pairTp]
theorem pairs_noB (ps : List (Int × Int)) : T.noBs (ps.map pairTp) = true := by rw [noBs_all, List.all_map, List.all_eq_true]; intro p _; simp [pairTp]
theorem pairs_cl (ps : List (Int × Int)) : T.cls (ps.map pairTp) = true := by rw [cls_all, List.all_map, List.all_eq_true]; intro p _; simp [pairTp]
theorem pairs_fz (ps : List (Int × Int)) : (T.l (ps.map pairTp)).fz = some (.w (prsD ps)) := by rw [fz_lw _ (pairs_cl ps), pairs_er]
theorem okD_prs (ps : List (Int × Int)) : (prsD ps).okD 60 = true := by
  show D.okDs _ 59 = true
  induction ps with
  | nil => simp [D.okDs]
  | cons p ps ih =>
    rw [List.map_cons]
    simp only [D.okDs, Bool.and_eq_true]
    exact ⟨by simp [D.okD, D.okDs], ih⟩
theorem sorted_pairs (ps : List (Int × Int)) : bltT .sorted [.l (ps.map pairTp)] = some (.l ((sortP ps).map pairTp)) := by
  have hp : ∀ ps : List (Int × Int), pairsT (ps.map pairTp) = some ps := fun ps => by
    induction ps with
    | nil => rfl
    | cons p ps ih =>
      show (pairsT (ps.map pairTp)).map (fun r => (p.1, p.2) :: r) = _
      rw [ih]; rfl
  cases ps with
  | nil => rfl
  | cons p ps =>
    have e1 : intsT ((p :: ps).map pairTp) = none := rfl
    have e2 := hp (p :: ps)
    have e3 : lOnly (.l ((p :: ps).map pairTp)) = some ((p :: ps).map pairTp) := rfl
    simp only [bltT, e3, Option.bind_some, e1, e2, Option.map_some]
theorem raw_len {n : Nat} (hn : n ≤ 6) : ∀ (ls : List (List (List Int))) (i : Nat), (∀ rs ∈ ls, OkR n rs) → (rawP i ls).length ≤ 6 * ls.length
  | [], _, _ => Nat.le_refl _
  | rs :: ls, i, h => by
    have := raw_len hn ls (i + 1) fun q hq => h q (by simp [hq])
    have hr := h rs (by simp)
    have := nodup_bound hr.nd hr.rg
    unfold rawP
    rw [List.length_append, List.length_map, List.length_cons]
    omega
theorem aw_b1 {cl : Calls} {acc : List (Int × Int)} {i : Nat} {row : List Int} {a0 a3 : Option T} (h : acc.length + row.length ≤ 1000) :
    forS cl con (.nm 4) c_all_wishes_b1 (.v (rowD row)) [a0, some (.l (acc.map pairTp)), some (.v (.int (i : Int))), a3, none, none] = .nx [a0, some (.l ((acc ++ row.map fun x => ((i : Int), x)).map pairTp)), some (.v (.int (i : Int))), a3, none, none] := by
  have lc : ∀ a1, lcL (lcS cl con [5] (.nm 5) .no c_all_wishes_e1) ((row.map D.int).map T.v) [a0, a1, some (.v (.int (i : Int))), a3, some (.v (rowD row)), none] [] = .ok ((row.map fun x => ((i : Int), x)).map pairTp) [a0, a1, some (.v (.int (i : Int))), a3, some (.v (rowD row)), none] := by
    intro a1
    have e : (row.map fun x => ((i : Int), x)).map pairTp = row.map fun x => T.v (.tup [.int (i : Int), .int x]) := by simp [pairTp, Function.comp_def]
    rw [e, List.map_map]
    refine lcL_mapM fun x _ => ?_
    obtain ⟨rd, hrd⟩ : ∃ rd, rd = rowD row := ⟨_, rfl⟩
    rw [← hrd]
    show lcS cl con [5] (.nm 5) .no c_all_wishes_e1 (.v (.int x)) _ = _
    simp -implicitDefEqProofs [lcS, c_all_wishes_e1]
  have nb := pairs_noB (row.map fun x => ((i : Int), x))
  have ex : mutT .extend (some (.l (acc.map pairTp))) [.l ((row.map fun x => ((i : Int), x)).map pairTp)] = some (.l ((acc ++ row.map fun x => ((i : Int), x)).map pairTp)) := by
    rw [ext_ok (us := (row.map fun x => ((i : Int), x)).map pairTp) rfl (by simp; omega) nb, List.map_append]
  have its : itemsT (.v (rowD row)) = some ((row.map D.int).map T.v) := rfl
  have hl : ((row.map D.int).map T.v).length ≤ 16777216 := by rw [List.length_map, List.length_map]; omega
  generalize (row.map D.int).map T.v = vD at *
  generalize hrd : rowD row = rd at *
  generalize (row.map fun x => ((i : Int), x)).map pairTp = pp at *
  generalize acc.map pairTp = aa at *
  generalize (acc ++ row.map fun x => ((i : Int), x)).map pairTp = ab at *
  simp -implicitDefEqProofs [forS, c_all_wishes_b1]
  simp -implicitDefEqProofs [its, hl, lc, ex]
theorem aw_b2 {cl : Calls} {acc : List (Int × Int)} {i : Nat} {rs : List (List Int)} {a0 : Option T} (h : acc.length + rs.flatten.length ≤ 1000) :
    forS cl con (.tp [2, 3]) c_all_wishes_b2 (.tp [.v (.int (i : Int)), .v (ranksD rs)]) [a0, some (.l (acc.map pairTp)), none, none, none, none] = .nx [a0, some (.l ((acc ++ rs.flatten.map fun x => ((i : Int), x)).map pairTp)), none, none, none, none] := by
  have key : ∀ (qs : List (List Int)) (acc : List (Int × Int)), acc.length + qs.flatten.length ≤ 1000 → forL (forS cl con (.nm 4) c_all_wishes_b1) ((qs.map rowD).map T.v) [a0, some (.l (acc.map pairTp)), some (.v (.int (i : Int))), some (.v (ranksD rs)), none, none] = .nx [a0, some (.l ((acc ++ qs.flatten.map fun x => ((i : Int), x)).map pairTp)), some (.v (.int (i : Int))), some (.v (ranksD rs)), none, none] := by
    intro qs
    induction qs with
    | nil => intro acc _; simp only [List.flatten_nil, List.map_nil, List.append_nil]; rfl
    | cons q qs ih =>
      intro acc h
      rw [List.flatten_cons, List.length_append] at h
      have e := ih (acc ++ q.map fun x => ((i : Int), x)) (by rw [List.length_append, List.length_map]; omega)
      have el : (acc ++ q.map fun x => ((i : Int), x)) ++ (qs.flatten.map fun x => ((i : Int), x)) = acc ++ (q ++ qs.flatten).map fun x => ((i : Int), x) := by rw [List.map_append, List.append_assoc]
      rw [List.map_cons, List.map_cons, forL_nx (aw_b1 (by omega)), e, List.flatten_cons, el]
  have lp := key rs acc h
  have its : itemsT (.v (ranksD rs)) = some ((rs.map rowD).map T.v) := rfl
  generalize (rs.map rowD).map T.v = vD at *
  generalize hrd : ranksD rs = rd at *
  generalize acc.map pairTp = aa at *
  generalize (acc ++ rs.flatten.map fun x => ((i : Int), x)).map pairTp = ab at *
  simp -implicitDefEqProofs [forS, c_all_wishes_b2]
  simp -implicitDefEqProofs [its, lp]
theorem ev_all (p : PLook P con) (ha : P "all_wishes" = some c_all_wishes) {cw : List Int} {ls : List (List (List Int))} (ok : Okw cw ls) : evF P con (k + 5) "all_wishes" [.v (wishD cw ls)] = .ret (.l ((wantP cw.length 0 ls).map pairTp)) [] := by
  have h7 := ok.l2
  have h6 := ok.c2
  have lw := ev_lookW (k := k) p ok
  have key : ∀ (qs : List (List (List Int))) (n : Nat) (acc : List (Int × Int)), (∀ rs ∈ qs, OkR cw.length rs) → acc.length + (rawP n qs).length ≤ 1000 → forL (forS (evF P con (k + 4)) con (.tp [2, 3]) c_all_wishes_b2) ((((qs.map ranksD).map T.v).zipIdx n).map fun p => T.tp [.v (.int p.2), p.1]) [some (.v (wishD cw ls)), some (.l (acc.map pairTp)), none, none, none, none] = .nx [some (.v (wishD cw ls)), some (.l ((acc ++ rawP n qs).map pairTp)), none, none, none, none] := by
    intro qs
    induction qs with
    | nil => intro n acc _ _; unfold rawP; rw [List.append_nil]; rfl
    | cons q qs ih =>
      intro n acc h1 h2
      unfold rawP at h2
      rw [List.length_append, List.length_map] at h2
      have e := aw_b2 (con := con) (cl := evF P con (k + 4)) (acc := acc) (i := n) (rs := q) (a0 := some (.v (wishD cw ls))) (by omega)
      have e2 := ih (n + 1) (acc ++ q.flatten.map fun x => ((n : Int), x)) (fun rs h => h1 rs (by simp [h])) (by rw [List.length_append, List.length_map]; omega)
      rw [List.map_cons, List.map_cons, List.zipIdx_cons, List.map_cons]
      show forL _ (T.tp [.v (.int (n : Int)), .v (ranksD q)] :: _) _ = _
      rw [forL_nx e, e2, List.append_assoc]
      rfl
  have hlen := raw_len h6 ls 0 ok.lr
  have lp := key ls 0 [] ok.lr (by simp only [List.length_nil]; omega)
  rw [List.nil_append] at lp
  have so := sorted_pairs (rawP 0 ls)
  rw [sort_want ok.lr] at so
  have nb := pairs_noB (wantP cw.length 0 ls)
  have i1 := ix_w1 cw ls
  have its : listT (.v (.lst (ls.map ranksD))) = some ((ls.map ranksD).map T.v) := rfl
  have e0 : List.map pairTp [] = [] := rfl
  rw [e0] at lp
  rw [evF_at ha rfl rfl]
  generalize (ls.map ranksD).map T.v = vD at *
  generalize D.lst (ls.map ranksD) = lD at *
  generalize hw : wishD cw ls = w at *
  generalize (rawP 0 ls).map pairTp = rp at *
  generalize (wantP cw.length 0 ls).map pairTp = dp at *
  simp -implicitDefEqProofs [c_all_wishes, env0]
  simp -implicitDefEqProofs [lw, i1, its, lp, so, nb]
end
end Tv

-- tree
open PySem PySem.Spec PyProof.Rows L2
namespace Kx
open Tv

abbrev f_is_whole : Fn := c_is_whole

abbrev f_need_row : Fn := c_need_row

abbrev f_is_many : Fn := c_is_many

abbrev f_is_thing : Fn := c_is_thing

abbrev f_are_ranks : Fn := c_are_ranks

abbrev f_look_at_wishes : Fn := c_look_at_wishes

abbrev f_longest : Fn := c_longest

abbrev f_all_wishes : Fn := c_all_wishes

abbrev f__law_cell_at : Fn := c_l_cell_at

abbrev f__law_numbers : Fn := c_numbers

abbrev f__law_wishes : Fn := c_l_wishes

abbrev f__law_rank : Fn := c_l_rank

abbrev f__law_longest : Fn := c_l_longest

abbrev f__law_is_whole : Fn := c_l_is_whole

def f__law_pairs_b1 : Ss := 
      (.cons (.ife (.cmp .gt (.call "_law_rank" (.cons (.frz 0) (.cons (.frz 2) (.cons (.frz 3) .nil)))) (.int 0)) (
        (.cons (.mut .append (.nm 1) (.cons (.tup (.cons (.frz 2) (.cons (.frz 3) .nil))) .nil)) (.kill [3] .nil))) ((.kill [3] .nil))) .nil)
def f__law_pairs_b2 : Ss := 
    (.cons (.for (.nm 3) (.rng1 (.blt .len (.cons (.ix (.frz 0) (.int 0)) .nil))) f__law_pairs_b1) (.kill [2] .nil))
def f__law_pairs : Fn := ⟨1, 4, [], 
  (.cons (.set 1 (.lst .nil)) 
  (.cons (.for (.nm 2) (.rng1 (.blt .len (.cons (.ix (.frz 0) (.int 1)) .nil))) f__law_pairs_b2) 
  (.cons (.ret [] (.mov 1)) .nil)))⟩

def f__law_right_b1 : Ss := 
    (.cons (.ife (.or (.not (.isi (.frz 2) .tuple)) (.or (.not (.call "_law_is_whole" (.cons (.ix (.frz 2) (.int 0)) .nil))) (.not (.call "_law_is_whole" (.cons (.ix (.frz 2) (.int 1)) .nil))))) (
      (.cons (.ret [] (.bl false)) .nil)) ((.kill [2] .nil))) .nil)
def f__law_right : Fn := ⟨2, 3, [], 
  (.cons (.ife (.or (.not (.isi (.frz 0) .list)) (.cmp .ne (.frz 0) (.frz 1))) (
    (.cons (.ret [] (.bl false)) .nil)) ((.kill [1] .nil))) 
  (.cons (.for (.nm 2) (.seq (.frz 0)) f__law_right_b1) 
  (.cons (.ret [] (.bl true)) .nil)))⟩

def f_law_b1 : Ss := 
    (.cons (.set 2 (.call "_law_wishes" (.cons (.frz 0) (.cons (.frz 1) (.cons (.int 6) (.cons (.int 7) (.cons (.int 5) .nil))))))) 
    (.cons (.setF 3 (.call "_law_pairs" (.cons (.var 2) .nil))) 
    (.cons (.setF 4 (.call "longest" (.cons (.var 2) .nil))) 
    (.cons (.ife (.or (.not (.call "_law_is_whole" (.cons (.frz 4) .nil))) (.cmp .ne (.frz 4) (.call "_law_longest" (.cons (.var 2) .nil)))) (
      (.cons (.ret [] (.bl false)) .nil)) ((.kill [4] .nil))) 
    (.cons (.set 5 (.call "all_wishes" (.cons (.var 2) .nil))) 
    (.cons (.ife (.not (.call "_law_right" (.cons (.var 5) (.cons (.frz 3) .nil)))) (
      (.cons (.ret [] (.bl false)) .nil)) (.nil)) 
    (.cons (.mut .append (.nm 5) (.cons (.tup (.cons (.int 0) (.cons (.int 0) .nil))) .nil)) (.kill [5] 
    (.cons (.ife (.or (.not (.call "_law_right" (.cons (.call "all_wishes" (.cons (.var 2) .nil)) (.cons (.frz 3) .nil)))) (.cmp .ne (.var 2) (.call "_law_wishes" (.cons (.frz 0) (.cons (.frz 1) (.cons (.int 6) (.cons (.int 7) (.cons (.int 5) .nil)))))))) (
      (.cons (.ret [] (.bl false)) .nil)) ((.kill [1] .nil))) 
    (.cons (.set 5 (.call "all_wishes" (.cons (.var 2) .nil))) 
    (.cons (.mut .reverse (.ix (.nm 2) (.int 1)) .nil) 
    (.cons (.mut .clear (.ix (.ix (.nm 2) (.int 1)) (.int 0)) .nil) 
    (.cons (.ife (.or (.not (.call "_law_right" (.cons (.var 5) (.cons (.frz 3) .nil)))) (.not (.call "_law_right" (.cons (.call "all_wishes" (.cons (.var 2) .nil)) (.cons (.call "_law_pairs" (.cons (.var 2) .nil)) .nil))))) (
      (.cons (.ret [] (.bl false)) .nil)) ((.kill [3, 5] .nil))) 
    (.cons (.ife (.cmp .ne (.call "longest" (.cons (.var 2) .nil)) (.call "_law_longest" (.cons (.var 2) .nil))) (
      (.cons (.ret [] (.bl false)) .nil)) ((.kill [2] .nil))) .nil))))))))))))))
def f_law : Fn := ⟨1, 6, [], 
  (.cons (.for (.nm 1) (.rng3 (.int 0) (.blt .max (.cons (.int 8) (.cons (.blt .min (.cons (.blt .len (.cons (.frz 0) .nil)) (.cons (.int 56) .nil))) .nil))) (.int 8)) f_law_b1) 
  (.cons (.ret [] (.bl true)) .nil))⟩

def top (i : Nat) : Stmt := PySem.Challenge.pw_wishdeal_k09_longest_and_all.main.body.getD i (.Pass ⟨0, 0, 0, 0⟩)
def cs : List (String × D) := [("MOST_THINGS", .int (6)), ("MOST_COPIES", .int (7)), ("MOST_ASKERS", .int (7)), ("MOST_RANKS", .int (5))]
def as : List (String × String) := []
def d_is_whole : Df := ⟨("is_whole", none), ⟨("is_whole", none), "is_whole", "is_whole", defArgs (top 4), defBody (top 4), defScope (top 4), [], []⟩, f_is_whole, ⟨["thing"], ["thing"]⟩⟩
def d_need_row : Df := ⟨("need_row", none), ⟨("need_row", none), "need_row", "need_row", defArgs (top 10), defBody (top 10), defScope (top 10), [], []⟩, f_need_row, ⟨["part", "thing", "most"], ["part", "thing", "most"]⟩⟩
def d_is_many : Df := ⟨("is_many", none), ⟨("is_many", none), "is_many", "is_many", defArgs (top 11), defBody (top 11), defScope (top 11), [], []⟩, f_is_many, ⟨["thing"], ["thing"]⟩⟩
def d_is_thing : Df := ⟨("is_thing", none), ⟨("is_thing", none), "is_thing", "is_thing", defArgs (top 12), defBody (top 12), defScope (top 12), [], []⟩, f_is_thing, ⟨["thing", "many"], ["thing", "many"]⟩⟩
def d_are_ranks : Df := ⟨("are_ranks", none), ⟨("are_ranks", none), "are_ranks", "are_ranks", defArgs (top 13), defBody (top 13), defScope (top 13), [], []⟩, f_are_ranks, ⟨["thing", "many", "seen", "rank", "one"], ["thing", "many"]⟩⟩
def d_look_at_wishes : Df := ⟨("look_at_wishes", none), ⟨("look_at_wishes", none), "look_at_wishes", "look_at_wishes", defArgs (top 14), defBody (top 14), defScope (top 14), [], []⟩, f_look_at_wishes, ⟨["thing", "copies", "lists", "number", "many", "ranks"], ["thing"]⟩⟩
def d_longest : Df := ⟨("longest", none), ⟨("longest", none), "longest", "longest", defArgs (top 15), defBody (top 15), defScope (top 15), [], []⟩, f_longest, ⟨["wishes", "ranks"], ["wishes"]⟩⟩
def d_all_wishes : Df := ⟨("all_wishes", none), ⟨("all_wishes", none), "all_wishes", "all_wishes", defArgs (top 16), defBody (top 16), defScope (top 16), [], []⟩, f_all_wishes, ⟨["wishes", "found", "asker", "ranks", "rank", "thing"], ["wishes"]⟩⟩
def d__law_cell_at : Df := ⟨("_law_cell_at", none), ⟨("_law_cell_at", none), "_law_cell_at", "_law_cell_at", defArgs (top 18), defBody (top 18), defScope (top 18), [], []⟩, f__law_cell_at, ⟨["_law_script", "_law_k"], ["_law_script", "_law_k"]⟩⟩
def d__law_numbers : Df := ⟨("_law_numbers", none), ⟨("_law_numbers", none), "_law_numbers", "_law_numbers", defArgs (top 19), defBody (top 19), defScope (top 19), [], []⟩, f__law_numbers, ⟨["_law_cell", "_law_salt", "_law_sizes", "_law_number", "_law_left", "_law_found", "_law_k", "_law_one"], ["_law_cell", "_law_salt", "_law_sizes"]⟩⟩
def d__law_wishes : Df := ⟨("_law_wishes", none), ⟨("_law_wishes", none), "_law_wishes", "_law_wishes", defArgs (top 20), defBody (top 20), defScope (top 20), [], []⟩, f__law_wishes, ⟨["_law_script", "_law_at", "_law_most_things", "_law_most_askers", "_law_most_ranks", "_law_sizes", "_law_digits", "_law_copies", "_law_lists", "_law_asker", "_law_cell", "_law_places", "_law_ranks", "_law_rank_here", "_law_digit", "_law_row", "_law_thing"], ["_law_script", "_law_at", "_law_most_things", "_law_most_askers", "_law_most_ranks"]⟩⟩
def d__law_rank : Df := ⟨("_law_rank", none), ⟨("_law_rank", none), "_law_rank", "_law_rank", defArgs (top 21), defBody (top 21), defScope (top 21), [], []⟩, f__law_rank, ⟨["_law_wishes_here", "_law_asker", "_law_thing", "_law_k", "_law_row"], ["_law_wishes_here", "_law_asker", "_law_thing"]⟩⟩
def d__law_longest : Df := ⟨("_law_longest", none), ⟨("_law_longest", none), "_law_longest", "_law_longest", defArgs (top 22), defBody (top 22), defScope (top 22), [], []⟩, f__law_longest, ⟨["_law_wishes_here", "_law_ranks"], ["_law_wishes_here"]⟩⟩
def d__law_is_whole : Df := ⟨("_law_is_whole", none), ⟨("_law_is_whole", none), "_law_is_whole", "_law_is_whole", defArgs (top 23), defBody (top 23), defScope (top 23), [], []⟩, f__law_is_whole, ⟨["_law_thing"], ["_law_thing"]⟩⟩
def d__law_pairs : Df := ⟨("_law_pairs", none), ⟨("_law_pairs", none), "_law_pairs", "_law_pairs", defArgs (top 24), defBody (top 24), defScope (top 24), [], []⟩, f__law_pairs, ⟨["_law_wishes_here", "_law_found", "_law_asker", "_law_thing"], ["_law_wishes_here"]⟩⟩
def d__law_right : Df := ⟨("_law_right", none), ⟨("_law_right", none), "_law_right", "_law_right", defArgs (top 25), defBody (top 25), defScope (top 25), [], []⟩, f__law_right, ⟨["_law_found", "_law_due", "_law_one"], ["_law_found", "_law_due"]⟩⟩
def d_law : Df := ⟨("law", none), ⟨("law", none), "law", "law", defArgs (top 26), defBody (top 26), defScope (top 26), [], []⟩, f_law, ⟨["_law_script", "_law_at", "_law_wishes_here", "_law_due", "_law_found", "_law_some"], ["_law_script"]⟩⟩
def ds : List Df := [d_is_whole, d_need_row, d_is_many, d_is_thing, d_are_ranks, d_look_at_wishes, d_longest, d_all_wishes, d__law_cell_at, d__law_numbers, d__law_wishes, d__law_rank, d__law_longest, d__law_is_whole, d__law_pairs, d__law_right, d_law]
theorem p_is_whole : d_is_whole.plain := ⟨rfl, rfl, rfl, fun _ _ _ _ _ _ us hl => match us, hl with | [_], _ => rfl⟩
theorem g_is_whole : d_is_whole.good ds as = true := by kernel_rfl
theorem p_need_row : d_need_row.plain := ⟨rfl, rfl, rfl, fun _ _ _ _ _ _ us hl => match us, hl with | [_, _, _], _ => rfl⟩
theorem g_need_row : d_need_row.good ds as = true := by kernel_rfl
theorem p_is_many : d_is_many.plain := ⟨rfl, rfl, rfl, fun _ _ _ _ _ _ us hl => match us, hl with | [_], _ => rfl⟩
theorem g_is_many : d_is_many.good ds as = true := by kernel_rfl
theorem p_is_thing : d_is_thing.plain := ⟨rfl, rfl, rfl, fun _ _ _ _ _ _ us hl => match us, hl with | [_, _], _ => rfl⟩
theorem g_is_thing : d_is_thing.good ds as = true := by kernel_rfl
theorem p_are_ranks : d_are_ranks.plain := ⟨rfl, rfl, rfl, fun _ _ _ _ _ _ us hl => match us, hl with | [_, _], _ => rfl⟩
theorem g_are_ranks : d_are_ranks.good ds as = true := by kernel_rfl
theorem p_look_at_wishes : d_look_at_wishes.plain := ⟨rfl, rfl, rfl, fun _ _ _ _ _ _ us hl => match us, hl with | [_], _ => rfl⟩
theorem g_look_at_wishes : d_look_at_wishes.good ds as = true := by kernel_rfl
theorem p_longest : d_longest.plain := ⟨rfl, rfl, rfl, fun _ _ _ _ _ _ us hl => match us, hl with | [_], _ => rfl⟩
theorem g_longest : d_longest.good ds as = true := by kernel_rfl
theorem p_all_wishes : d_all_wishes.plain := ⟨rfl, rfl, rfl, fun _ _ _ _ _ _ us hl => match us, hl with | [_], _ => rfl⟩
theorem g_all_wishes : d_all_wishes.good ds as = true := by kernel_rfl
theorem p__law_cell_at : d__law_cell_at.plain := ⟨rfl, rfl, rfl, fun _ _ _ _ _ _ us hl => match us, hl with | [_, _], _ => rfl⟩
theorem g__law_cell_at : d__law_cell_at.good ds as = true := by kernel_rfl
theorem p__law_numbers : d__law_numbers.plain := ⟨rfl, rfl, rfl, fun _ _ _ _ _ _ us hl => match us, hl with | [_, _, _], _ => rfl⟩
theorem g__law_numbers : d__law_numbers.good ds as = true := by kernel_rfl
theorem p__law_wishes : d__law_wishes.plain := ⟨rfl, rfl, rfl, fun _ _ _ _ _ _ us hl => match us, hl with | [_, _, _, _, _], _ => rfl⟩
theorem g__law_wishes : d__law_wishes.good ds as = true := by kernel_rfl
theorem p__law_rank : d__law_rank.plain := ⟨rfl, rfl, rfl, fun _ _ _ _ _ _ us hl => match us, hl with | [_, _, _], _ => rfl⟩
theorem g__law_rank : d__law_rank.good ds as = true := by kernel_rfl
theorem p__law_longest : d__law_longest.plain := ⟨rfl, rfl, rfl, fun _ _ _ _ _ _ us hl => match us, hl with | [_], _ => rfl⟩
theorem g__law_longest : d__law_longest.good ds as = true := by kernel_rfl
theorem p__law_is_whole : d__law_is_whole.plain := ⟨rfl, rfl, rfl, fun _ _ _ _ _ _ us hl => match us, hl with | [_], _ => rfl⟩
theorem g__law_is_whole : d__law_is_whole.good ds as = true := by kernel_rfl
theorem p__law_pairs : d__law_pairs.plain := ⟨rfl, rfl, rfl, fun _ _ _ _ _ _ us hl => match us, hl with | [_], _ => rfl⟩
theorem g__law_pairs : d__law_pairs.good ds as = true := by kernel_rfl
theorem p__law_right : d__law_right.plain := ⟨rfl, rfl, rfl, fun _ _ _ _ _ _ us hl => match us, hl with | [_, _], _ => rfl⟩
theorem g__law_right : d__law_right.good ds as = true := by kernel_rfl
theorem p_law : d_law.plain := ⟨rfl, rfl, rfl, fun _ _ _ _ _ _ us hl => match us, hl with | [_], _ => rfl⟩
theorem g_law : d_law.good ds as = true := by kernel_rfl
theorem txt : Txt ds cs as := ⟨fun e he => by
  simp only [ds, List.mem_cons, List.not_mem_nil, or_false] at he
  rcases he with rfl | rfl | rfl | rfl | rfl | rfl | rfl | rfl | rfl | rfl | rfl | rfl | rfl | rfl | rfl | rfl | rfl
  · exact g_is_whole
  · exact g_need_row
  · exact g_is_many
  · exact g_is_thing
  · exact g_are_ranks
  · exact g_look_at_wishes
  · exact g_longest
  · exact g_all_wishes
  · exact g__law_cell_at
  · exact g__law_numbers
  · exact g__law_wishes
  · exact g__law_rank
  · exact g__law_longest
  · exact g__law_is_whole
  · exact g__law_pairs
  · exact g__law_right
  · exact g_law
  , fun e he => by
  simp only [ds, List.mem_cons, List.not_mem_nil, or_false] at he
  rcases he with rfl | rfl | rfl | rfl | rfl | rfl | rfl | rfl | rfl | rfl | rfl | rfl | rfl | rfl | rfl | rfl | rfl
  · exact p_is_whole
  · exact p_need_row
  · exact p_is_many
  · exact p_is_thing
  · exact p_are_ranks
  · exact p_look_at_wishes
  · exact p_longest
  · exact p_all_wishes
  · exact p__law_cell_at
  · exact p__law_numbers
  · exact p__law_wishes
  · exact p__law_rank
  · exact p__law_longest
  · exact p__law_is_whole
  · exact p__law_pairs
  · exact p__law_right
  · exact p_law
  , by decide +kernel⟩
def loose0 : List PySem.Str := ["MOST_THINGS", "MOST_COPIES", "MOST_ASKERS", "MOST_RANKS", "DealError", "NoWishes", "is_whole", "need_row", "is_many", "is_thing", "are_ranks", "look_at_wishes", "longest", "all_wishes", "_law_cell_at", "_law_numbers", "_law_wishes", "_law_rank", "_law_longest", "_law_is_whole", "_law_pairs", "_law_right"]
def loose : List PySem.Str := loose0
def lawAt : Nat := 26
end Kx

-- last: V5
open PySem
namespace Kx
open Tv
theorem lk : PLook (tblP ds) (tblC cs) := ⟨rfl, rfl, rfl, rfl, rfl, rfl, rfl, rfl, rfl, rfl⟩
/-! the pairs -/
theorem pr_b1 {cw : List Int} {ls : List (List (List Int))} {acc : List (Int × Int)} {a x : Nat} {rs : List (List Int)} {k : Nat} (hi : ls[a]? = some rs) (h : acc.length ≤ 1000) :
    forS (evF (tblP ds) (tblC cs) (k + 1)) (tblC cs) (.nm 3) f__law_pairs_b1 (.v (.int (x : Int))) [some (.v (wishD cw ls)), some (.l (acc.map pairTp)), some (.v (.int (a : Int))), none] =
      .nx [some (.v (wishD cw ls)), some (.l ((acc ++ if 0 < rankIn rs (x : Int) then [((a : Int), (x : Int))] else []).map pairTp)), some (.v (.int (a : Int))), none] := by
  have r2 := ev_l_rank (P := tblP ds) (con := tblC cs) (k := k) rfl (cw := cw) (x := (x : Int)) hi
  have ap := app_ok (ts := acc.map pairTp) (t := pairTp ((a : Int), (x : Int))) (by rw [List.length_map]; omega) rfl
  have e1 : (acc ++ [((a : Int), (x : Int))]).map pairTp = acc.map pairTp ++ [pairTp ((a : Int), (x : Int))] := by rw [List.map_append]; rfl
  have e2 : (acc ++ []).map pairTp = acc.map pairTp := by rw [List.append_nil]
  have ep : pairTp ((a : Int), (x : Int)) = .v (.tup [.int (a : Int), .int (x : Int)]) := rfl
  rw [ep] at ap
  generalize rankIn rs (x : Int) = z at *
  generalize wishD cw ls = w at *
  by_cases c : 0 < z
  · rw [if_pos c, e1, ep]
    generalize acc.map pairTp = aa at *
    simp -implicitDefEqProofs [forS, f__law_pairs_b1]
    simp -implicitDefEqProofs [r2, c, ap]
  · rw [if_neg c, e2]
    generalize acc.map pairTp = aa at *
    simp -implicitDefEqProofs [forS, f__law_pairs_b1]
    simp -implicitDefEqProofs [r2, c]
theorem pr_in {cw : List Int} {ls : List (List (List Int))} {a : Nat} {rs : List (List Int)} {k : Nat} (hi : ls[a]? = some rs) : ∀ (xs : List Nat) (acc : List (Int × Int)), acc.length + xs.length ≤ 1000 →
    forL (forS (evF (tblP ds) (tblC cs) (k + 1)) (tblC cs) (.nm 3) f__law_pairs_b1) (xs.map fun (i : Nat) => T.v (.int (i : Int))) [some (.v (wishD cw ls)), some (.l (acc.map pairTp)), some (.v (.int (a : Int))), none] =
      .nx [some (.v (wishD cw ls)), some (.l ((acc ++ ((xs.filter fun (i : Nat) => decide (0 < rankIn rs (i : Int))).map fun (i : Nat) => ((a : Int), (i : Int)))).map pairTp)), some (.v (.int (a : Int))), none] := by
  intro xs
  induction xs with
  | nil => intro acc _; simp only [List.map_nil, List.filter_nil, List.append_nil]; rfl
  | cons x xs ih =>
    intro acc h
    rw [List.length_cons] at h
    have hl : (acc ++ if 0 < rankIn rs (x : Int) then [((a : Int), (x : Int))] else []).length ≤ acc.length + 1 := by rw [List.length_append]; split <;> simp
    have e := ih (acc ++ if 0 < rankIn rs (x : Int) then [((a : Int), (x : Int))] else []) (by omega)
    rw [List.map_cons, forL_nx (pr_b1 (k := k) hi (by omega)), e]
    congr 5
    rw [List.append_assoc, List.filter_cons]
    by_cases c : 0 < rankIn rs (x : Int) <;> simp [c]
theorem want_cons (n i : Nat) (rs : List (List Int)) (ls : List (List (List Int))) : wantP n i (rs :: ls) = ((wishedOf n rs).map fun x => ((i : Int), x)) ++ wantP n (i + 1) ls := rfl
theorem wished_len (n : Nat) (rs : List (List Int)) : (wishedOf n rs).length ≤ n := by
  unfold wishedOf
  rw [List.length_map]
  exact Nat.le_trans (List.length_filter_le _ _) (by simp)
theorem wanted_map (n a : Nat) (rs : List (List Int)) : ((wishedOf n rs).map fun x => ((a : Int), x)) = ((List.range n).filter fun (i : Nat) => decide (0 < rankIn rs (i : Int))).map fun (i : Nat) => ((a : Int), (i : Int)) := by
  unfold wishedOf
  rw [List.map_map]; rfl
theorem ev_pairs {k : Nat} {cw : List Int} {ls : List (List (List Int))} (ok : Okw cw ls) : evF (tblP ds) (tblC cs) (k + 2) "_law_pairs" [.v (wishD cw ls)] = .ret (.l ((wantP cw.length 0 ls).map pairTp)) [] := by
  have h6 := ok.c2
  have h7 := ok.l2
  have s6 := sm62' (n := cw.length) (by omega)
  have s7 := sm62' (n := ls.length) (by omega)
  have i0 := ix_w0 cw ls
  have i1 := ix_w1 cw ls
  have z0 : sizeT (.v (.lst (cw.map .int))) = some cw.length := by simp
  have z1 : sizeT (.v (.lst (ls.map ranksD))) = some ls.length := by simp
  have b2 : ∀ (a : Nat) (rs : List (List Int)) (acc : List (Int × Int)), ls[a]? = some rs → acc.length ≤ 500 → forS (evF (tblP ds) (tblC cs) (k + 1)) (tblC cs) (.nm 2) f__law_pairs_b2 (.v (.int (a : Int))) [some (.v (wishD cw ls)), some (.l (acc.map pairTp)), none, none] = .nx [some (.v (wishD cw ls)), some (.l ((acc ++ (wishedOf cw.length rs).map fun x => ((a : Int), x)).map pairTp)), none, none] := by
    intro a rs acc hi hl
    have lp := pr_in (cw := cw) (k := k) hi (List.range cw.length) acc (by rw [List.length_range]; omega)
    rw [← rangeT0] at lp
    rw [wanted_map]
    clear z1 i1
    generalize (acc ++ ((List.range cw.length).filter fun (i : Nat) => decide (0 < rankIn rs (i : Int))).map fun (i : Nat) => ((a : Int), (i : Int))).map pairTp = ab at *
    generalize acc.map pairTp = aa at *
    generalize D.lst (cw.map D.int) = cD at *
    generalize wishD cw ls = w at *
    simp -implicitDefEqProofs [forS, f__law_pairs_b2]
    simp -implicitDefEqProofs [i0, z0, s6, lp]
  have key : ∀ (m n : Nat) (acc : List (Int × Int)), n + m = ls.length → acc.length ≤ 6 * n → forL (forS (evF (tblP ds) (tblC cs) (k + 1)) (tblC cs) (.nm 2) f__law_pairs_b2) ((List.range' n m).map fun (i : Nat) => T.v (.int (i : Int))) [some (.v (wishD cw ls)), some (.l (acc.map pairTp)), none, none] = .nx [some (.v (wishD cw ls)), some (.l ((acc ++ wantP cw.length n (ls.drop n)).map pairTp)), none, none] := by
    intro m
    induction m with
    | zero =>
      intro n acc h1 h2
      have : ls.drop n = [] := List.drop_of_length_le (by omega)
      rw [this]
      simp only [List.range'_zero, List.map_nil, wantP, List.append_nil]
      rfl
    | succ m ih =>
      intro n acc h1 h2
      have hn : n < ls.length := by omega
      have hd : ls.drop n = ls[n] :: ls.drop (n + 1) := List.drop_eq_getElem_cons hn
      have hw := wished_len cw.length ls[n]
      have e := ih (n + 1) (acc ++ (wishedOf cw.length ls[n]).map fun x => ((n : Int), x)) (by omega) (by rw [List.length_append, List.length_map]; omega)
      rw [List.range'_succ, List.map_cons, forL_nx (b2 n ls[n] acc (List.getElem?_eq_getElem hn) (by omega)), e, hd, want_cons, List.append_assoc]
  have lp := key ls.length 0 [] (by omega) (by simp)
  rw [← List.range_eq_range', ← rangeT0, List.nil_append, List.drop_zero] at lp
  have e0 : List.map pairTp [] = [] := rfl
  rw [e0] at lp
  have nb := pairs_noB (wantP cw.length 0 ls)
  rw [evF_at (fn := f__law_pairs) rfl rfl rfl]
  clear b2 key i0 z0
  generalize (wantP cw.length 0 ls).map pairTp = dp at *
  generalize D.lst (ls.map ranksD) = lD at *
  generalize wishD cw ls = w at *
  simp -implicitDefEqProofs [f__law_pairs, env0]
  simp -implicitDefEqProofs [i1, z1, s7, lp, nb]
theorem ev_right {k : Nat} (ps : List (Int × Int)) : evF (tblP ds) (tblC cs) (k + 2) "_law_right" [.v (prsD ps), .v (prsD ps)] = .ret (.v (.bl true)) [] := by
  have eq : eqT (.v (prsD ps)) (.v (prsD ps)) = some true := eqT_self (er_v _) (er_v _) (okD_prs ps)
  have lp : forL (forS (evF (tblP ds) (tblC cs) (k + 1)) (tblC cs) (.nm 2) f__law_right_b1) (ps.map fun p => T.v (.tup [.int p.1, .int p.2])) [some (.v (prsD ps)), none, none] = .nx [some (.v (prsD ps)), none, none] := by
    refine forL_same fun d hd => ?_
    obtain ⟨p, _, rfl⟩ := List.mem_map.mp hd
    have w1 := ev_l_whole (P := tblP ds) (con := tblC cs) (k := k) (i := p.1) rfl
    have w2 := ev_l_whole (P := tblP ds) (con := tblC cs) (k := k) (i := p.2) rfl
    have x1 : ixT (.v (.tup [.int p.1, .int p.2])) (.v (.int 0)) = some (.v (.int p.1)) := rfl
    have x2 : ixT (.v (.tup [.int p.1, .int p.2])) (.v (.int 1)) = some (.v (.int p.2)) := rfl
    have t1 : (D.tup [.int p.1, .int p.2]).isi .tuple = true := rfl
    have t2 : (D.tup [.int p.1, .int p.2]).tyOk = true := rfl
    generalize prsD ps = pd at *
    simp -implicitDefEqProofs [forS, f__law_right_b1]
    simp -implicitDefEqProofs [w1, w2, x1, x2, t1, t2]
  have its : itemsT (.v (prsD ps)) = some (ps.map fun p => T.v (.tup [.int p.1, .int p.2])) := by
    show some ((ps.map fun p => D.tup [.int p.1, .int p.2]).map T.v) = _
    rw [List.map_map]; rfl
  have t1 : (prsD ps).isi .list = true := rfl
  have t2 : (prsD ps).tyOk = true := rfl
  rw [evF_at (fn := f__law_right) rfl rfl rfl]
  generalize (ps.map fun p => T.v (.tup [.int p.1, .int p.2])) = pv at *
  generalize prsD ps = pd at *
  simp -implicitDefEqProofs [f__law_right, env0]
  simp -implicitDefEqProofs [t1, t2, eq, its, lp]
theorem rev1_ok {cl : Calls} {con : String → Option D} {cs lt : List T} {a0 a1 a3 a4 a5 : Option T} :
    evS cl con (.mut .reverse (.ix (.nm 2) (.int 1)) .nil) [a0, a1, some (.tp [.l cs, .l lt]), a3, a4, a5] = .nx [a0, a1, some (.tp [.l cs, .l lt.reverse]), a3, a4, a5] := by
  have i1 : L2.ixN 2 1 = some 1 := by decide
  simp only [evS, evPl, evE, evEs, liftI, R.bind, getΓ, getP, ownQ, ixT1, List.getElem?_cons_succ, List.getElem?_cons_zero, List.length_cons, List.length_nil, i1, List.nil_append, List.cons_append, isLs, putΓ, mutT, setΓ, setP, List.set_cons_succ, List.set_cons_zero, if_true]
theorem clr_ok {cl : Calls} {con : String → Option D} {cs rk lt : List T} {a0 a1 a3 a4 a5 : Option T} :
    evS cl con (.mut .clear (.ix (.ix (.nm 2) (.int 1)) (.int 0)) .nil) [a0, a1, some (.tp [.l cs, .l (.l rk :: lt)]), a3, a4, a5] = .nx [a0, a1, some (.tp [.l cs, .l (.l [] :: lt)]), a3, a4, a5] := by
  have i1 : L2.ixN 2 1 = some 1 := by decide
  have i0 : L2.ixN (lt.length + 1) 0 = some 0 := by unfold L2.ixN; rw [if_pos (by omega), if_pos (by omega)]; rfl
  simp only [evS, evPl, evE, evEs, liftI, R.bind, getΓ, getP, ownQ, ixT1, List.getElem?_cons_succ, List.getElem?_cons_zero, List.length_cons, List.length_nil, i1, i0, List.nil_append, List.cons_append, isLs, putΓ, mutT, setΓ, setP, List.set_cons_succ, List.set_cons_zero, if_true]
theorem okR_nil (n : Nat) : OkR n [] := ⟨by simp, fun r h => by simp at h, by simp, fun x h => by simp at h⟩
theorem b1 {ns : List Int} {i : Nat} (hi : i ≤ 1000) : forS (evF (tblP ds) (tblC cs) 8) (tblC cs) (.nm 1) f_law_b1 (.v (.int (i : Int))) [some (.v (.scr ns)), none, none, none, none, none] = .nx [some (.v (.scr ns)), none, none, none, none, none] := by
  obtain ⟨cw, lt, ls, ew, hdl, ok, _, _⟩ := ev_wishes (P := tblP ds) (con := tblC cs) (k := 6) (ns := ns) (at_ := i) (mt := 6) (ma := 7) (mr := 5) rfl rfl rfl hi (by omega) (by omega) (by omega) (by omega) (by omega)
  have hw := hasW (cw := cw) hdl.er (T.noBs_of_cls hdl.cl)
  have h6 := ok.c2
  have h7 := ok.l2
  have her := hdl.er
  have hcl := T.noBs_of_cls hdl.cl
  obtain ⟨rks, hr1, hr2⟩ := hdl.is
  -- the wishes turned, the first list emptied
  have hrev : lt.reverse.map T.er = ls.reverse.map ranksD := by rw [List.map_reverse, her, List.map_reverse]
  have hrv : lt.reverse = rks.reverse.map T.l := by rw [hr1, List.map_reverse]
  obtain ⟨m0, ms, hms⟩ : ∃ m0 ms, ls.reverse = m0 :: ms := by
    cases h : ls.reverse with
    | nil => have h1 := ok.l1; have h2 := congrArg List.length h; rw [List.length_reverse, List.length_nil] at h2; omega
    | cons a b => exact ⟨a, b, rfl⟩
  have hlr : rks.reverse.length = ls.reverse.length := by
    have := congrArg List.length hr2
    simpa using this
  obtain ⟨q0, qs, hqs⟩ : ∃ q0 qs, rks.reverse = q0 :: qs := by
    cases h : rks.reverse with
    | nil => rw [h, hms] at hlr; simp at hlr
    | cons a b => exact ⟨a, b, rfl⟩
  rw [hqs, List.map_cons] at hrv
  have ok2 : Okw cw ([] :: ms) := by
    have hl : ls.length = ms.length + 1 := by have := congrArg List.length hms; simpa using this
    refine ⟨ok.c1, ok.c2, ok.cb, by simp, by simp; omega, fun rs hrs => ?_⟩
    rcases List.mem_cons.mp hrs with rfl | h
    · exact okR_nil _
    · exact ok.lr rs (List.mem_reverse.mp (by rw [hms]; simp [h]))
  have nb2 : T.noBs (T.l [] :: qs.map T.l) = true := by
    have : T.noBs lt.reverse = true := by rw [noBs_rev]; exact hcl
    rw [hrv] at this
    simp only [noBs_cons, noB_l, noBs_nil, Bool.true_and] at this ⊢
    exact (Bool.and_eq_true_iff.mp this).2
  have er2 : (T.l [] :: qs.map T.l).map T.er = ([] :: ms).map ranksD := by
    rw [hrv, hms, List.map_cons, List.map_cons, List.cons.injEq] at hrev
    rw [List.map_cons, List.map_cons, hrev.2, er_l]; rfl
  have hw2 := hasW (cw := cw) er2 nb2
  have rv := rev1_ok (cl := evF (tblP ds) (tblC cs) 8) (con := tblC cs) (cs := vis cw) (lt := lt) (a0 := some (.v (.scr ns))) (a1 := none) (a3 := some (.w (prsD (wantP cw.length 0 ls)))) (a4 := none) (a5 := some (.l ((wantP cw.length 0 ls).map pairTp)))
  rw [hrv] at rv
  have cr := clr_ok (cl := evF (tblP ds) (tblC cs) 8) (con := tblC cs) (cs := vis cw) (rk := q0) (lt := qs.map T.l) (a0 := some (.v (.scr ns))) (a1 := none) (a3 := some (.w (prsD (wantP cw.length 0 ls)))) (a4 := none) (a5 := some (.l ((wantP cw.length 0 ls).map pairTp)))
  have eq : eqT (.b (wishD cw ls)) (.tp [.l (vis cw), .l lt]) = some true := eqT_self (er_b _) hw.er (okD_wish _ _ 56)
  have ep := ev_pairs (k := 6) ok
  have ep2 := ev_pairs (k := 6) ok2
  have lg := ev_longest (P := tblP ds) (con := tblC cs) (k := 3) lk rfl ok
  have lg2 := ev_longest (P := tblP ds) (con := tblC cs) (k := 3) lk rfl ok2
  have ll := ev_l_longest (P := tblP ds) (con := tblC cs) (k := 7) rfl ok
  have ll2 := ev_l_longest (P := tblP ds) (con := tblC cs) (k := 7) rfl ok2
  have al := ev_all (P := tblP ds) (con := tblC cs) (k := 3) lk rfl ok
  have al2 := ev_all (P := tblP ds) (con := tblC cs) (k := 3) lk rfl ok2
  have r1 := ev_right (k := 6) (wantP cw.length 0 ls)
  have r2 := ev_right (k := 6) (wantP cw.length 0 ([] :: ms))
  have wl := ev_l_whole (P := tblP ds) (con := tblC cs) (k := 7) (i := (longL ls : Nat)) rfl
  have pf := pairs_fz (wantP cw.length 0 ls)
  have pn := pairs_noB (wantP cw.length 0 ls)
  have pc := pairs_cl (wantP cw.length 0 ls)
  have pe := pairs_er (wantP cw.length 0 ls)
  have pn2 := pairs_noB (wantP cw.length 0 ([] :: ms))
  have pc2 := pairs_cl (wantP cw.length 0 ([] :: ms))
  have pe2 := pairs_er (wantP cw.length 0 ([] :: ms))
  have hlen : (wantP cw.length 0 ls).length ≤ 1000 := by
    have := (want_perm (n := cw.length) ls 0 ok.lr).length_eq
    have := raw_len h6 ls 0 ok.lr
    omega
  have ap := app_ok (ts := (wantP cw.length 0 ls).map pairTp) (t := .v (.tup [.int 0, .int 0])) (by rw [List.length_map]; omega) rfl
  have bo := hw.bor
  have bo2 := hw2.bor
  have nW := hw.noB
  clear hrev hrv hr1 hr2 her hcl hdl nb2 er2
  generalize hW : T.tp [.l (vis cw), .l lt] = W at *
  generalize hW2 : T.tp [.l (vis cw), .l (T.l [] :: qs.map T.l)] = W2 at *
  generalize hW3 : T.tp [.l (vis cw), .l (T.l q0 :: qs.map T.l)] = W3 at *
  have e1 : D.lst (((wantP cw.length 0 ls).map pairTp).map T.er) = prsD (wantP cw.length 0 ls) := by rw [pe]
  have e2 : D.lst (((wantP cw.length 0 ([] :: ms)).map pairTp).map T.er) = prsD (wantP cw.length 0 ([] :: ms)) := by rw [pe2]
  clear pe pe2
  generalize hP : (wantP cw.length 0 ls).map pairTp = Pp at *
  generalize hP2 : (wantP cw.length 0 ([] :: ms)).map pairTp = Pp2 at *
  generalize hD : prsD (wantP cw.length 0 ls) = Dp at *
  generalize hD2 : prsD (wantP cw.length 0 ([] :: ms)) = Dp2 at *
  generalize longL ls = L1 at *
  generalize longL ([] :: ms) = L2' at *
  generalize wishD cw ls = w at *
  generalize wishD cw ([] :: ms) = w2 at *
  simp -implicitDefEqProofs at ew
  simp -implicitDefEqProofs [forS, f_law_b1, -s_mut_nm]
  simp -implicitDefEqProofs [ew, nW, bo, ep, pf, pn, pc, lg, ll, wl, al, e1, r1, ap, eq]
  simp -implicitDefEqProofs [rv, cr, bo2, e1, r1, al2, ep2, pn2, pc2, e2, r2, lg2, ll2]
theorem law_ok : ∀ ns : List Int, ns.length ≤ 63 → evF (tblP ds) (tblC cs) 9 "law" [.v (.scr ns)] = .ret (.v (.bl true)) [] := by
  intro ns hn
  rw [evF_at (fn := f_law) rfl rfl rfl]
  obtain ⟨j, hj, hj8, hj2⟩ : ∃ j : Nat, j ≤ 56 ∧ 8 ≤ j ∧ (if (8 : Int) < (if (56 : Int) < ns.length then (56 : Int) else ns.length) then (if (56 : Int) < ns.length then (56 : Int) else ns.length) else 8) = (j : Int) := by
    by_cases c1 : (56 : Int) < ns.length
    · exact ⟨56, by omega, by omega, by simp [c1]⟩
    · by_cases c2 : (8 : Int) < ns.length
      · exact ⟨ns.length, by omega, by omega, by simp [c1, c2]⟩
      · exact ⟨8, by omega, by omega, by simp [c1, c2]⟩
  have hm1 : rgN 0 j 8 ≤ 7 := by
    unfold rgN Builtin.Range.rangeSize
    rw [if_pos (by omega)]
    split <;> omega
  have hs : Builtin.Range.small 0 (j : Int) 8 = true := by
    have : ∀ j : Fin 64, Builtin.Range.small 0 ((j.val : Nat) : Int) 8 = true := by decide +kernel
    exact this ⟨j, by omega⟩
  have loop : forL (forS (evF (tblP ds) (tblC cs) 8) (tblC cs) (.nm 1) f_law_b1) (rangeT 0 (rgN 0 j 8) 8) [some (.v (.scr ns)), none, none, none, none, none] = .nx [some (.v (.scr ns)), none, none, none, none, none] := by
    refine forL_same fun d hd => ?_
    obtain ⟨i, hi⟩ := List.mem_iff_getElem?.mp hd
    obtain ⟨h1, rfl⟩ := rangeT_get hi
    rw [show (0 : Int) + (i : Int) * 8 = ((8 * i : Nat) : Int) by omega]
    exact b1 (by omega)
  have hj3 : rgN 0 (j : Int) 8 ≤ 16777216 := by omega
  simp -implicitDefEqProofs [f_law, env0]
  simp -implicitDefEqProofs [hj2, hs, hj3, loop]
end Kx
open PySem PySem.Spec PyProof.Rows L2
namespace Kx
open Tv
abbrev RR : PySem.W.OpenRow := PySem.W.OpenLaw.row PySem.Challenge.rw_wishdeal_k09_longest_and_all
abbrev pp : W.Frag → Bool := tvB ds cs as
abbrev fnl : List He.DefD := ds.map Df.d
theorem run (w : World) : HandSHeadRun.RunEq RR (PySem.W.view RR.prog [lawAt]) (hookV 4 pp fnl) (obV 4 pp fnl) 4000 loose w := by
  intro os
  kernel_rfl
theorem fin (hw : RR.toRowW.promised) : RR.Holds :=
  HandSHeadRun.head_any (r := RR) (q := PySem.W.view RR.prog [lawAt]) (H := hookV 4 pp fnl) (ob := obV 4 pp fnl) (M := 4000) (loose := loose) (d := HandSHeadRun.topDef RR.prog lawAt) (kwd := []) obV_eq (by kernel_rfl) (fun s => by kernel_rfl) run
    (by kernel_rfl) (by kernel_rfl) (by kernel_rfl) (by rfl) (by first | assumption | decide +kernel) (by decide +kernel) ⟨rfl, rfl, rfl, rfl, rfl, by decide +kernel⟩ hw
    (law_end (l := PySem.Challenge.rw_wishdeal_k09_longest_and_all) (n := 63) (k := 9) (x := "_law_script") (el := d_law) txt (by simp [ds]) rfl rfl rfl rfl (by decide) (by kernel_rfl) ⟨rfl, by decide, by decide⟩ (by kernel_rfl) law_ok)
end Kx
open PySem PySem.W PyProof.Rows
set_option maxRecDepth 100000 in
set_option maxHeartbeats 0 in
theorem PySem.Challenge.cw_wishdeal_k09_longest_and_all_holds : PySem.Challenge.rw_wishdeal_k09_longest_and_all.Holds := by
  w_on; o_law
  refine Kx.fin ?hw
  case hw => w_witness2
