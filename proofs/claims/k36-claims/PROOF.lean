import PyProof.Rows.All
import Wide.All
import OpenK.AllK
import Wide.FinOn
import HandS.ForMost
import HandS.ForExc
import HandS.IsInst
import HandS.Wide
import HandS.Walk
import HandS.Flow
import HandS.Style
import HandS.CallSlots
import HandS.ExcInit
import HandS.HeadHook2
import PyProof.SumWalkG
import PyProof.WalkInts
import PyProof.ListOps
import KE.DataCmp
import HandS.SortInts
import HandS.SortRule
import HandS.Deep
import HandS.CallRecv
import HandS.SetFor
import HandS.Conv
import HandS.TryOnly
import HandS.Codes
import HandS.Defaults
import HandS.More
import HandS.HeadEnd
import HandS.Head2
import HandS.Ends
import KE.KStateDown
import PySem.Challenge.RW_wishdeal_k36_claims
set_option Elab.async false
set_option linter.all false
set_option maxRecDepth 100000
set_option maxHeartbeats 0
namespace Tv
open PySem PySem.Spec PyProof.Rows L2

/-! ### data -/
inductive D where
  | non | bl (b : Bool) | int (i : Int) | str (s : List Nat)
  | lst (xs : List D) | tup (xs : List D) | ktp (xs : List D) | scr (xs : List Int)
  | dct (t : Bool) (ks vs : List D) | obj (c : String) (ns : List String) (vs : List D) | exc (c : String) (ns : List String) (vs : List D)

/-- v: frozen, w: frozen and made in this def, b: read only until something is written; the rest is owned -/
inductive T where
  | v (d : D) | w (d : D) | b (d : D) | l (ts : List T) | tp (ts : List T) | dc (t : Bool) (ks : List D) (ts : List T) | ob (c : String) (ns : List String) (ts : List T)

def D.flat : D → Bool
  | .non | .bl _ | .int _ | .str _ => true
  | _ => false
mutual
/-- never written by anybody -/
def D.imm : D → Bool
  | .non | .bl _ | .int _ | .str _ => true
  | .tup xs => D.imms xs
  | .ktp xs => D.imms xs
  | .exc _ _ vs => D.imms vs
  | _ => false
def D.imms : List D → Bool
  | [] => true
  | d :: ds => d.imm && D.imms ds
end
theorem imms_all (ds : List D) : D.imms ds = ds.all D.imm := by
  induction ds with
  | nil => rfl
  | cons t ts ih => simp [D.imms, ih]

mutual
def T.er : T → D
  | .v d => d
  | .w d => d
  | .b d => d
  | .l ts => .lst (T.ers ts)
  | .tp ts => .tup (T.ers ts)
  | .dc t ks ts => .dct t ks (T.ers ts)
  | .ob c ns ts => .obj c ns (T.ers ts)
def T.ers : List T → List D
  | [] => []
  | t :: ts => t.er :: T.ers ts
end
mutual
def T.noB : T → Bool
  | .v _ => true
  | .w _ => true
  | .b _ => false
  | .l ts => T.noBs ts
  | .tp ts => T.noBs ts
  | .dc _ _ ts => T.noBs ts
  | .ob _ _ ts => T.noBs ts
def T.noBs : List T → Bool
  | [] => true
  | t :: ts => t.noB && T.noBs ts
end
mutual
/-- nothing in it but what is new or never written -/
def T.cl : T → Bool
  | .v d => d.imm
  | .w _ => true
  | .b _ => false
  | .l ts => T.cls ts
  | .tp ts => T.cls ts
  | .dc _ _ ts => T.cls ts
  | .ob _ _ ts => T.cls ts
def T.cls : List T → Bool
  | [] => true
  | t :: ts => t.cl && T.cls ts
end
theorem ers_map (ts : List T) : T.ers ts = ts.map T.er := by
  induction ts with
  | nil => rfl
  | cons t ts ih => simp [T.ers, ih]
theorem noBs_all (ts : List T) : T.noBs ts = ts.all T.noB := by
  induction ts with
  | nil => rfl
  | cons t ts ih => simp [T.noBs, ih]
theorem cls_all (ts : List T) : T.cls ts = ts.all T.cl := by
  induction ts with
  | nil => rfl
  | cons t ts ih => simp [T.cls, ih]
mutual
theorem T.noB_of_cl : ∀ {t : T}, t.cl = true → t.noB = true
  | .v _, _ => rfl
  | .w _, _ => rfl
  | .b _, h => by simp [T.cl] at h
  | .l ts, h => by simp only [T.cl] at h; simp only [T.noB]; exact T.noBs_of_cls h
  | .tp ts, h => by simp only [T.cl] at h; simp only [T.noB]; exact T.noBs_of_cls h
  | .dc _ _ ts, h => by simp only [T.cl] at h; simp only [T.noB]; exact T.noBs_of_cls h
  | .ob _ _ ts, h => by simp only [T.cl] at h; simp only [T.noB]; exact T.noBs_of_cls h
theorem T.noBs_of_cls : ∀ {ts : List T}, T.cls ts = true → T.noBs ts = true
  | [], _ => rfl
  | t :: ts, h => by
    simp only [T.cls, Bool.and_eq_true] at h
    simp only [T.noBs, Bool.and_eq_true]
    exact ⟨T.noB_of_cl h.1, T.noBs_of_cls h.2⟩
end

def okS (s : List Nat) : Bool := decide (s.length ≤ sizeLine) && s.all (fun c => decide (c < 0x110000))

/-! ### heaps -/
def isDic : HO → Bool
  | .dK _ | .dT _ => true
  | _ => false
/-- more stands there; a dict may be locked -/
def Sub (F F' : Hp) : Prop := ∀ a o, F a = some o → F' a = some o ∨ (isDic o = true ∧ ∃ ob, F' a = some (.frz ob o))
theorem Sub.refl {F : Hp} : Sub F F := fun _ _ h => .inl h
theorem Sub.trans {F F' F'' : Hp} (a : Sub F F') (b : Sub F' F'') : Sub F F'' := fun x o h => by
  rcases a x o h with h | ⟨d, ob, h⟩
  · exact b x o h
  · rcases b x _ h with h | ⟨d', _⟩
    · exact .inr ⟨d, ob, h⟩
    · cases d'
theorem Sub.eq {F F' : Hp} (h : Sub F F') {a : Addr} {o : HO} (e : F a = some o) (d : isDic o = false) : F' a = some o := by
  rcases h a o e with h | ⟨d', _⟩
  · exact h
  · rw [d] at d'; cases d'
theorem Sub.rd {F F' : Hp} (h : Sub F F') {a : Addr} {u : HO} (e : Rd F a u) : Rd F' a u := by
  rcases e with e | ⟨o, e⟩
  · rcases h a u e with h | ⟨_, ob, h⟩
    · exact .inl h
    · exact .inr ⟨ob, h⟩
  · exact .inr ⟨o, h.eq e rfl⟩
theorem Sub.ne {F F' : Hp} (h : Sub F F') {a : Addr} (e : F a ≠ none) : F' a ≠ none := by
  cases q : F a with
  | none => exact absurd q e
  | some o =>
    rcases h a o q with h | ⟨_, ob, h⟩ <;> rw [h] <;> simp
theorem Sub.none {F F' : Hp} (h : Sub F F') {a : Addr} (e : F' a = none) : F a = none := by
  cases q : F a with
  | none => rfl
  | some o => exact absurd e (h.ne (by rw [q]; simp))
theorem Sub.of {F F' : Hp} (h : ∀ a o, F a = some o → F' a = some o) : Sub F F' := fun a o e => .inl (h a o e)
theorem Sub.sqT {K : W.Frag} {F F' : Hp} (h : Sub F F') {a xs} (s : SqT K F a xs) : SqT K F' a xs := by
  rcases s with (s | ⟨o, s⟩) | s
  · exact .inl (.inl (h.eq s rfl))
  · exact .inl (.inr ⟨o, h.eq s rfl⟩)
  · exact .inr s
theorem Sub.sqL {K : W.Frag} {F F' : Hp} (h : Sub F F') {a xs} (s : SqL K F a xs) : SqL K F' a xs := by
  rcases s with (s | ⟨o, s⟩) | s
  · exact .inl (.inl (h.eq s rfl))
  · exact .inl (.inr ⟨o, h.eq s rfl⟩)
  · exact .inr s
theorem upd_sub {H : Hp} {p : Addr} {o : HO} (hp : H p = none) : Sub H (upd H p o) := fun a u e => by
  rw [upd_ne (fun q => by subst q; rw [hp] at e; cases e)]; exact .inl e
/-- for good, by their kind -/
def stab : HO → Bool
  | .tup _ => true
  | .frz _ (.tup _) => true
  | .ext _ => true
  | .xd _ => true
  | _ => false
theorem stab_dic {o : HO} (h : stab o = true) : isDic o = false := by
  cases o <;> first | rfl | cases h

/-! ### frozen data -/
def keyD1 : Key → D
  | .inl i => .int i
  | .inr x => .str x.cps.toList
def keyOk : Key → Bool
  | .inl _ => true
  | .inr x => okS x.cps.toList
/-- what a dict's object holds: keys, values -/
inductive DH : Bool → HO → List D → List V → Prop
  | k (kvs : List (Key × V)) (h : (kvs.all fun p => keyOk p.1) = true) (nd : (kvs.map Prod.fst).Nodup) : DH false (.dK kvs) (kvs.map fun p => keyD1 p.1) (kvs.map Prod.snd)
  | t (kvs : List (List Key × V)) (h : (kvs.all fun p => p.1.all keyOk) = true) (nd : (kvs.map Prod.fst).Nodup) : DH true (.dT kvs) (kvs.map fun p => .tup (p.1.map keyD1)) (kvs.map Prod.snd)
theorem DH.dic {t : Bool} {u : HO} {ks : List D} {vs : List V} (h : DH t u ks vs) : isDic u = true := by cases h <;> rfl
/-- an own class's place -/
abbrev clsA (K : W.Frag) (c : String) : Addr := He.ga K (Str.ofString c)
structure ObjC (K : W.Frag) (c : String) (ns : List String) : Prop where
  cls : Cls K (clsA K c)
  no : ∀ f ∈ ns, NoAttr K (clsA K c) (Str.ofString f)
def excAt (a C : Addr) (dopt : Option Addr) : HO := .ext fun h => ∃ o vs, h.get? a = some o ∧ o.cls = .ref C ∧ o.dict = dopt ∧ o.data = .fields vs
mutual
inductive RpD (K : W.Frag) (F : Hp) : V → D → Prop
  | non : RpD K F .non .non
  | bl (b : Bool) : RpD K F (.bl b) (.bl b)
  | int (i : Int) : RpD K F (.int i) (.int i)
  | str (x : Str) (h : okS x.cps.toList = true) : RpD K F (.str x) (.str x.cps.toList)
  | lst {a : Addr} {xs : List V} {ds : List D} (h : F a = some (.lst xs)) (r : RpDs K F xs ds) : RpD K F (.ref a) (.lst ds)
  | tup {a : Addr} {xs : List V} {ds : List D} (h : F a = some (.tup xs)) (r : RpDs K F xs ds) : RpD K F (.ref a) (.tup ds)
  | ktp {a : Addr} {xs : List V} {ds : List D} (h : SqT K F a xs) (r : RpDs K F xs ds) : RpD K F (.ref a) (.ktp ds)
  | scr {a : Addr} {ns : List Int} (h : SqL K F a (ns.map V.int)) : RpD K F (.ref a) (.scr ns)
  | dct {a : Addr} {t : Bool} {u : HO} {ks : List D} {xs : List V} {ds : List D} (h : Rd F a u) (q : DH t u ks xs) (r : RpDs K F xs ds) : RpD K F (.ref a) (.dct t ks ds)
  | obj {a dx : Addr} {fs : List (Str × V)} {c : String} {ns : List String} {xs : List V} {ds : List D} (hc : ObjC K c ns) (h : F a = some (.ins (clsA K c) dx fs)) (hn : fs.map Prod.fst = ns.map Str.ofString) (hx : fs.map Prod.snd = xs) (r : RpDs K F xs ds) : RpD K F (.ref a) (.obj c ns ds)
  | exc {a : Addr} {dopt : Option Addr} {fs : List (Str × V)} {c : String} {ns : List String} {xs : List V} {ds : List D} (h : F a = some (excAt a (clsA K c) dopt)) (hd : (dopt = none ∧ fs = []) ∨ ∃ d, dopt = some d ∧ F d = some (.xd fs))
      (hn : fs.map Prod.fst = ns.map Str.ofString) (hx : fs.map Prod.snd = xs) (r : RpDs K F xs ds) : RpD K F (.ref a) (.exc c ns ds)
inductive RpDs (K : W.Frag) (F : Hp) : List V → List D → Prop
  | nil : RpDs K F [] []
  | cons {x : V} {xs : List V} {d : D} {ds : List D} (r : RpD K F x d) (rs : RpDs K F xs ds) : RpDs K F (x :: xs) (d :: ds)
end
mutual
theorem RpD.mono {K : W.Frag} {F F' : Hp} (h : Sub F F') : ∀ {x : V} {d : D}, RpD K F x d → RpD K F' x d
  | _, _, .non => .non
  | _, _, .bl b => .bl b
  | _, _, .int i => .int i
  | _, _, .str x e => .str x e
  | _, _, .lst e r => .lst (h.eq e rfl) (RpDs.mono h r)
  | _, _, .tup e r => .tup (h.eq e rfl) (RpDs.mono h r)
  | _, _, .ktp e r => .ktp (h.sqT e) (RpDs.mono h r)
  | _, _, .scr e => .scr (h.sqL e)
  | _, _, .dct e q r => .dct (h.rd e) q (RpDs.mono h r)
  | _, _, .obj c e n x r => .obj c (h.eq e rfl) n x (RpDs.mono h r)
  | _, _, .exc e d n x r => .exc (h.eq e rfl) (d.elim .inl fun ⟨d, e1, e2⟩ => .inr ⟨d, e1, h.eq e2 rfl⟩) n x (RpDs.mono h r)
theorem RpDs.mono {K : W.Frag} {F F' : Hp} (h : Sub F F') : ∀ {x : List V} {d : List D}, RpDs K F x d → RpDs K F' x d
  | _, _, .nil => .nil
  | _, _, .cons a b => .cons (RpD.mono h a) (RpDs.mono h b)
end
/-- the same, but for locks of dicts -/
def Sub2 (F F' : Hp) : Prop := ∀ a o, F a = some o → F' a = some o ∨ (isDic o = true ∧ ∃ ob, F' a = some (.frz ob o)) ∨ ∃ ob u, o = .frz ob u ∧ isDic u = true ∧ F' a = some u
theorem Sub2.eq {F F' : Hp} (h : Sub2 F F') {a : Addr} {o : HO} (e : F a = some o) (d : isDic o = false) (n : ∀ ob u, o = .frz ob u → isDic u = false) : F' a = some o := by
  rcases h a o e with h | ⟨d', _⟩ | ⟨ob, u, rfl, d', _⟩
  · exact h
  · rw [d] at d'; cases d'
  · rw [n ob u rfl] at d'; cases d'
theorem Sub2.rd {F F' : Hp} (h : Sub2 F F') {a : Addr} {u : HO} (e : Rd F a u) (d : isDic u = true) : Rd F' a u := by
  rcases e with e | ⟨o, e⟩
  · rcases h a u e with h | ⟨_, ob, h⟩ | ⟨ob, v, rfl, _⟩
    · exact .inl h
    · exact .inr ⟨ob, h⟩
    · cases d
  · rcases h a _ e with h | ⟨d', _⟩ | ⟨ob, v, q, _, h⟩
    · exact .inr ⟨o, h⟩
    · cases d'
    · cases q; exact .inl h
theorem Sub2.sqT {K : W.Frag} {F F' : Hp} (h : Sub2 F F') {a xs} (s : SqT K F a xs) : SqT K F' a xs := by
  rcases s with (s | ⟨o, s⟩) | s
  · exact .inl (.inl (h.eq s rfl fun _ _ z => by cases z))
  · exact .inl (.inr ⟨o, h.eq s rfl fun _ _ z => by cases z; rfl⟩)
  · exact .inr s
theorem Sub2.sqL {K : W.Frag} {F F' : Hp} (h : Sub2 F F') {a xs} (s : SqL K F a xs) : SqL K F' a xs := by
  rcases s with (s | ⟨o, s⟩) | s
  · exact .inl (.inl (h.eq s rfl fun _ _ z => by cases z))
  · exact .inl (.inr ⟨o, h.eq s rfl fun _ _ z => by cases z; rfl⟩)
  · exact .inr s
mutual
theorem RpD.mono2 {K : W.Frag} {F F' : Hp} (h : Sub2 F F') : ∀ {x : V} {d : D}, RpD K F x d → RpD K F' x d
  | _, _, .non => .non
  | _, _, .bl b => .bl b
  | _, _, .int i => .int i
  | _, _, .str x e => .str x e
  | _, _, .lst e r => .lst (h.eq e rfl fun _ _ z => by cases z) (RpDs.mono2 h r)
  | _, _, .tup e r => .tup (h.eq e rfl fun _ _ z => by cases z) (RpDs.mono2 h r)
  | _, _, .ktp e r => .ktp (h.sqT e) (RpDs.mono2 h r)
  | _, _, .scr e => .scr (h.sqL e)
  | _, _, .dct e q r => .dct (h.rd e q.dic) q (RpDs.mono2 h r)
  | _, _, .obj c e n x r => .obj c (h.eq e rfl fun _ _ z => by cases z) n x (RpDs.mono2 h r)
  | _, _, .exc e d n x r => .exc (h.eq e rfl fun _ _ z => by unfold excAt at z; cases z) (d.elim .inl fun ⟨d, e1, e2⟩ => .inr ⟨d, e1, h.eq e2 rfl fun _ _ z => by cases z⟩) n x (RpDs.mono2 h r)
theorem RpDs.mono2 {K : W.Frag} {F F' : Hp} (h : Sub2 F F') : ∀ {x : List V} {d : List D}, RpDs K F x d → RpDs K F' x d
  | _, _, .nil => .nil
  | _, _, .cons a b => .cons (RpD.mono2 h a) (RpDs.mono2 h b)
end
/-- F' has what F has for good -/
def Stb (F F' : Hp) : Prop := ∀ a o, F a = some o → stab o = true → F' a = some o
theorem Stb.sqT {K : W.Frag} {F F' : Hp} (h : Stb F F') {a xs} (s : SqT K F a xs) : SqT K F' a xs := by
  rcases s with (s | ⟨o, s⟩) | s
  · exact .inl (.inl (h _ _ s rfl))
  · exact .inl (.inr ⟨o, h _ _ s rfl⟩)
  · exact .inr s
mutual
theorem RpD.imm {K : W.Frag} {F F' : Hp} (h : Stb F F') : ∀ {x : V} {d : D}, RpD K F x d → d.imm = true → RpD K F' x d
  | _, _, .non, _ => .non
  | _, _, .bl b, _ => .bl b
  | _, _, .int i, _ => .int i
  | _, _, .str x e, _ => .str x e
  | _, _, .lst e r, i => by simp [D.imm] at i
  | _, _, .tup e r, i => .tup (h _ _ e rfl) (RpDs.imm h r (by simpa [D.imm] using i))
  | _, _, .ktp e r, i => .ktp (h.sqT e) (RpDs.imm h r (by simpa [D.imm] using i))
  | _, _, .scr e, i => by simp [D.imm] at i
  | _, _, .dct e q r, i => by simp [D.imm] at i
  | _, _, .obj c e n x r, i => by simp [D.imm] at i
  | _, _, .exc e d n x r, i => .exc (h _ _ e rfl) (d.elim .inl fun ⟨d, e1, e2⟩ => .inr ⟨d, e1, h _ _ e2 rfl⟩) n x (RpDs.imm h r (by simpa [D.imm] using i))
theorem RpDs.imm {K : W.Frag} {F F' : Hp} (h : Stb F F') : ∀ {x : List V} {d : List D}, RpDs K F x d → D.imms d = true → RpDs K F' x d
  | _, _, .nil, _ => .nil
  | _, _, .cons a b, i => by
    simp only [D.imms, Bool.and_eq_true] at i
    exact .cons (RpD.imm h a i.1) (RpDs.imm h b i.2)
end
theorem RpDs.length {K : W.Frag} {F : Hp} : ∀ {x : List V} {d : List D}, RpDs K F x d → x.length = d.length
  | _, _, .nil => rfl
  | _, _, .cons _ r => by simp [RpDs.length r]
theorem RpDs.get {K : W.Frag} {F : Hp} : ∀ {xs : List V} {ds : List D} (i : Nat) {d : D}, RpDs K F xs ds → ds[i]? = some d → ∃ x, xs[i]? = some x ∧ RpD K F x d
  | _, _, _, _, .nil, e => by simp at e
  | _, _, 0, _, .cons r _, e => by simp at e; subst e; exact ⟨_, rfl, r⟩
  | _, _, i + 1, d, .cons _ t, e => by
    obtain ⟨u, h1, h2⟩ := RpDs.get (d := d) i t (by simpa using e)
    exact ⟨u, by simpa using h1, h2⟩
theorem RpDs.getV {K : W.Frag} {F : Hp} : ∀ {xs : List V} {ds : List D} (i : Nat) {x : V}, RpDs K F xs ds → xs[i]? = some x → ∃ d, ds[i]? = some d ∧ RpD K F x d
  | _, _, _, _, .nil, e => by simp at e
  | _, _, 0, _, .cons r _, e => by simp at e; subst e; exact ⟨_, rfl, r⟩
  | _, _, i + 1, d, .cons _ t, e => by
    obtain ⟨u, h1, h2⟩ := RpDs.getV (x := d) i t (by simpa using e)
    exact ⟨u, by simpa using h1, h2⟩
theorem RpDs.append {K : W.Frag} {F : Hp} : ∀ {xs ys : List V} {ds es : List D}, RpDs K F xs ds → RpDs K F ys es → RpDs K F (xs ++ ys) (ds ++ es)
  | _, _, _, _, .nil, r => r
  | _, _, _, _, .cons a b, r => .cons a (RpDs.append b r)
theorem RpDs.take {K : W.Frag} {F : Hp} : ∀ (n : Nat) {xs : List V} {ds : List D}, RpDs K F xs ds → RpDs K F (xs.take n) (ds.take n)
  | 0, _, _, _ => .nil
  | _ + 1, _, _, .nil => .nil
  | n + 1, _, _, .cons a b => .cons a (RpDs.take n b)
theorem RpDs.drop {K : W.Frag} {F : Hp} : ∀ (n : Nat) {xs : List V} {ds : List D}, RpDs K F xs ds → RpDs K F (xs.drop n) (ds.drop n)
  | 0, _, _, r => r
  | _ + 1, _, _, .nil => .nil
  | n + 1, _, _, .cons _ b => RpDs.drop n b

/-! ### what is frozen: f all, n what this def made (and what is never written) -/
structure FF where
  f : Hp
  n : Hp
instance : Coe FF Hp := ⟨FF.f⟩
instance : CoeFun FF fun _ => Hp := ⟨FF.f⟩
structure SubF (F F' : FF) : Prop where
  f : Sub F.f F'.f
  n : Sub F.n F'.n
theorem SubF.refl {F : FF} : SubF F F := ⟨Sub.refl, Sub.refl⟩
theorem SubF.trans {F F' F'' : FF} (a : SubF F F') (b : SubF F' F'') : SubF F F'' := ⟨a.f.trans b.f, a.n.trans b.n⟩
def FF.add (F : FF) (p : Addr) (o : HO) : FF := ⟨upd F.f p o, upd F.n p o⟩

/-! ### owned data -/
mutual
inductive RpT (K : W.Frag) (F : FF) (H : Hp) : V → T → List Addr → Prop
  | v {x : V} {d : D} (r : RpD K F.f x d) : RpT K F H x (.v d) []
  | w {x : V} {d : D} (r : RpD K F.n x d) : RpT K F H x (.w d) []
  | b {x : V} {d : D} (r : RpD K H x d) : RpT K F H x (.b d) []
  | l {a : Addr} {xs : List V} {ts : List T} {f : List Addr} (h : H a = some (.lst xs)) (r : RpTs K F H xs ts f) : RpT K F H (.ref a) (.l ts) (a :: f)
  | tp {a : Addr} {xs : List V} {ts : List T} {f : List Addr} (h : F.n a = some (.tup xs)) (r : RpTs K F H xs ts f) : RpT K F H (.ref a) (.tp ts) f
  | dc {a : Addr} {t : Bool} {u : HO} {ks : List D} {xs : List V} {ts : List T} {f : List Addr} (h : Rd H a u) (q : DH t u ks xs) (r : RpTs K F H xs ts f) : RpT K F H (.ref a) (.dc t ks ts) (a :: f)
  | ob {a dx : Addr} {fs : List (Str × V)} {c : String} {ns : List String} {xs : List V} {ts : List T} {f : List Addr} (hc : ObjC K c ns) (h : H a = some (.ins (clsA K c) dx fs)) (hn : fs.map Prod.fst = ns.map Str.ofString) (hx : fs.map Prod.snd = xs) (r : RpTs K F H xs ts f) :
      RpT K F H (.ref a) (.ob c ns ts) (a :: f)
inductive RpTs (K : W.Frag) (F : FF) (H : Hp) : List V → List T → List Addr → Prop
  | nil : RpTs K F H [] [] []
  | cons {x : V} {xs : List V} {t : T} {ts : List T} {f g : List Addr} (r : RpT K F H x t f) (rs : RpTs K F H xs ts g) : RpTs K F H (x :: xs) (t :: ts) (f ++ g)
end
mutual
/-- nothing borrowed: only the footprint is asked -/
theorem RpT.frame {K : W.Frag} {F F' : FF} {H H' : Hp} (hF : SubF F F') : ∀ {x : V} {t : T} {f : List Addr}, RpT K F H x t f → t.noB = true → (∀ a ∈ f, H' a = H a) → RpT K F' H' x t f
  | _, _, _, .v r, _, _ => .v (r.mono hF.f)
  | _, _, _, .w r, _, _ => .w (r.mono hF.n)
  | _, _, _, .b r, e, _ => by simp [T.noB] at e
  | _, _, _, .l h r, e, k => .l ((k _ (by simp)).trans h) (RpTs.frame hF r (by simpa [T.noB] using e) fun a ha => k a (by simp [ha]))
  | _, _, _, .tp h r, e, k => .tp (hF.n.eq h rfl) (RpTs.frame hF r (by simpa [T.noB] using e) k)
  | _, _, _, .dc (a := a) h q r, e, k => .dc (by unfold Rd at h ⊢; rw [k a (by simp)]; exact h) q (RpTs.frame hF r (by simpa [T.noB] using e) fun a ha => k a (by simp [ha]))
  | _, _, _, .ob c h n x r, e, k => .ob c ((k _ (by simp)).trans h) n x (RpTs.frame hF r (by simpa [T.noB] using e) fun a ha => k a (by simp [ha]))
theorem RpTs.frame {K : W.Frag} {F F' : FF} {H H' : Hp} (hF : SubF F F') : ∀ {x : List V} {t : List T} {f : List Addr}, RpTs K F H x t f → T.noBs t = true → (∀ a ∈ f, H' a = H a) → RpTs K F' H' x t f
  | _, _, _, .nil, _, _ => .nil
  | _, _, _, .cons a b, e, k => by
    simp [T.noBs] at e
    exact .cons (RpT.frame hF a e.1 fun y hy => k y (by simp [hy])) (RpTs.frame hF b e.2 fun y hy => k y (by simp [hy]))
end
mutual
/-- all stays -/
theorem RpT.grow {K : W.Frag} {F F' : FF} {H H' : Hp} (hF : SubF F F') (hH : Sub H H') : ∀ {x : V} {t : T} {f : List Addr}, RpT K F H x t f → RpT K F' H' x t f
  | _, _, _, .v r => .v (r.mono hF.f)
  | _, _, _, .w r => .w (r.mono hF.n)
  | _, _, _, .b r => .b (r.mono hH)
  | _, _, _, .l h r => .l (hH.eq h rfl) (RpTs.grow hF hH r)
  | _, _, _, .tp h r => .tp (hF.n.eq h rfl) (RpTs.grow hF hH r)
  | _, _, _, .dc h q r => .dc (hH.rd h) q (RpTs.grow hF hH r)
  | _, _, _, .ob c h n x r => .ob c (hH.eq h rfl) n x (RpTs.grow hF hH r)
theorem RpTs.grow {K : W.Frag} {F F' : FF} {H H' : Hp} (hF : SubF F F') (hH : Sub H H') : ∀ {x : List V} {t : List T} {f : List Addr}, RpTs K F H x t f → RpTs K F' H' x t f
  | _, _, _, .nil => .nil
  | _, _, _, .cons a b => .cons (RpT.grow hF hH a) (RpTs.grow hF hH b)
end
mutual
/-- as it may be read -/
theorem RpT.read {K : W.Frag} {F : FF} {H : Hp} (hF : Sub F.f H) (hN : Sub F.n F.f) : ∀ {x : V} {t : T} {f : List Addr}, RpT K F H x t f → RpD K H x t.er
  | _, _, _, .v r => r.mono hF
  | _, _, _, .w r => r.mono (hN.trans hF)
  | _, _, _, .b r => r
  | _, _, _, .l h r => .lst h (RpTs.read hF hN r)
  | _, _, _, .tp h r => .tup ((hN.trans hF).eq h rfl) (RpTs.read hF hN r)
  | _, _, _, .dc h q r => .dct h q (RpTs.read hF hN r)
  | _, _, _, .ob c h n x r => .obj c h n x (RpTs.read hF hN r)
theorem RpTs.read {K : W.Frag} {F : FF} {H : Hp} (hF : Sub F.f H) (hN : Sub F.n F.f) : ∀ {x : List V} {t : List T} {f : List Addr}, RpTs K F H x t f → RpDs K H x (T.ers t)
  | _, _, _, .nil => .nil
  | _, _, _, .cons a b => .cons (RpT.read hF hN a) (RpTs.read hF hN b)
end
/-- F with what stands at fp -/
def addH (F H : Hp) (f : List Addr) : Hp := fun a => if a ∈ f then H a else F a
theorem addH_sub {F H : Hp} {f : List Addr} (h : Sub F H) : Sub F (addH F H f) := fun a o e => by
  unfold addH; split
  · exact h a o e
  · exact .inl e
theorem addH_in {F H : Hp} {f : List Addr} (h : Sub F H) : Sub (addH F H f) H := fun a o e => by
  unfold addH at e; split at e
  · exact .inl e
  · exact h a o e
theorem addH_more {F H : Hp} {f g : List Addr} (h : Sub F H) (k : ∀ a ∈ f, a ∈ g) : Sub (addH F H f) (addH F H g) := fun a o e => by
  unfold addH at e ⊢; split at e
  · rename_i hm; rw [if_pos (k a hm)]; exact .inl e
  · split
    · exact h a o e
    · exact .inl e
theorem addH_mono {F F' H : Hp} {f : List Addr} (h : Sub F F') : Sub (addH F H f) (addH F' H f) := fun a o e => by
  unfold addH at e ⊢; split at e
  · rename_i hm; rw [if_pos hm]; exact .inl e
  · rename_i hm; rw [if_neg hm]; exact h a o e
def FF.addF (F : FF) (H : Hp) (f : List Addr) : FF := ⟨addH F.f H f, addH F.n H f⟩
theorem addF_sub {F : FF} {H : Hp} {f : List Addr} (hF : Sub F.f H) (hN : Sub F.n F.f) : SubF F (F.addF H f) := ⟨addH_sub hF, addH_sub (hN.trans hF)⟩
theorem addF_more {F : FF} {H : Hp} {f g : List Addr} (hF : Sub F.f H) (hN : Sub F.n F.f) (k : ∀ a ∈ f, a ∈ g) : SubF (F.addF H f) (F.addF H g) := ⟨addH_more hF k, addH_more (hN.trans hF) k⟩
mutual
/-- frozen -/
theorem RpT.freeze {K : W.Frag} {F : FF} {H : Hp} (hF : Sub F.f H) (hN : Sub F.n F.f) : ∀ {x : V} {t : T} {f : List Addr}, RpT K F H x t f → t.noB = true → RpD K (addH F.f H f) x t.er
  | _, _, _, .v r, _ => r.mono (addH_sub hF)
  | _, _, _, .w r, _ => r.mono (hN.trans (addH_sub hF))
  | _, _, _, .b r, e => by simp [T.noB] at e
  | _, _, _, .l h r, e => .lst (by unfold addH; rw [if_pos (by simp)]; exact h) ((RpTs.freeze hF hN r (by simpa [T.noB] using e)).mono (addH_more hF fun a ha => by simp [ha]))
  | _, _, _, .tp h r, e => .tup ((addH_sub hF).eq (hN.eq h rfl) rfl) (RpTs.freeze hF hN r (by simpa [T.noB] using e))
  | _, _, _, .dc (a := a) (f := f) h q r, e => .dct (by unfold Rd at h ⊢; unfold addH; rw [if_pos (by simp)]; exact h) q ((RpTs.freeze hF hN r (by simpa [T.noB] using e)).mono (addH_more hF fun a ha => by simp [ha]))
  | _, _, _, .ob c h n x r, e => .obj c (by unfold addH; rw [if_pos (by simp)]; exact h) n x ((RpTs.freeze hF hN r (by simpa [T.noB] using e)).mono (addH_more hF fun a ha => by simp [ha]))
theorem RpTs.freeze {K : W.Frag} {F : FF} {H : Hp} (hF : Sub F.f H) (hN : Sub F.n F.f) : ∀ {x : List V} {t : List T} {f : List Addr}, RpTs K F H x t f → T.noBs t = true → RpDs K (addH F.f H f) x (T.ers t)
  | _, _, _, .nil, _ => .nil
  | _, _, _, .cons a b, e => by
    simp [T.noBs] at e
    exact .cons ((RpT.freeze hF hN a e.1).mono (addH_more hF fun y hy => by simp [hy])) ((RpTs.freeze hF hN b e.2).mono (addH_more hF fun y hy => by simp [hy]))
end
mutual
/-- frozen, and new -/
theorem RpT.freezeN {K : W.Frag} {F : FF} {H : Hp} (hF : Sub F.n H) (hS : Stb F.f F.n) : ∀ {x : V} {t : T} {f : List Addr}, RpT K F H x t f → t.cl = true → RpD K (addH F.n H f) x t.er
  | _, _, _, .v r, e => (r.imm hS (by simpa [T.cl] using e)).mono (addH_sub hF)
  | _, _, _, .w r, _ => r.mono (addH_sub hF)
  | _, _, _, .b r, e => by simp [T.cl] at e
  | _, _, _, .l h r, e => .lst (by unfold addH; rw [if_pos (by simp)]; exact h) ((RpTs.freezeN hF hS r (by simpa [T.cl] using e)).mono (addH_more hF fun a ha => by simp [ha]))
  | _, _, _, .tp h r, e => .tup ((addH_sub hF).eq h rfl) (RpTs.freezeN hF hS r (by simpa [T.cl] using e))
  | _, _, _, .dc (a := a) (f := f) h q r, e => .dct (by unfold Rd at h ⊢; unfold addH; rw [if_pos (by simp)]; exact h) q ((RpTs.freezeN hF hS r (by simpa [T.cl] using e)).mono (addH_more hF fun a ha => by simp [ha]))
  | _, _, _, .ob c h n x r, e => .obj c (by unfold addH; rw [if_pos (by simp)]; exact h) n x ((RpTs.freezeN hF hS r (by simpa [T.cl] using e)).mono (addH_more hF fun a ha => by simp [ha]))
theorem RpTs.freezeN {K : W.Frag} {F : FF} {H : Hp} (hF : Sub F.n H) (hS : Stb F.f F.n) : ∀ {x : List V} {t : List T} {f : List Addr}, RpTs K F H x t f → T.cls t = true → RpDs K (addH F.n H f) x (T.ers t)
  | _, _, _, .nil, _ => .nil
  | _, _, _, .cons a b, e => by
    simp [T.cls] at e
    exact .cons ((RpT.freezeN hF hS a e.1).mono (addH_more hF fun y hy => by simp [hy])) ((RpTs.freezeN hF hS b e.2).mono (addH_more hF fun y hy => by simp [hy]))
end
mutual
/-- a closed thing, seen from another def -/
theorem RpT.move {K : W.Frag} {F F' : FF} {H : Hp} (hf : Stb F.f F'.f) (hn : ∀ a o, F.n a = some o → F'.n a = some o) : ∀ {x : V} {t : T} {f : List Addr}, RpT K F H x t f → t.cl = true → RpT K F' H x t f
  | _, _, _, .v r, e => .v (r.imm hf (by simpa [T.cl] using e))
  | _, _, _, .w r, _ => .w (r.mono (Sub.of hn))
  | _, _, _, .b r, e => by simp [T.cl] at e
  | _, _, _, .l h r, e => .l h (RpTs.move hf hn r (by simpa [T.cl] using e))
  | _, _, _, .tp h r, e => .tp (hn _ _ h) (RpTs.move hf hn r (by simpa [T.cl] using e))
  | _, _, _, .dc h q r, e => .dc h q (RpTs.move hf hn r (by simpa [T.cl] using e))
  | _, _, _, .ob c h n x r, e => .ob c h n x (RpTs.move hf hn r (by simpa [T.cl] using e))
theorem RpTs.move {K : W.Frag} {F F' : FF} {H : Hp} (hf : Stb F.f F'.f) (hn : ∀ a o, F.n a = some o → F'.n a = some o) : ∀ {x : List V} {t : List T} {f : List Addr}, RpTs K F H x t f → T.cls t = true → RpTs K F' H x t f
  | _, _, _, .nil, _ => .nil
  | _, _, _, .cons a b, e => by
    simp [T.cls] at e
    exact .cons (RpT.move hf hn a e.1) (RpTs.move hf hn b e.2)
end
end Tv

namespace Tv
open PySem PySem.Spec PyProof.Rows L2

/-! ### the slots -/
abbrev Env := List (Option T)
inductive RpE (K : W.Frag) (F : FF) (H : Hp) : L2.St → Env → List Addr → Prop
  | nil : RpE K F H [] [] []
  | emp {o : Option V} {σ : L2.St} {Γ : Env} {f : List Addr} (r : RpE K F H σ Γ f) : RpE K F H (o :: σ) (none :: Γ) f
  | fil {x : V} {t : T} {σ : L2.St} {Γ : Env} {f g : List Addr} (h : RpT K F H x t f) (n : t.noB = true) (r : RpE K F H σ Γ g) : RpE K F H (some x :: σ) (some t :: Γ) (f ++ g)
section
variable {K : W.Frag} {F F' : FF} {H H' : Hp} {σ : L2.St} {Γ : Env} {f : List Addr}
theorem RpE.length (r : RpE K F H σ Γ f) : σ.length = Γ.length := by
  induction r with
  | nil => rfl
  | emp _ ih => simp [ih]
  | fil _ _ _ ih => simp [ih]
theorem RpE.frame (hF : SubF F F') (r : RpE K F H σ Γ f) (k : ∀ a ∈ f, H' a = H a) : RpE K F' H' σ Γ f := by
  induction r with
  | nil => exact .nil
  | emp _ ih => exact .emp (ih k)
  | fil h n _ ih => exact .fil (h.frame hF n fun a ha => k a (by simp [ha])) n (ih fun a ha => k a (by simp [ha]))
theorem RpE.grow (hF : SubF F F') (hH : Sub H H') (r : RpE K F H σ Γ f) : RpE K F' H' σ Γ f := by
  induction r with
  | nil => exact .nil
  | emp _ ih => exact .emp ih
  | fil h n _ ih => exact .fil (h.grow hF hH) n ih
/-- a slot taken out -/
theorem RpE.out (r : RpE K F H σ Γ f) : ∀ {i : Nat} {t : T}, Γ[i]? = some (some t) →
    ∃ x f1 g, σ[i]? = some (some x) ∧ RpT K F H x t f1 ∧ t.noB = true ∧ RpE K F H σ (Γ.set i none) g ∧ ∀ a, f.count a = f1.count a + g.count a := by
  induction r with
  | nil => intro i t e; simp at e
  | @emp o σ Γ f r ih =>
    intro i t e
    cases i with
    | zero => simp at e
    | succ i =>
      obtain ⟨x, f1, g, h1, h2, h3, h4, h5⟩ := ih (i := i) (t := t) (by simpa using e)
      exact ⟨x, f1, g, by simpa using h1, h2, h3, .emp h4, h5⟩
  | @fil x t' σ Γ f g h n r ih =>
    intro i t e
    cases i with
    | zero =>
      simp at e; subst e
      exact ⟨x, f, g, rfl, h, n, .emp r, fun a => by rw [List.count_append]⟩
    | succ i =>
      obtain ⟨y, f1, g', h1, h2, h3, h4, h5⟩ := ih (i := i) (t := t) (by simpa using e)
      exact ⟨y, f1, f ++ g', by simpa using h1, h2, h3, .fil h n h4, fun a => by rw [List.count_append, List.count_append, h5]; omega⟩
/-- a slot forgotten (and its value any) -/
theorem RpE.drop (r : RpE K F H σ Γ f) : ∀ (i : Nat) (o : Option V), ∃ g, RpE K F H (σ.set i o) (Γ.set i none) g ∧ ∀ a, g.count a ≤ f.count a := by
  induction r with
  | nil => intro i o; exact ⟨[], .nil, fun a => Nat.le_refl _⟩
  | @emp o' σ Γ f r ih =>
    intro i o
    cases i with
    | zero => exact ⟨f, .emp r, fun a => Nat.le_refl _⟩
    | succ i => obtain ⟨g, h1, h2⟩ := ih i o; exact ⟨g, .emp h1, h2⟩
  | @fil x t' σ Γ f g h n r ih =>
    intro i o
    cases i with
    | zero => exact ⟨g, .emp r, fun a => by rw [List.count_append]; omega⟩
    | succ i => obtain ⟨g', h1, h2⟩ := ih i o; exact ⟨f ++ g', .fil h n h1, fun a => by rw [List.count_append, List.count_append]; have := h2 a; omega⟩
/-- a slot forgotten, its value as it is -/
theorem RpE.drop0 (r : RpE K F H σ Γ f) : ∀ (i : Nat), ∃ g, RpE K F H σ (Γ.set i none) g ∧ ∀ a, g.count a ≤ f.count a := by
  induction r with
  | nil => intro i; exact ⟨[], .nil, fun a => Nat.le_refl _⟩
  | @emp o' σ Γ f r ih =>
    intro i
    cases i with
    | zero => exact ⟨f, .emp r, fun a => Nat.le_refl _⟩
    | succ i => obtain ⟨g, h1, h2⟩ := ih i; exact ⟨g, .emp h1, h2⟩
  | @fil x t' σ Γ f g h n r ih =>
    intro i
    cases i with
    | zero => exact ⟨g, .emp r, fun a => by rw [List.count_append]; omega⟩
    | succ i => obtain ⟨g', h1, h2⟩ := ih i; exact ⟨f ++ g', .fil h n h1, fun a => by rw [List.count_append, List.count_append]; have := h2 a; omega⟩
/-- a slot filled -/
theorem RpE.put (r : RpE K F H σ Γ f) {x : V} {t : T} {f1 : List Addr} (h : RpT K F H x t f1) (n : t.noB = true) :
    ∀ {i : Nat}, i < Γ.length → ∃ g, RpE K F H (σ.set i (some x)) (Γ.set i (some t)) g ∧ ∀ a, g.count a ≤ f1.count a + f.count a := by
  induction r with
  | nil => intro i hi; simp at hi
  | @emp o' σ Γ f r ih =>
    intro i hi
    cases i with
    | zero => exact ⟨f1 ++ f, .fil h n r, fun a => by rw [List.count_append]; omega⟩
    | succ i => obtain ⟨g, h1, h2⟩ := ih (i := i) (by simpa using hi); exact ⟨g, .emp h1, h2⟩
  | @fil y t' σ Γ f g h' n' r ih =>
    intro i hi
    cases i with
    | zero => exact ⟨f1 ++ g, .fil h n r, fun a => by rw [List.count_append, List.count_append]; omega⟩
    | succ i => obtain ⟨g', h1, h2⟩ := ih (i := i) (by simpa using hi); exact ⟨f ++ g', .fil h' n' h1, fun a => by rw [List.count_append, List.count_append]; have := h2 a; omega⟩
end

/-! ### the state -/
structure Base where
  H0 : Hp
  F0 : Hp
/-- what stood ahead is frozen as it was, but for locks -/
def nwF (F F0 : Hp) (a : Addr) : Prop := F a = F0 a ∨ ∃ ob o, F0 a = some o ∧ isDic o = true ∧ F a = some (.frz ob o)
theorem nwF.stab {F F0 : Hp} {a : Addr} {o : HO} (h : nwF F F0 a) (e : F a = some o) (s : stab o = true) : F0 a = some o := by
  rcases h with h | ⟨ob, u, h1, h2, h3⟩
  · rw [← h]; exact e
  · rw [e] at h3; cases h3
    cases u <;> first | (cases h2; done) | cases s
theorem nwF.of {F F' F0 : Hp} {a : Addr} (h : nwF F F0 a) (e : F' a = F a) : nwF F' F0 a := by unfold nwF at h ⊢; rw [e]; exact h
structure Rel (K : W.Frag) (B : Base) (F : FF) (H : Hp) (σ : L2.St) (Γ : Env) (tmp : List Addr) : Prop where
  env : ∃ f, RpE K F H σ Γ f ∧ (∀ a, f.count a + tmp.count a ≤ 1) ∧ ∀ a, a ∈ f ∨ a ∈ tmp → F.f a = none ∧ B.H0 a = none ∧ H a ≠ none
  sub : Sub F.f H
  subn : ∀ a o, F.n a = some o → F.f a = some o
  stf : Stb H F.f
  stn : Stb F.f F.n
  keep : Sub B.H0 H
  keepF : Sub B.F0 F.f
  newF : ∀ a, B.H0 a ≠ none → nwF F.f B.F0 a
  newN : ∀ a o, B.H0 a ≠ none → F.n a = some o → stab o = true
theorem mem_of_count {a : Addr} {f g : List Addr} (h : f.count a ≤ g.count a) (m : a ∈ f) : a ∈ g := by
  have := List.count_pos_iff.mpr m
  exact List.count_pos_iff.mp (by omega)
section
variable {K : W.Frag} {B : Base} {F : FF} {H : Hp} {σ : L2.St} {Γ : Env} {tmp tmp' : List Addr}
theorem Rel.length (r : Rel K B F H σ Γ tmp) : σ.length = Γ.length := by
  obtain ⟨f, h, _⟩ := r.env; exact h.length
theorem Rel.nsub (r : Rel K B F H σ Γ tmp) : Sub F.n F.f := Sub.of r.subn
theorem Rel.rd (r : Rel K B F H σ Γ tmp) {x : V} {t : T} {f : List Addr} (h : RpT K F H x t f) : RpD K H x t.er := h.read r.sub r.nsub
theorem Rel.rds (r : Rel K B F H σ Γ tmp) {x : List V} {t : List T} {f : List Addr} (h : RpTs K F H x t f) : RpDs K H x (T.ers t) := h.read r.sub r.nsub
/-- what is never written is frozen -/
theorem Rel.im (r : Rel K B F H σ Γ tmp) {x : V} {d : D} (h : RpD K H x d) (i : d.imm = true) : RpD K F.f x d := h.imm r.stf i
theorem Rel.imn (r : Rel K B F H σ Γ tmp) {x : V} {d : D} (h : RpD K H x d) (i : d.imm = true) : RpD K F.n x d := (h.imm r.stf i).imm r.stn i
/-- fewer footprints in hand -/
theorem Rel.less (r : Rel K B F H σ Γ tmp) (h : ∀ a, tmp'.count a ≤ tmp.count a) : Rel K B F H σ Γ tmp' := by
  obtain ⟨f, h1, h2, h3⟩ := r.env
  exact { r with env := ⟨f, h1, fun a => by have := h a; have := h2 a; omega, fun a ha => h3 a (ha.elim .inl fun m => .inr (mem_of_count (h a) m))⟩ }
theorem Rel.nil (r : Rel K B F H σ Γ tmp) : Rel K B F H σ Γ [] := r.less fun c => by simp
theorem Rel.cnt (r : Rel K B F H σ Γ tmp) (a : Addr) : tmp.count a ≤ 1 := by
  obtain ⟨f, h1, h2, h3⟩ := r.env
  have := h2 a; omega
theorem Rel.get (r : Rel K B F H σ Γ tmp) {i : Nat} {t : T} (e : Γ[i]? = some (some t)) :
    ∃ x f, σ[i]? = some (some x) ∧ RpT K F H x t f ∧ t.noB = true := by
  obtain ⟨f, h1, h2, h3⟩ := r.env
  obtain ⟨x, f1, g, a1, a2, a3, a4, a5⟩ := h1.out e
  exact ⟨x, f1, a1, a2, a3⟩
theorem Rel.fNone (r : Rel K B F H σ Γ tmp) {p : Addr} (hp : H p = none) : F.f p = none := r.sub.none hp
theorem Rel.h0None (r : Rel K B F H σ Γ tmp) {p : Addr} (hp : H p = none) : B.H0 p = none := r.keep.none hp
theorem Rel.nNone (r : Rel K B F H σ Γ tmp) {p : Addr} (hp : F.f p = none) : F.n p = none := by
  cases q : F.n p with
  | none => rfl
  | some o => have := r.subn p o q; rw [hp] at this; cases this
/-- a new thing in hand -/
theorem Rel.alloc (r : Rel K B F H σ Γ tmp) {p : Addr} {o : HO} (hp : H p = none) (ho : stab o = false) : Rel K B F (upd H p o) σ Γ (p :: tmp) := by
  obtain ⟨f, h1, h2, h3⟩ := r.env
  have ne : ∀ a, a ∈ f ∨ a ∈ tmp → a ≠ p := fun a ha e => (h3 a ha).2.2 (e ▸ hp)
  have nf : p ∉ f := fun m => ne p (.inl m) rfl
  have nt : p ∉ tmp := fun m => ne p (.inr m) rfl
  have hF : F.f p = none := r.fNone hp
  have h0 : B.H0 p = none := r.h0None hp
  refine { r with env := ⟨f, h1.frame SubF.refl fun a ha => upd_ne (ne a (.inl ha)), fun a => ?_, fun a ha => ?_⟩, sub := r.sub.trans (upd_sub hp), stf := fun a u e s => ?_, keep := r.keep.trans (upd_sub hp) }
  · by_cases e : a = p
    · subst e
      rw [List.count_cons_self, List.count_eq_zero.mpr nf, List.count_eq_zero.mpr nt]
      exact Nat.le_refl _
    · rw [List.count_cons_of_ne (Ne.symm e)]; exact h2 a
  · by_cases e : a = p
    · subst e; exact ⟨hF, h0, by rw [upd_same]; simp⟩
    · have m : a ∈ f ∨ a ∈ tmp := by
        rcases ha with m | m
        · exact .inl m
        · exact .inr ((List.mem_cons.mp m).resolve_left e)
      rw [upd_ne e]
      exact h3 a m
  · by_cases e' : a = p
    · subst e'; rw [upd_same] at e; cases e; rw [ho] at s; cases s
    · rw [upd_ne e'] at e; exact r.stf a u e s
/-- a new thing that is never written -/
theorem Rel.allocS (r : Rel K B F H σ Γ tmp) {p : Addr} {o : HO} (hp : H p = none) (ho : stab o = true) : Rel K B (F.add p o) (upd H p o) σ Γ tmp ∧ SubF F (F.add p o) := by
  obtain ⟨f, h1, h2, h3⟩ := r.env
  have ne : ∀ a, a ∈ f ∨ a ∈ tmp → a ≠ p := fun a ha e => (h3 a ha).2.2 (e ▸ hp)
  have hF : F.f p = none := r.fNone hp
  have hN : F.n p = none := r.nNone hF
  have h0 : B.H0 p = none := r.h0None hp
  have sF : SubF F (F.add p o) := ⟨upd_sub hF, upd_sub hN⟩
  refine ⟨⟨⟨f, h1.frame sF fun a ha => upd_ne (ne a (.inl ha)), h2, fun a ha => ?_⟩, fun a u e => ?_, fun a u e => ?_, fun a u e s => ?_, fun a u e s => ?_, r.keep.trans (upd_sub hp), r.keepF.trans sF.f, fun a ha => ?_, fun a u ha e => ?_⟩, sF⟩
  · show upd F.f p o a = none ∧ _
    rw [upd_ne (ne a ha), upd_ne (ne a ha)]; exact h3 a ha
  · by_cases e' : a = p
    · subst e'; exact .inl (by rw [upd_same]; exact (by rw [← e]; exact upd_same.symm))
    · have e : F.f a = some u := by rw [← e]; exact (upd_ne e').symm
      rw [upd_ne e']; exact r.sub a u e
  · by_cases e' : a = p
    · subst e'
      have e : upd F.n a o a = some u := e
      show upd F.f a o a = _
      rw [upd_same] at e ⊢; exact e
    · have e : F.n a = some u := by rw [← e]; exact (upd_ne e').symm
      show upd F.f p o a = _
      rw [upd_ne e']; exact r.subn a u e
  · show upd F.f p o a = _
    by_cases e' : a = p
    · subst e'; rw [upd_same] at e ⊢; exact e
    · rw [upd_ne e'] at e ⊢; exact r.stf a u e s
  · have e : upd F.f p o a = some u := e
    show upd F.n p o a = _
    by_cases e' : a = p
    · subst e'; rw [upd_same] at e ⊢; exact e
    · rw [upd_ne e'] at e ⊢; exact r.stn a u e s
  · exact (r.newF a ha).of (show upd F.f p o a = _ from upd_ne (fun e => ha (by rw [e]; exact h0)))
  · have e : upd F.n p o a = some u := e
    rw [upd_ne (fun e => ha (by rw [e]; exact h0))] at e; exact r.newN a u ha e
/-- what is in hand is frozen -/
theorem Rel.freezeTmp {f1 g : List Addr} (r : Rel K B F H σ Γ tmp) (hc : ∀ a, f1.count a + g.count a ≤ tmp.count a) :
    Rel K B (F.addF H f1) H σ Γ g := by
  obtain ⟨f, h1, h2, h3⟩ := r.env
  have inT : ∀ a, a ∈ f1 → a ∈ tmp := fun a m => mem_of_count (f := f1) (by have := hc a; omega) m
  have dis : ∀ a, a ∈ f ∨ a ∈ g → a ∉ f1 := fun a ha m => by
    have e1 := List.count_pos_iff.mpr m
    have e2 := hc a
    have e3 := h2 a
    rcases ha with m' | m'
    · have := List.count_pos_iff.mpr m'; omega
    · have := List.count_pos_iff.mpr m'; omega
  have sF := addF_sub (f := f1) r.sub r.nsub
  refine ⟨⟨f, h1.frame sF fun _ _ => rfl, fun a => by have := hc a; have := h2 a; omega, fun a ha => ?_⟩, addH_in r.sub, fun a o e => ?_, fun a o e s => ?_, fun a o e s => ?_, r.keep, r.keepF.trans sF.f, fun a ha => ?_, fun a o ha e => ?_⟩
  · have q := h3 a (ha.elim .inl fun m => .inr (mem_of_count (f := g) (by have := hc a; omega) m))
    refine ⟨?_, q.2⟩
    show addH F.f H f1 a = none
    unfold addH; rw [if_neg (dis a ha)]; exact q.1
  · have e : addH F.n H f1 a = some o := e
    show addH F.f H f1 a = some o
    unfold addH at e ⊢
    split at e
    · rename_i m; rw [if_pos m]; exact e
    · rename_i m; rw [if_neg m]; exact r.subn a o e
  · show addH F.f H f1 a = some o
    unfold addH
    split
    · exact e
    · exact r.stf a o e s
  · have e : addH F.f H f1 a = some o := e
    show addH F.n H f1 a = some o
    unfold addH at e ⊢
    split at e
    · rename_i m; rw [if_pos m]; exact e
    · rename_i m; rw [if_neg m]; exact r.stn a o e s
  · refine (r.newF a ha).of ?_
    show addH F.f H f1 a = _
    unfold addH
    rw [if_neg fun m => ha (h3 a (.inr (inT a m))).2.1]
  · have e : addH F.n H f1 a = some o := e
    unfold addH at e
    rw [if_neg fun m => ha (h3 a (.inr (inT a m))).2.1] at e
    exact r.newN a o ha e
/-- a slot's thing taken in hand -/
theorem Rel.take (r : Rel K B F H σ Γ tmp) {i : Nat} {t : T} (e : Γ[i]? = some (some t)) :
    ∃ x f, σ[i]? = some (some x) ∧ RpT K F H x t f ∧ t.noB = true ∧ Rel K B F H σ (Γ.set i none) (f ++ tmp) := by
  obtain ⟨f, h1, h2, h3⟩ := r.env
  obtain ⟨x, f1, g, a1, a2, a3, a4, a5⟩ := h1.out e
  refine ⟨x, f1, a1, a2, a3, { r with env := ⟨g, a4, fun a => ?_, fun a ha => h3 a ?_⟩ }⟩
  · rw [List.count_append]; have := h2 a; have := a5 a; omega
  · rcases ha with m | m
    · exact .inl (mem_of_count (f := g) (by have := a5 a; omega) m)
    · rcases List.mem_append.mp m with m | m
      · exact .inl (mem_of_count (f := f1) (by have := a5 a; omega) m)
      · exact .inr m
/-- the thing in hand goes into a slot -/
theorem Rel.store {f1 : List Addr} {x : V} {t : T} (r : Rel K B F H σ Γ (f1 ++ tmp)) (h : RpT K F H x t f1) (n : t.noB = true) {i : Nat} (hi : i < Γ.length) :
    Rel K B F H (σ.set i (some x)) (Γ.set i (some t)) tmp := by
  obtain ⟨f, h1, h2, h3⟩ := r.env
  obtain ⟨g, a1, a2⟩ := h1.put h n hi
  refine { r with env := ⟨g, a1, fun a => ?_, fun a ha => h3 a ?_⟩ }
  · have q := h2 a; rw [List.count_append] at q; have := a2 a; omega
  · rcases ha with m | m
    · have := List.count_pos_iff.mpr m
      have := a2 a
      by_cases z : 0 < f.count a
      · exact .inl (List.count_pos_iff.mp z)
      · exact .inr (List.mem_append_left _ (List.count_pos_iff.mp (by omega)))
    · exact .inr (List.mem_append_right _ m)
theorem fix_σ {σ : L2.St} {x : V} {i : Nat} (hx : σ[i]? = some (some x)) : σ.set i (some x) = σ := by
  have hi : i < σ.length := (List.getElem?_eq_some_iff.mp hx).1
  apply List.ext_getElem?
  intro j
  by_cases hj : i = j
  · subst hj; rw [List.getElem?_set_self hi, hx]
  · rw [List.getElem?_set_ne hj]
theorem Rel.putBack {f1 : List Addr} {x : V} {t : T} (r : Rel K B F H σ Γ (f1 ++ tmp)) (h : RpT K F H x t f1) (n : t.noB = true) {i : Nat} (hx : σ[i]? = some (some x)) :
    Rel K B F H σ (Γ.set i (some t)) tmp := by
  have hi : i < σ.length := (List.getElem?_eq_some_iff.mp hx).1
  have := r.store h n (i := i) (by rw [← r.length]; exact hi)
  rw [fix_σ hx] at this
  exact this
theorem Rel.forget (r : Rel K B F H σ Γ tmp) (i : Nat) (o : Option V) : Rel K B F H (σ.set i o) (Γ.set i none) tmp := by
  obtain ⟨f, h1, h2, h3⟩ := r.env
  obtain ⟨g, a1, a2⟩ := h1.drop i o
  exact { r with env := ⟨g, a1, fun a => by have := h2 a; have := a2 a; omega, fun a ha => h3 a (ha.elim (fun m => .inl (mem_of_count (a2 a) m)) .inr)⟩ }
theorem Rel.kill (r : Rel K B F H σ Γ tmp) (i : Nat) : Rel K B F H σ (Γ.set i none) tmp := by
  obtain ⟨f, h1, h2, h3⟩ := r.env
  obtain ⟨g, a1, a2⟩ := h1.drop0 i
  exact { r with env := ⟨g, a1, fun a => by have := h2 a; have := a2 a; omega, fun a ha => h3 a (ha.elim (fun m => .inl (mem_of_count (a2 a) m)) .inr)⟩ }
/-- a thing in hand is written -/
theorem Rel.mut (r : Rel K B F H σ Γ tmp) {a : Addr} {o : HO} (m : a ∈ tmp) (ho : stab o = false) : Rel K B F (upd H a o) σ Γ tmp := by
  obtain ⟨f, h1, h2, h3⟩ := r.env
  have hm := h3 a (.inr m)
  have nf : a ∉ f := fun q => by
    have e1 := List.count_pos_iff.mpr q
    have e2 := List.count_pos_iff.mpr m
    have := h2 a; omega
  have ok : ∀ {G : Hp}, Sub G H → G a = none → Sub G (upd H a o) := fun {G} s n b u e => by
    rw [upd_ne fun q => by subst q; rw [n] at e; cases e]; exact s b u e
  refine { r with env := ⟨f, h1.frame SubF.refl fun b hb => upd_ne fun e => nf (e ▸ hb), h2, fun b hb => ?_⟩, sub := ok r.sub hm.1, stf := fun b u e s => ?_, keep := ok r.keep hm.2.1 }
  · obtain ⟨q1, q2, q3⟩ := h3 b hb
    refine ⟨q1, q2, ?_⟩
    by_cases e : b = a
    · subst e; rw [upd_same]; simp
    · rw [upd_ne e]; exact q3
  · by_cases e' : b = a
    · subst e'; rw [upd_same] at e; cases e; rw [ho] at s; cases s
    · rw [upd_ne e'] at e; exact r.stf b u e s
/-- the heap has grown, nothing else -/
theorem Rel.later {F' : FF} {H' : Hp} (r : Rel K B F H σ Γ tmp) (hH : Sub H H') (hs : Sub F.f H') (st : Stb H' F.f) : Rel K B F H' σ Γ tmp := by
  obtain ⟨f, h1, h2, h3⟩ := r.env
  exact { r with env := ⟨f, h1.grow SubF.refl hH, h2, fun a ha => ⟨(h3 a ha).1, (h3 a ha).2.1, hH.ne (h3 a ha).2.2⟩⟩, sub := hs, stf := st, keep := r.keep.trans hH }
/-- a frozen dict is locked -/
theorem Rel.lock (r : Rel K B F H σ Γ tmp) {d : Addr} {u : HO} (hu : isDic u = true) (hF : Rd F.f d u) (od : Obj) (ho : H d = some (.frz od u) ∨ H d = some u) :
    ∃ F', SubF F F' ∧ F'.f d = some (.frz od u) ∧ Rel K B F' (upd H d (.frz od u)) σ Γ tmp ∧ Sub H (upd H d (.frz od u)) := by
  obtain ⟨f, h1, h2, h3⟩ := r.env
  have hf : F.f d = some u ∨ F.f d = some (.frz od u) := by
    rcases hF with hF | ⟨o', hF⟩
    · exact .inl hF
    · right
      have := r.sub.eq hF rfl
      rcases ho with ho | ho
      · rw [ho] at this; cases this; exact hF
      · rw [ho] at this; cases this
  have ne : F.f d ≠ none := by rcases hf with e | e <;> rw [e] <;> simp
  have nf : ∀ a, a ∈ f ∨ a ∈ tmp → a ≠ d := fun a ha e => ne (e ▸ (h3 a ha).1)
  have nst : stab (.frz od u) = false := by cases u <;> first | (cases hu; done) | rfl
  have nsu : stab u = false := by cases u <;> first | (cases hu; done) | rfl
  have sH : Sub H (upd H d (.frz od u)) := fun a o e => by
    by_cases q : a = d
    · subst q
      rw [upd_same]
      rcases ho with ho | ho
      · rw [ho] at e; exact .inl e
      · rw [ho] at e; cases e; exact .inr ⟨hu, od, rfl⟩
    · rw [upd_ne q]; exact .inl e
  have sf : Sub F.f (upd F.f d (.frz od u)) := fun a o e => by
    by_cases q : a = d
    · subst q
      rw [upd_same]
      rcases hf with hf | hf
      · rw [hf] at e; cases e; exact .inr ⟨hu, od, rfl⟩
      · rw [hf] at e; exact .inl e
    · rw [upd_ne q]; exact .inl e
  obtain ⟨nn, nn1, nn2, nn3⟩ : ∃ nn : Hp, (∀ a, a ≠ d → nn a = F.n a) ∧ (F.n d = none → nn d = none) ∧ (F.n d ≠ none → nn d = some (.frz od u)) :=
    ⟨fun a => if a = d then (if F.n d = none then none else some (.frz od u)) else F.n a, fun a q => if_neg q, fun z => by simp [z], fun z => by simp [z]⟩
  have sn : Sub F.n nn := fun a o e => by
    by_cases q : a = d
    · subst q
      rw [nn3 (by rw [e]; simp)]
      have := r.subn _ o e
      rcases hf with hf | hf
      · rw [hf] at this; cases this; exact .inr ⟨hu, od, rfl⟩
      · rw [hf] at this; exact .inl this
    · rw [nn1 a q]; exact .inl e
  refine ⟨⟨upd F.f d (.frz od u), nn⟩, ⟨sf, sn⟩, upd_same, ?_, sH⟩
  refine ⟨⟨f, h1.frame ⟨sf, sn⟩ fun a ha => upd_ne (nf a (.inl ha)), h2, fun a ha => ?_⟩, fun a o e => ?_, fun a o e => ?_, fun a o e s => ?_, fun a o e s => ?_, r.keep.trans sH, r.keepF.trans sf, fun a ha => ?_, fun a o ha e => ?_⟩
  · obtain ⟨q1, q2, q3⟩ := h3 a ha
    refine ⟨?_, q2, ?_⟩
    · show upd F.f d _ a = none
      rw [upd_ne (nf a ha)]; exact q1
    · rw [upd_ne (nf a ha)]; exact q3
  · have e : upd F.f d (.frz od u) a = some o := e
    by_cases q : a = d
    · subst q; rw [upd_same] at e ⊢; exact .inl e
    · rw [upd_ne q] at e ⊢; exact r.sub a o e
  · replace e : nn a = some o := e
    show upd F.f d (.frz od u) a = some o
    by_cases q : a = d
    · subst q
      rw [upd_same]
      by_cases z : F.n a = none
      · rw [nn2 z] at e; cases e
      · rw [nn3 z] at e; exact e
    · rw [nn1 a q] at e; rw [upd_ne q]; exact r.subn a o e
  · show upd F.f d (.frz od u) a = some o
    by_cases q : a = d
    · subst q; rw [upd_same] at e ⊢; exact e
    · rw [upd_ne q] at e ⊢; exact r.stf a o e s
  · have e : upd F.f d (.frz od u) a = some o := e
    show nn a = some o
    by_cases q : a = d
    · subst q; rw [upd_same] at e; cases e; rw [nst] at s; cases s
    · rw [upd_ne q] at e; rw [nn1 a q]; exact r.stn a o e s
  · show nwF (upd F.f d (.frz od u)) B.F0 a
    by_cases q : a = d
    · subst q
      rcases r.newF _ ha with n | ⟨ob, o, n1, n2, n3⟩
      · rcases hf with hf | hf
        · exact .inr ⟨od, u, by rw [← n]; exact hf, hu, upd_same⟩
        · exact .inl (by rw [upd_same, ← n]; exact hf.symm)
      · rcases hf with hf | hf
        · rw [hf] at n3; cases n3; cases hu
        · rw [hf] at n3; cases n3; exact .inr ⟨_, _, n1, n2, upd_same⟩
    · exact (r.newF a ha).of (upd_ne q)
  · replace e : nn a = some o := e
    by_cases q : a = d
    · subst q
      by_cases z : F.n a = none
      · rw [nn2 z] at e; cases e
      · cases y : F.n a with
        | none => exact absurd y z
        | some w =>
          have sw := r.newN a w ha y
          have := r.subn _ w y
          rcases hf with hf | hf
          · rw [hf] at this; cases this; rw [nsu] at sw; cases sw
          · rw [hf] at this; cases this; rw [nst] at sw; cases sw
    · rw [nn1 a q] at e; exact r.newN a o ha e
end

/-! ### behind a call -/
/-- what a call leaves: H, F0 the heap and what was frozen ahead of it -/
structure CallEnd (H F0 : Hp) (F' : FF) (H' : Hp) : Prop where
  sub : Sub F'.f H'
  subn : ∀ a o, F'.n a = some o → F'.f a = some o
  stf : Stb H' F'.f
  stn : Stb F'.f F'.n
  keepF : Sub F0 F'.f
  newF : ∀ a, H a ≠ none → nwF F'.f F0 a
  newN : ∀ a o, H a ≠ none → F'.n a = some o → stab o = true
theorem Rel.callEnd {K : W.Frag} {H F0 : Hp} {F' : FF} {H' : Hp} {σ : L2.St} {Γ : Env} {tmp : List Addr} (r : Rel K ⟨H, F0⟩ F' H' σ Γ tmp) : CallEnd H F0 F' H' := ⟨r.sub, r.subn, r.stf, r.stn, r.keepF, r.newF, r.newN⟩
/-- the caller's frozen part behind the call: of the old what was frozen, of the new what the call froze -/
def FF.behind (F : FF) (H : Hp) (F' : FF) : FF := ⟨fun a => match H a with
  | none => F'.f a
  | some _ => F.f a, fun a => match H a with
  | none => F'.n a
  | some _ => F.n a⟩
section
variable {K : W.Frag} {B : Base} {F F' : FF} {H H' F0 : Hp} {σ : L2.St} {Γ : Env} {tmp f1 : List Addr}
theorem behind_f_old {a : Addr} (h : H a ≠ none) : (F.behind H F').f a = F.f a := by
  unfold FF.behind; dsimp only
  cases q : H a with
  | none => exact absurd q h
  | some o => rfl
theorem behind_f_new {a : Addr} (h : H a = none) : (F.behind H F').f a = F'.f a := by
  unfold FF.behind; dsimp only; rw [h]
theorem behind_n_old {a : Addr} (h : H a ≠ none) : (F.behind H F').n a = F.n a := by
  unfold FF.behind; dsimp only
  cases q : H a with
  | none => exact absurd q h
  | some o => rfl
theorem behind_n_new {a : Addr} (h : H a = none) : (F.behind H F').n a = F'.n a := by
  unfold FF.behind; dsimp only; rw [h]
theorem behind_sub (r : Rel K B F H σ Γ tmp) : SubF F (F.behind H F') := ⟨fun a o e => .inl (by rw [behind_f_old (r.sub.ne (by rw [e]; simp)), e]), fun a o e => .inl (by
  have := r.subn a o e
  rw [behind_n_old (r.sub.ne (by rw [this]; simp)), e])⟩
/-- all frozen things of the call's end that are for good are the caller's, too -/
theorem behind_stb (r : Rel K B F H σ Γ tmp) (h0 : ∀ a o, H a = some o → stab o = true → F0 a = some o) (hF0 : Sub F0 H) (c : CallEnd H F0 F' H') : Stb F'.f (F.behind H F').f := fun a o e s => by
  by_cases q : H a = none
  · rw [behind_f_new q]; exact e
  · rw [behind_f_old q]
    have e2 : F0 a = some o := (c.newF a q).stab e s
    exact r.stf a o (hF0.eq e2 (stab_dic s)) s
theorem behind_n (r : Rel K B F H σ Γ tmp) (hF0 : Sub F0 H) (c : CallEnd H F0 F' H') : ∀ a o, F'.n a = some o → (F.behind H F').n a = some o := fun a o e => by
  by_cases q : H a = none
  · rw [behind_n_new q]; exact e
  · rw [behind_n_old q]
    have s := c.newN a o q e
    have e2 : F0 a = some o := (c.newF a q).stab (c.subn a o e) s
    exact r.stn a o (r.stf a o (hF0.eq e2 (stab_dic s)) s) s
theorem Rel.called (r : Rel K B F H σ Γ tmp) (hH : Sub H H') (hF0 : Sub F0 H) (c : CallEnd H F0 F' H')
    (hc : ∀ a, f1.count a ≤ 1) (hf : ∀ a ∈ f1, F'.f a = none ∧ H a = none ∧ H' a ≠ none) : Rel K B (F.behind H F') H' σ Γ (f1 ++ tmp) := by
  obtain ⟨f, h1, h2, h3⟩ := r.env
  have sF := behind_sub (F' := F') r
  refine ⟨⟨f, h1.grow sF hH, fun a => ?_, fun a ha => ?_⟩, fun a o e => ?_, fun a o e => ?_, fun a o e s => ?_, fun a o e s => ?_, r.keep.trans hH, r.keepF.trans sF.f, fun a ha => ?_, fun a o ha e => ?_⟩
  · rw [List.count_append]
    by_cases m : a ∈ f1
    · have e := (hf a m).2.1
      have n1 : a ∉ f := fun q => (h3 a (.inl q)).2.2 e
      have n2 : a ∉ tmp := fun q => (h3 a (.inr q)).2.2 e
      rw [List.count_eq_zero.mpr n1, List.count_eq_zero.mpr n2]
      have := hc a; omega
    · rw [List.count_eq_zero.mpr m]; have := h2 a; omega
  · have old : a ∈ f ∨ a ∈ tmp → (F.behind H F').f a = none ∧ B.H0 a = none ∧ H' a ≠ none := fun m => by
      obtain ⟨q1, q2, q3⟩ := h3 a m
      exact ⟨(behind_f_old q3).trans q1, q2, hH.ne q3⟩
    rcases ha with m | m
    · exact old (.inl m)
    · rcases List.mem_append.mp m with m | m
      · exact ⟨(behind_f_new (hf a m).2.1).trans (hf a m).1, r.h0None (hf a m).2.1, (hf a m).2.2⟩
      · exact old (.inr m)
  · by_cases q : H a = none
    · rw [behind_f_new q] at e; exact c.sub a o e
    · rw [behind_f_old q] at e; exact (r.sub.trans hH) a o e
  · by_cases q : H a = none
    · rw [behind_n_new q] at e; rw [behind_f_new q]; exact c.subn a o e
    · rw [behind_n_old q] at e; rw [behind_f_old q]; exact r.subn a o e
  · by_cases q : H a = none
    · rw [behind_f_new q]; exact c.stf a o e s
    · rw [behind_f_old q]
      have e1 := (c.newF a q).stab (c.stf a o e s) s
      exact r.stf a o (hF0.eq e1 (stab_dic s)) s
  · by_cases q : H a = none
    · rw [behind_f_new q] at e; rw [behind_n_new q]; exact c.stn a o e s
    · rw [behind_f_old q] at e; rw [behind_n_old q]; exact r.stn a o e s
  · exact (r.newF a ha).of (behind_f_old (r.keep.ne ha))
  · rw [behind_n_old (r.keep.ne ha)] at e; exact r.newN a o ha e
end
mutual
/-- where nothing was borrowed: all that the call tells is the caller's -/
theorem RpT.moveA {K : W.Frag} {F F' : FF} {H : Hp} (hf : Sub2 F.f F'.f) (hn : Sub F.n F'.n) : ∀ {x : V} {t : T} {f : List Addr}, RpT K F H x t f → RpT K F' H x t f
  | _, _, _, .v r => .v (r.mono2 hf)
  | _, _, _, .w r => .w (r.mono hn)
  | _, _, _, .b r => .b r
  | _, _, _, .l h r => .l h (RpTs.moveA hf hn r)
  | _, _, _, .tp h r => .tp (hn.eq h rfl) (RpTs.moveA hf hn r)
  | _, _, _, .dc h q r => .dc h q (RpTs.moveA hf hn r)
  | _, _, _, .ob c h n x r => .ob c h n x (RpTs.moveA hf hn r)
theorem RpTs.moveA {K : W.Frag} {F F' : FF} {H : Hp} (hf : Sub2 F.f F'.f) (hn : Sub F.n F'.n) : ∀ {x : List V} {t : List T} {f : List Addr}, RpTs K F H x t f → RpTs K F' H x t f
  | _, _, _, .nil => .nil
  | _, _, _, .cons a b => .cons (RpT.moveA hf hn a) (RpTs.moveA hf hn b)
end
end Tv

namespace Tv
open PySem PySem.Spec PyProof.Rows L2

abbrev LIM : Nat := 16777216

inductive BOp where | add | sub | mul | mod | fdiv | pow
  deriving DecidableEq
inductive COp where | eq | ne | lt | le | gt | ge | isIn | notIn | isB | ntB
  deriving DecidableEq
inductive Ty where | int | bool | str | list | tuple | dict
  deriving DecidableEq
inductive BF where | len | max | min | sum | all | list | tuple | str | int | abs | sorted
  deriving DecidableEq
inductive MF where | join | find | count | index
  deriving DecidableEq
/-- what is done to a list in its place -/
inductive MO where | append | extend | reverse | clear | insert
  deriving DecidableEq
inductive Tg where | nm (i : Nat) | tp (is : List Nat)
  deriving DecidableEq

mutual
inductive E where
  | var (i : Nat) | frz (i : Nat) | mov (i : Nat)
  | int (i : Int) | str (s : List Nat) | non | bl (b : Bool)
  | glb (x : String)
  | bin (o : BOp) (a b : E) | neg (a : E) | not (a : E)
  | cmp (o : COp) (a b : E) | isN (a : E) | notN (a : E) | cmp2 (o p : COp) (a b c : E)
  | and (a b : E) | or (a b : E)
  | call (f : String) (as : Es)
  | cme (c m : String) (o : E) (as : Es)
  | new (c : String) (as : Es)
  | lrn (a : E)
  | blt (f : BF) (as : Es)
  | meth (m : MF) (a b : E)
  | get (d k : E) (x : OE)
  | isi (a : E) (t : Ty)
  | ix (a i : E) | dix (a i : E) | din (n : Bool) (k d : E) | fld (a : E) (f : String) | sl (a : E) (lo hi : OE) | rev (a : E)
  | lst (es : Es) | tup (es : Es) | dic0 (t : Bool)
  | lc (own : List Nat) (tg : Tg) (it : I) (c : OE) (e : E)
inductive OE where
  | no | so (e : E)
inductive Es where
  | nil | cons (e : E) (es : Es)
inductive I where
  | seq (e : E) | rng1 (a : E) | rng2 (a b : E) | rng3 (a b c : E) | enum (e : E) | zip (a b : E) | rvd (a : E) | keys (e : E) | keysM (e : E) | dvals (e : E) | ditems (e : E)
end
/-- a place: a slot, an item of a place, an attribute of a place -/
inductive Pl where
  | nm (i : Nat) | ix (p : Pl) (e : E) | fl (p : Pl) (f : String)

mutual
inductive S where
  | set (i : Nat) (e : E)
  | setF (i : Nat) (e : E)
  | setT (is : List Nat) (e : E)
  | sto (p : Pl) (ix e : E)
  | dsto (p : Pl) (ix e : E)
  | stf (c : String) (p : Pl) (f : String) (e : E)
  | augV (i : Nat) (o : BOp) (e : E)
  | augS (i : Nat) (o : BOp) (ix e : E)
  | mut (m : MO) (p : Pl) (as : Es)
  | pop (i : Nat) (p : Pl) (as : Es)
  | ex (e : E)
  | ife (c : E) (a b : Ss)
  | for (tg : Tg) (it : I) (body : Ss)
  | whl (fuel : Nat) (c : E) (body : Ss)
  | ret (io : List Nat) (e : E) | retN (io : List Nat) | pass | brk | cnt
  | dead
inductive Ss where
  | nil | cons (s : S) (ss : Ss) | kill (is : List Nat) (ss : Ss)
end

/-- an own exception: its class, its fields -/
structure Exn where
  cls : String
  ns : List String
  vs : List D

inductive R (α : Type) where
  | bad | ok (a : α) (Γ : Env) | ex (x : Exn) (Γ : Env)
inductive SR where
  | bad | nx (Γ : Env) | rt (t : T) (Γ : Env) | bk (Γ : Env) | ct (Γ : Env) | ex (x : Exn) (Γ : Env)
inductive CR where
  | bad | ret (t : T) (os : List T) | ex (x : Exn) (os : List T)
abbrev Calls := String → List T → CR

@[inline] def R.bind {α β : Type} (r : R α) (f : α → Env → R β) : R β :=
  match r with
  | .bad => .bad
  | .ok a Γ => f a Γ
  | .ex x Γ => .ex x Γ
def R.op {α : Type} (o : Option α) (Γ : Env) : R α :=
  match o with
  | none => .bad
  | some a => .ok a Γ

/-! ### things by value -/
def subW (d : D) : T := if d.imm then .v d else .w d
def subB (d : D) : T := if d.imm then .v d else .b d
/-- a list that may be joined -/
def asL : T → Option (List T)
  | .v (.lst ds) => some (ds.map .v)
  | .w (.lst ds) => some (ds.map subW)
  | .b (.lst ds) => some (ds.map subB)
  | .l ts => some ts
  | _ => none
/-- anything with items -/
def asQ : T → Option (List T)
  | .v (.lst ds) => some (ds.map .v)
  | .w (.lst ds) => some (ds.map subW)
  | .b (.lst ds) => some (ds.map subB)
  | .l ts => some ts
  | .v (.tup ds) => some (ds.map .v)
  | .w (.tup ds) => some (ds.map subW)
  | .b (.tup ds) => some (ds.map subB)
  | .tp ts => some ts
  | .v (.scr ns) => some (ns.map fun n => .v (.int n))
  | .v (.ktp ds) => some (ds.map .v)
  | .w (.scr ns) => some (ns.map fun n => .v (.int n))
  | .w (.ktp ds) => some (ds.map subW)
  | .b (.scr ns) => some (ns.map fun n => .v (.int n))
  | .b (.ktp ds) => some (ds.map subB)
  | _ => none
def lOnly : T → Option (List T)
  | .v (.lst ds) => some (ds.map .v)
  | .w (.lst ds) => some (ds.map subW)
  | .b (.lst ds) => some (ds.map subB)
  | .l ts => some ts
  | .v (.scr ns) => some (ns.map fun n => .v (.int n))
  | .w (.scr ns) => some (ns.map fun n => .v (.int n))
  | .b (.scr ns) => some (ns.map fun n => .v (.int n))
  | _ => none
def dicQ : T → Option (Bool × List D × List T)
  | .v (.dct t ks ds) => some (t, ks, ds.map .v)
  | .w (.dct t ks ds) => some (t, ks, ds.map subW)
  | .b (.dct t ks ds) => some (t, ks, ds.map subB)
  | .dc t ks ts => some (t, ks, ts)
  | _ => none
def objQ : T → Option (String × List String × List T)
  | .v (.obj c ns ds) => some (c, ns, ds.map .v)
  | .w (.obj c ns ds) => some (c, ns, ds.map subW)
  | .b (.obj c ns ds) => some (c, ns, ds.map subB)
  | .ob c ns ts => some (c, ns, ts)
  | _ => none
/-- frozen -/
def T.fz (t : T) : Option T := if t.er.imm then some (.v t.er) else if t.cl then some (.w t.er) else if t.noB then some (.v t.er) else none
/-- items for good -/
def asF (t : T) : Option (List T) := t.fz.bind asL

def addT : T → T → Option T
  | .v (.int i), .v (.int j) => some (.v (.int (i + j)))
  | .v (.str s), .v (.str t) => if s.length + t.length ≤ LIM then some (.v (.str (s ++ t))) else none
  | x, y =>
    match asL x, asL y with
    | some a, some b => if a.length + b.length ≤ LIM then some (.l (a ++ b)) else none
    | _, _ => none
def mulT : T → T → Option T
  | .v (.int i), .v (.int j) => if i.natAbs.log2 + j.natAbs.log2 < 1000000 then some (.v (.int (i * j))) else none
  | x, .v (.int k) =>
    match asF x with
    | some ts => if -(2 ^ 63) ≤ k ∧ k < 2 ^ 63 ∧ ts.length * k.toNat ≤ LIM then some (.l (List.replicate k.toNat ts).flatten) else none
    | none => none
  | _, _ => none
def binT (o : BOp) (x y : T) : Option T :=
  match o with
  | .add => addT x y
  | .mul => mulT x y
  | .sub => match x, y with
    | .v (.int i), .v (.int j) => some (.v (.int (i - j)))
    | _, _ => none
  | .mod => match x, y with
    | .v (.int i), .v (.int j) => if j ≠ 0 then some (.v (.int (i.fmod j))) else none
    | _, _ => none
  | .fdiv => match x, y with
    | .v (.int i), .v (.int j) => if 0 < j ∧ j.natAbs.log2 < 9000 then some (.v (.int (i / j))) else none
    | _, _ => none
  | .pow => match x, y with
    | .v (.int i), .v (.int j) => if 0 ≤ j ∧ j ≤ 1000000 ∧ i.natAbs < 2 ^ 64 then some (.v (.int (i ^ j.toNat))) else none
    | _, _ => none

mutual
def D.py : D → PyData
  | .non => .none
  | .bl b => .bool b
  | .int i => .int i
  | .str s => .str ⟨s.toArray⟩
  | .lst xs => .list (D.pys xs)
  | .tup xs => .tuple (D.pys xs)
  | .ktp xs => .tuple (D.pys xs)
  | .scr ns => .list (ns.map .int)
  | .dct _ _ _ => .dict []
  | .obj _ _ _ => .none
  | .exc _ _ _ => .none
def D.pys : List D → List PyData
  | [] => []
  | d :: ds => d.py :: D.pys ds
end
def eqD (a b : D) : Bool := PyData.eqv a.py b.py
mutual
def D.okD : D → Nat → Bool
  | .lst xs, n + 1 => D.okDs xs n
  | .tup xs, n + 1 => D.okDs xs n
  | .ktp _, _ => false
  | .scr _, _ => false
  | .dct _ _ _, _ => false
  | .obj _ _ _, _ => false
  | .exc _ _ _, _ => false
  | .lst _, 0 => false
  | .tup _, 0 => false
  | _, _ => true
def D.okDs : List D → Nat → Bool
  | [], _ => true
  | d :: ds, n => d.okD n && D.okDs ds n
end
def eqT (x y : T) : Option Bool := if x.er.okD 60 && y.er.okD 60 then some (eqD x.er y.er) else none
/-- a list of lists: is it there -/
def inDT (d : D) : D → Option Bool
  | .lst ds => if d.okD 60 && (D.lst ds).okD 60 then some (ds.any fun z => eqD z d) else none
  | _ => none
def inT (x y : T) : Option Bool :=
  match x, y with
  | .v (.str [c]), .v (.str s) => some (decide (c ∈ s))
  | x, y =>
    match asQ y with
    | some ts => if x.er.flat && ts.all (fun t => t.er.flat) then some (ts.any fun t => eqD t.er x.er) else inDT x.er y.er
    | none => none
def intsT : List T → Option (List Int)
  | [] => some []
  | .v (.int i) :: ts => (intsT ts).map fun r => i :: r
  | _ => none
/-- lists of whole numbers, which is more -/
def gtN : List Int → List Int → Bool
  | [], _ => false
  | _ :: _, [] => true
  | x :: xs, y :: ys => if x = y then gtN xs ys else decide (y < x)
def rowsT : List T → Option (List (List T))
  | [] => some []
  | t :: ts => match asL t, rowsT ts with
    | some r, some rs => some (r :: rs)
    | _, _ => none
def insI (x : Int) : List Int → List Int
  | [] => [x]
  | y :: ys => if x ≤ y then x :: y :: ys else y :: insI x ys
def sortI : List Int → List Int
  | [] => []
  | x :: xs => insI x (sortI xs)
/-- pairs of whole numbers -/
def pairTp (p : Int × Int) : T := .v (.tup [.int p.1, .int p.2])
def pairsT : List T → Option (List (Int × Int))
  | [] => some []
  | .v (.tup [.int a, .int b]) :: ts => (pairsT ts).map fun r => (a, b) :: r
  | _ => none
def leP (p q : Int × Int) : Bool := decide (p.1 < q.1 ∨ (p.1 = q.1 ∧ p.2 ≤ q.2))
def insP (x : Int × Int) : List (Int × Int) → List (Int × Int)
  | [] => [x]
  | y :: ys => if leP x y then x :: y :: ys else y :: insP x ys
def sortP : List (Int × Int) → List (Int × Int)
  | [] => []
  | x :: xs => insP x (sortP xs)
def cmpT (o : COp) (x y : T) : Option Bool :=
  match o with
  | .eq => eqT x y
  | .ne => (eqT x y).map fun b => !b
  | .lt => match x, y with
    | .v (.int i), .v (.int j) => some (decide (i < j))
    | _, _ => none
  | .le => match x, y with
    | .v (.int i), .v (.int j) => some (decide (i ≤ j))
    | _, _ => none
  | .gt => match x, y with
    | .v (.int i), .v (.int j) => some (decide (j < i))
    | x, y => match (lOnly x).bind intsT, (lOnly y).bind intsT with
      | some ns, some ms => some (gtN ns ms)
      | _, _ => none
  | .ge => match x, y with
    | .v (.int i), .v (.int j) => some (decide (j ≤ i))
    | _, _ => none
  | .isIn => inT x y
  | .notIn => (inT x y).map fun b => !b
  | .isB => match x, y with
    | .v (.bl i), .v (.bl j) => some (decide (i = j))
    | _, _ => none
  | .ntB => match x, y with
    | .v (.bl i), .v (.bl j) => some (!decide (i = j))
    | _, _ => none
def D.isi (d : D) (t : Ty) : Bool :=
  match t, d with
  | .int, .int _ => true
  | .int, .bl _ => true
  | .bool, .bl _ => true
  | .str, .str _ => true
  | .list, .lst _ => true
  | .list, .scr _ => true
  | .tuple, .tup _ => true
  | .tuple, .ktp _ => true
  | .dict, .dct _ _ _ => true
  | _, _ => false
def D.isNon : D → Bool
  | .non => true
  | _ => false
/-- isinstance can be asked -/
def D.tyOk : D → Bool
  | .dct t _ _ => !t
  | .obj _ _ _ => false
  | .exc _ _ _ => false
  | _ => true
def showI (i : Int) : List Nat := (Str.ofString (toString i)).cps.toList
def sizeT (t : T) : Option Nat :=
  match t with
  | .v (.str s) => some s.length
  | t => (asQ t).map List.length
def intsD : List D → Option (List Int)
  | [] => some []
  | .int i :: ts => (intsD ts).map fun r => i :: r
  | _ => none
/-- a dict's keys, sorted -/
def sortDT (p : Option (Bool × List D × List T)) : Option T := match p with
  | some (false, ks, _) => match intsD ks with
    | some ns => if ns.length < 64 then some (.l ((sortI ns).map fun i => .v (.int i))) else none
    | none => none
  | _ => none
def boolsT : List T → Option (List Bool)
  | [] => some []
  | .v (.bl i) :: ts => (boolsT ts).map fun r => i :: r
  | _ => none
def maxL (a : Int) (xs : List Int) : Int := xs.foldl (fun m x => if x > m then x else m) a
def minL (a : Int) (xs : List Int) : Int := xs.foldl (fun m x => if x < m then x else m) a
/-- a tuple of these -/
def mkTp (ts : List T) : T := if D.imms (T.ers ts) then .v (.tup (T.ers ts)) else .tp ts
def bltT (f : BF) (ts : List T) : Option T :=
  match f, ts with
  | .len, [t] => (sizeT t).map fun n => .v (.int n)
  | .max, [.v (.int i), .v (.int j)] => some (.v (.int (if j > i then j else i)))
  | .min, [.v (.int i), .v (.int j)] => some (.v (.int (if j < i then j else i)))
  | .max, [t] => match (lOnly t).bind intsT with
    | some (a :: r) => some (.v (.int (maxL a r)))
    | _ => none
  | .min, [t] => match (lOnly t).bind intsT with
    | some (a :: r) => some (.v (.int (minL a r)))
    | _ => none
  | .sum, [t] => ((lOnly t).bind intsT).map fun ns => .v (.int ns.sum)
  | .sum, [t, .l []] => match (lOnly t).bind rowsT with
    | some rs => if rs.flatten.length ≤ LIM then some (.l rs.flatten) else none
    | none => none
  | .sorted, [t] => match (lOnly t).bind intsT with
    | some ns => some (.l ((sortI ns).map fun i => .v (.int i)))
    | none => match (lOnly t).bind pairsT with
      | some ps => some (.l ((sortP ps).map pairTp))
      | none => sortDT (dicQ t)
  | .all, [t] => ((lOnly t).bind boolsT).map fun bs => .v (.bl (bs.all id))
  | .list, [t] => (asQ t).map .l
  | .tuple, [t] => match t with
    | .v (.tup ds) => some (.v (.tup ds))
    | .tp ts => some (.tp ts)
    | .w (.tup ds) => some (.w (.tup ds))
    | t => (lOnly t).map mkTp
  | .str, [.v (.int i)] => if i.natAbs.log2 < 1920 then some (.v (.str (showI i))) else none
  | .int, [.v (.int i)] => some (.v (.int i))
  | .int, [.v (.bl b)] => some (.v (.int (if b then 1 else 0)))
  | .abs, [.v (.int i)] => some (.v (.int (if i < 0 then -i else i)))
  | _, _ => none
def strsT : List T → Option (List (List Nat))
  | [] => some []
  | .v (.str s) :: ts => (strsT ts).map fun r => s :: r
  | _ => none
def cutL {α : Type} (xs : List α) (lo hi : Option Int) : List α :=
  (xs.drop (HT.sIx xs.length 0 lo)).take (HT.sIx xs.length xs.length hi - HT.sIx xs.length 0 lo)
def findS (a b : List Nat) : Int := Txt.find ⟨a.toArray⟩ ⟨b.toArray⟩
def methT (m : MF) (x y : T) : Option T :=
  match m with
  | .join => match x, y with
    | .v (.str a), t => match (asQ t).bind strsT with
      | some ss => if (ss.map List.length).sum + ss.length * a.length ≤ LIM then some (.v (.str (TL.joinL a ss))) else none
      | none => none
    | _, _ => none
  | .find => match x, y with
    | .v (.str a), .v (.str b) => some (.v (.int (findS a b)))
    | _, _ => none
  | .count => match lOnly x with
    | some ts => if y.er.flat && ts.all (fun t => t.er.flat) then some (.v (.int ((ts.filter fun t => eqD t.er y.er).length : Nat))) else none
    | none => none
  | .index => match lOnly x with
    | some ts => if y.er.flat && ts.all (fun t => t.er.flat) then (ts.findIdx? fun t => eqD t.er y.er).map fun j => .v (.int (j : Nat)) else none
    | none => none
def mTy (m : MF) (x : T) : Bool :=
  match m with
  | .join | .find => (match x with
    | .v (.str _) => true
    | _ => false)
  | .count | .index => (lOnly x).isSome
def ixT (x i : T) : Option T :=
  match x, i with
  | .v (.str s), .v (.int k) => (atI s k).map fun c => .v (.str [c])
  | x, .v (.int k) => (asQ x).bind fun ts => atI ts k
  | _, _ => none
def dGet {α : Type} (ks : List D) (vs : List α) (k : D) : Option α := ((ks.zip vs).find? fun p => eqD p.1 k).map Prod.snd
def dHas (ks : List D) (k : D) : Bool := ks.any fun x => eqD x k
def dPut {α : Type} (ks : List D) (vs : List α) (k : D) (v : α) : List D × List α := if dHas ks k then (ks, (ks.zip vs).map fun p => if eqD p.1 k then v else p.2) else (ks ++ [k], vs ++ [v])
def D.kyB : D → Bool
  | .int _ | .str _ => true
  | _ => false
/-- a key of the dict's kind -/
def keyFits (t : Bool) (k : D) : Bool := match t, k with
  | false, k => k.kyB
  | true, .tup ds => ds.all D.kyB
  | _, _ => false
def dixT (x k : T) : Option T := (dicQ x).bind fun p => if keyFits p.1 k.er then dGet p.2.1 p.2.2 k.er else none
def dinT (x k : T) : Option Bool := (dicQ x).bind fun p => if keyFits p.1 k.er then some (dHas p.2.1 k.er) else none
def fldT (x : T) (f : String) : Option T := (objQ x).bind fun p => ((p.2.1.zip p.2.2).find? fun q => q.1 == f).map Prod.snd
def slT (x : T) (lo hi : Option Int) : Option T :=
  match x with
  | .v (.str s) => some (.v (.str (cutL s lo hi)))
  | x => (lOnly x).map fun ts => .l (cutL ts lo hi)
def revT (x : T) : Option T := (lOnly x).map fun ts => .l ts.reverse
def rangeT (lo : Int) (n : Nat) (c : Int) : List T := (List.range n).map fun (i : Nat) => T.v (.int (lo + (i : Int) * c))
/-- the number of turns of range(a, b, c) -/
def rgN (a b c : Int) : Nat := (Builtin.Range.rangeSize a b c).toNat
def small62 (i : Int) : Bool := decide (-(2 ^ 62) ≤ i ∧ i < 2 ^ 62)
/-- what a walk gives: frozen things -/
def itemsT : T → Option (List T)
  | .v (.lst ds) => some (ds.map .v)
  | .v (.tup ds) => some (ds.map .v)
  | .v (.scr ns) => some (ns.map fun n => .v (.int n))
  | .v (.str s) => some (s.map fun c => .v (.str [c]))
  | .w (.lst ds) => some (ds.map subW)
  | .w (.tup ds) => some (ds.map subW)
  | .w (.scr ns) => some (ns.map fun n => .v (.int n))
  | _ => none
def listT : T → Option (List T)
  | .v (.lst ds) => some (ds.map .v)
  | .v (.scr ns) => some (ns.map fun n => .v (.int n))
  | .w (.lst ds) => some (ds.map subW)
  | .w (.scr ns) => some (ns.map fun n => .v (.int n))
  | _ => none
def seqT : T → Option (List T)
  | .v (.lst ds) => some (ds.map .v)
  | .v (.tup ds) => some (ds.map .v)
  | .v (.scr ns) => some (ns.map fun n => .v (.int n))
  | .w (.lst ds) => some (ds.map subW)
  | .w (.tup ds) => some (ds.map subW)
  | .tp ts => some ts
  | .l ts => some ts
  | _ => none
def setSlots (Γ : Env) : List Nat → List T → Option Env
  | [], [] => some Γ
  | i :: is, t :: ts => if i < Γ.length then setSlots (Γ.set i (some t)) is ts else none
  | _, _ => none
/-- what a tuple's target gets -/
def tupT : T → Option (List T)
  | .v (.tup ds) => some (ds.map .v)
  | .w (.tup ds) => some (ds.map subW)
  | .tp ts => some ts
  | _ => none
def bindTg (tg : Tg) (t : T) (Γ : Env) : Option Env :=
  match tg with
  | .nm i => if i < Γ.length then some (Γ.set i (some t)) else none
  | .tp is => (tupT t).bind fun ts => setSlots Γ is ts
def wipeE (Γ : Env) : List Nat → Env
  | [] => Γ
  | v :: vs => (wipeE Γ vs).set v none
def keepV : Option (Option T) → Option T
  | some (some (.v d)) => some (.v d)
  | some (some (.w d)) => some (.w d)
  | _ => none
def restE (Γ1 Γ2 : Env) : List Nat → Env
  | [] => Γ2
  | v :: vs => restE Γ1 (Γ2.set v (keepV (Γ1[v]?))) vs
/-- the given slots alone -/
def keepIo (io : List Nat) (Γ : Env) : Env := io.foldl (fun Γ' i => Γ'.set i ((Γ[i]?).getD none)) (List.replicate Γ.length none)

/-- a comprehension's turns -/
def lcL (step : T → Env → R (Option T)) : List T → Env → List T → R (List T)
  | [], Γ, acc => .ok acc Γ
  | d :: ds, Γ, acc =>
    match step d Γ with
    | .ok none Γ' => lcL step ds Γ' acc
    | .ok (some t) Γ' => lcL step ds Γ' (acc ++ [t])
    | _ => .bad
def forL (step : T → Env → SR) : List T → Env → SR
  | [], Γ => .nx Γ
  | d :: ds, Γ =>
    match step d Γ with
    | .nx Γ' => forL step ds Γ'
    | .ct Γ' => forL step ds Γ'
    | .bk Γ' => .nx Γ'
    | r => r
def whlL (c : Env → R T) (body : Env → SR) : Nat → Env → SR
  | 0, _ => .bad
  | n + 1, Γ =>
    match c Γ with
    | .ok (.v (.bl true)) Γ1 =>
      (match body Γ1 with
      | .nx Γ' => whlL c body n Γ'
      | .ct Γ' => whlL c body n Γ'
      | .bk Γ' => .nx Γ'
      | r => r)
    | .ok (.v (.bl false)) Γ1 => .nx Γ1
    | .ex x Γ1 => .ex x Γ1
    | _ => .bad

def isF : T → Bool
  | .v _ => true
  | .w _ => true
  | _ => false
/-- as a slot is read -/
def bor : T → T
  | .v d => .v d
  | .w d => .w d
  | t => subB t.er
/-- a call's answer: where something was lent, it may hold nothing of the lent -/
def callT (ts : List T) (r : CR) (Γ : Env) : R T := match r with
  | .ret t [] => if T.noBs ts || t.cl then .ok t Γ else .bad
  | .ex x [] => .ex x Γ
  | _ => .bad
/-- an own class's instance just made -/
def newT (ts : List T) (r : CR) (Γ : Env) : R T := match r with
  | .ret (.v .non) [t] => if T.noBs ts || t.cl then .ok t Γ else .bad
  | .ex x _ => .ex x Γ
  | _ => .bad

mutual
def evE (cl : Calls) (con : String → Option D) : E → Env → R T
  | .var i, Γ => match Γ[i]? with
    | some (some t) => .ok (bor t) Γ
    | _ => .bad
  | .frz i, Γ => match Γ[i]? with
    | some (some t) => if isF t then .ok t Γ else (match t.fz with
      | some u => .ok u (Γ.set i (some u))
      | none => .bad)
    | _ => .bad
  | .mov i, Γ => match Γ[i]? with
    | some (some t) => .ok t (Γ.set i none)
    | _ => .bad
  | .int i, Γ => .ok (.v (.int i)) Γ
  | .str s, Γ => .ok (.v (.str s)) Γ
  | .non, Γ => .ok (.v .non) Γ
  | .bl b, Γ => .ok (.v (.bl b)) Γ
  | .glb x, Γ => match con x with
    | some d => .ok (.v d) Γ
    | none => .bad
  | .bin o a b, Γ => (evE cl con a Γ).bind fun x Γ1 => (evE cl con b Γ1).bind fun y Γ2 => R.op (binT o x y) Γ2
  | .neg a, Γ => (evE cl con a Γ).bind fun x Γ1 => match x with
    | .v (.int i) => .ok (.v (.int (-i))) Γ1
    | _ => .bad
  | .not a, Γ => (evE cl con a Γ).bind fun x Γ1 => match x with
    | .v (.bl b) => .ok (.v (.bl (!b))) Γ1
    | _ => .bad
  | .cmp o a b, Γ => (evE cl con a Γ).bind fun x Γ1 => (evE cl con b Γ1).bind fun y Γ2 => R.op ((cmpT o x y).map fun c => .v (.bl c)) Γ2
  | .isN a, Γ => (evE cl con a Γ).bind fun x Γ1 => .ok (.v (.bl x.er.isNon)) Γ1
  | .notN a, Γ => (evE cl con a Γ).bind fun x Γ1 => .ok (.v (.bl (!x.er.isNon))) Γ1
  | .cmp2 o p a b c, Γ => (evE cl con a Γ).bind fun x Γ1 => (evE cl con b Γ1).bind fun y Γ2 => match cmpT o x y with
    | some true => (evE cl con c Γ2).bind fun z Γ3 => R.op ((cmpT p y z).map fun c => .v (.bl c)) Γ3
    | some false => .ok (.v (.bl false)) Γ2
    | none => .bad
  | .and a b, Γ => (evE cl con a Γ).bind fun x Γ1 => match x with
    | .v (.bl true) => evE cl con b Γ1
    | .v (.bl false) => .ok (.v (.bl false)) Γ1
    | _ => .bad
  | .or a b, Γ => (evE cl con a Γ).bind fun x Γ1 => match x with
    | .v (.bl false) => evE cl con b Γ1
    | .v (.bl true) => .ok (.v (.bl true)) Γ1
    | _ => .bad
  | .lrn a, Γ => (evE cl con a Γ).bind fun x Γ1 => match x with
    | .v (.int j) => if small62 j && decide (j ≤ LIM) then .ok (.l ((List.range j.toNat).map fun (i : Nat) => .v (.int (i : Int)))) Γ1 else .bad
    | _ => .bad
  | .call f as, Γ => (evEs cl con as Γ).bind fun ts Γ1 => callT ts (cl f ((T.ers ts).map .v)) Γ1
  | .cme c m o as, Γ => (evE cl con o Γ).bind fun x Γ1 => match objQ x with
    | some (c', ns, _) => if c' == c && !(ns.contains m) then (evEs cl con as Γ1).bind fun ts Γ2 => callT (x :: ts) (cl (c ++ "." ++ m) ((x.er :: T.ers ts).map .v)) Γ2 else .bad
    | none => .bad
  | .new c as, Γ => (evEs cl con as Γ).bind fun ts Γ1 => newT ts (cl (c ++ ".__init__") (.ob c [] [] :: (T.ers ts).map .v)) Γ1
  | .blt f as, Γ => (evEs cl con as Γ).bind fun ts Γ1 => R.op (bltT f ts) Γ1
  | .meth m a b, Γ => (evE cl con a Γ).bind fun x Γ1 => if mTy m x then (evE cl con b Γ1).bind fun y Γ2 => R.op (methT m x y) Γ2 else .bad
  | .get d k x, Γ => (evE cl con d Γ).bind fun dt Γ1 => match dicQ dt with
    | some (t, ks, vs) => (evE cl con k Γ1).bind fun kt Γ2 => (evX cl con x Γ2).bind fun xt Γ3 => if keyFits t kt.er then .ok ((dGet ks vs kt.er).getD xt) Γ3 else .bad
    | none => .bad
  | .isi a t, Γ => (evE cl con a Γ).bind fun x Γ1 => if x.er.tyOk then .ok (.v (.bl (x.er.isi t))) Γ1 else .bad
  | .ix a i, Γ => (evE cl con a Γ).bind fun x Γ1 => (evE cl con i Γ1).bind fun y Γ2 => R.op (ixT x y) Γ2
  | .dix a i, Γ => (evE cl con a Γ).bind fun x Γ1 => (evE cl con i Γ1).bind fun y Γ2 => R.op (dixT x y) Γ2
  | .din n k d, Γ => (evE cl con k Γ).bind fun y Γ1 => (evE cl con d Γ1).bind fun x Γ2 => R.op ((dinT x y).map fun c => .v (.bl (if n then !c else c))) Γ2
  | .fld a f, Γ => (evE cl con a Γ).bind fun x Γ1 => R.op (fldT x f) Γ1
  | .sl a lo hi, Γ => (evE cl con a Γ).bind fun x Γ1 => (evO cl con lo Γ1).bind fun l Γ2 => (evO cl con hi Γ2).bind fun h Γ3 => R.op (slT x l h) Γ3
  | .rev a, Γ => (evE cl con a Γ).bind fun x Γ1 => R.op (revT x) Γ1
  | .lst es, Γ => (evEs cl con es Γ).bind fun ts Γ1 => if decide (ts.length ≤ LIM) then .ok (.l ts) Γ1 else .bad
  | .tup es, Γ => (evEs cl con es Γ).bind fun ts Γ1 => if decide (ts.length ≤ LIM) then .ok (mkTp ts) Γ1 else .bad
  | .dic0 t, Γ => .ok (.dc t [] []) Γ
  | .lc own tg it c e, Γ => (evI cl con it Γ).bind fun ds Γ1 => if ds.length ≤ LIM then
    (lcL (fun d Γ2 => match bindTg tg d Γ2 with
      | none => .bad
      | some Γ3 => (evC cl con c Γ3).bind fun b Γ4 => match b with
        | false => .ok none (wipeE Γ4 own)
        | true => (evE cl con e Γ4).bind fun t Γ5 => if t.noB then .ok (some t) (wipeE Γ5 own) else .bad) ds (wipeE Γ1 own) []).bind fun ts Γ6 => .ok (.l ts) (restE Γ1 Γ6 own)
    else .bad
def evX (cl : Calls) (con : String → Option D) : OE → Env → R T
  | .no, Γ => .ok (.v .non) Γ
  | .so e, Γ => evE cl con e Γ
def evC (cl : Calls) (con : String → Option D) : OE → Env → R Bool
  | .no, Γ => .ok true Γ
  | .so e, Γ => (evE cl con e Γ).bind fun x Γ1 => match x with
    | .v (.bl b) => .ok b Γ1
    | _ => .bad
def evO (cl : Calls) (con : String → Option D) : OE → Env → R (Option Int)
  | .no, Γ => .ok none Γ
  | .so e, Γ => (evE cl con e Γ).bind fun x Γ1 => match x with
    | .v (.int i) => .ok (some i) Γ1
    | _ => .bad
def evEs (cl : Calls) (con : String → Option D) : Es → Env → R (List T)
  | .nil, Γ => .ok [] Γ
  | .cons e es, Γ => (evE cl con e Γ).bind fun t Γ1 => (evEs cl con es Γ1).bind fun ts Γ2 => .ok (t :: ts) Γ2
def evI (cl : Calls) (con : String → Option D) : I → Env → R (List T)
  | .seq e, Γ => (evE cl con e Γ).bind fun t Γ1 => R.op (t.fz.bind itemsT) Γ1
  | .rng1 a, Γ => (evE cl con a Γ).bind fun x Γ1 => match x with
    | .v (.int j) => if small62 j && decide (j ≤ LIM) then .ok (rangeT 0 j.toNat 1) Γ1 else .bad
    | _ => .bad
  | .rng2 a b, Γ => (evE cl con a Γ).bind fun x Γ1 => (evE cl con b Γ1).bind fun y Γ2 => match x, y with
    | .v (.int i), .v (.int j) => if small62 i && small62 j && decide (j - i ≤ LIM) then .ok (rangeT i (j - i).toNat 1) Γ2 else .bad
    | _, _ => .bad
  | .rng3 a b c, Γ => (evE cl con a Γ).bind fun x Γ1 => (evE cl con b Γ1).bind fun y Γ2 => (evE cl con c Γ2).bind fun z Γ3 => match x, y, z with
    | .v (.int i), .v (.int j), .v (.int k) => if Builtin.Range.small i j k && decide (k ≠ 0 ∧ -1073741824 < k ∧ k < 1073741824) && decide (rgN i j k ≤ LIM) then .ok (rangeT i (rgN i j k) k) Γ3 else .bad
    | _, _, _ => .bad
  | .enum e, Γ => (evE cl con e Γ).bind fun t Γ1 => match t.fz.bind listT with
    | some ds => .ok (ds.zipIdx.map fun p => .tp [.v (.int p.2), p.1]) Γ1
    | none => .bad
  | .zip a b, Γ => (evE cl con a Γ).bind fun x Γ1 => (evE cl con b Γ1).bind fun y Γ2 => match x.fz.bind listT, y.fz.bind listT with
    | some ds, some es => .ok ((ds.zip es).map fun p => .tp [p.1, p.2]) Γ2
    | _, _ => .bad
  | .rvd a, Γ => (evE cl con a Γ).bind fun t Γ1 => match t.fz.bind listT with
    | some ds => .ok ds.reverse Γ1
    | none => .bad
  | .keys a, Γ => (evE cl con a Γ).bind fun t Γ1 => match t.fz.bind dicQ with
    | some (_, ks, _) => .ok (ks.map .v) Γ1
    | none => .bad
  | .keysM a, Γ => (evE cl con a Γ).bind fun t Γ1 => match t.fz.bind dicQ with
    | some (false, ks, _) => .ok (ks.map .v) Γ1
    | _ => .bad
  | .dvals a, Γ => (evE cl con a Γ).bind fun t Γ1 => match t.fz.bind dicQ with
    | some (false, _, ts) => .ok ts Γ1
    | _ => .bad
  | .ditems a, Γ => (evE cl con a Γ).bind fun t Γ1 => match t.fz.bind dicQ with
    | some (false, ks, ts) => .ok ((ks.zip ts).map fun p => .tp [.v p.1, p.2]) Γ1
    | _ => .bad
end

def liftE (r : R T) (f : T → Env → SR) : SR :=
  match r with
  | .bad => .bad
  | .ok a Γ => f a Γ
  | .ex x Γ => .ex x Γ
def liftI {α : Type} (r : R α) (f : α → Env → SR) : SR :=
  match r with
  | .bad => .bad
  | .ok a Γ => f a Γ
  | .ex x Γ => .ex x Γ

/-! ### places -/
inductive PK where | n (k : Nat) | f (s : String)
abbrev Pth := Nat × List PK
def fIx (ns : List String) (f : String) : Option Nat := ns.findIdx? fun x => x == f
def getP : T → List PK → Option T
  | t, [] => some t
  | .l ts, .n k :: p => match ts[k]? with
    | some t => getP t p
    | none => none
  | .tp ts, .n k :: p => match ts[k]? with
    | some t => getP t p
    | none => none
  | .ob _ ns ts, .f s :: p => match fIx ns s with
    | some k => (match ts[k]? with
      | some t => getP t p
      | none => none)
    | none => none
  | _, _ => none
/-- the thing at the place is another one now -/
def setP : T → List PK → T → T
  | _, [], u => u
  | .l ts, .n k :: p, u => match ts[k]? with
    | some t => .l (ts.set k (setP t p u))
    | none => .l ts
  | .tp ts, .n k :: p, u => match ts[k]? with
    | some t => .tp (ts.set k (setP t p u))
    | none => .tp ts
  | .ob c ns ts, .f s :: p, u => match fIx ns s with
    | some k => (match ts[k]? with
      | some t => .ob c ns (ts.set k (setP t p u))
      | none => .ob c ns ts)
    | none => .ob c ns ts
  | t, _, _ => t
def getΓ (Γ : Env) (q : Pth) : Option T := match Γ[q.1]? with
  | some (some t) => getP t q.2
  | _ => none
def setΓ (Γ : Env) (q : Pth) (u : T) : Env := match Γ[q.1]? with
  | some (some t) => Γ.set q.1 (some (setP t q.2 u))
  | _ => Γ
def ixT1 (n : Nat) : T → Option Nat
  | .v (.int j) => ixN n j
  | _ => none
/-- the items of an owned list or tuple -/
def ownQ : Option T → Option (List T)
  | some (.l ts) => some ts
  | some (.tp ts) => some ts
  | _ => none
def evPl (cl : Calls) (con : String → Option D) : Pl → Env → R Pth
  | .nm i, Γ => match Γ[i]? with
    | some (some _) => .ok (i, []) Γ
    | _ => .bad
  | .ix p e, Γ => (evPl cl con p Γ).bind fun q Γ1 => match ownQ (getΓ Γ1 q) with
    | some _ => (evE cl con e Γ1).bind fun k Γ2 => (match ownQ (getΓ Γ2 q) with
      | some ts => (match ixT1 ts.length k with
        | some n => .ok (q.1, q.2 ++ [.n n]) Γ2
        | none => .bad)
      | none => .bad)
    | none => .bad
  | .fl p f, Γ => (evPl cl con p Γ).bind fun q Γ1 => match getΓ Γ1 q with
    | some (.ob _ ns _) => (match fIx ns f with
      | some _ => .ok (q.1, q.2 ++ [.f f]) Γ1
      | none => .bad)
    | _ => .bad
def isLs (Γ : Env) (q : Pth) : Bool := match getΓ Γ q with
  | some (.l _) => true
  | _ => false
def isDs (Γ : Env) (q : Pth) : Bool := match getΓ Γ q with
  | some (.dc _ _ _) => true
  | _ => false
def putO (Γ : Env) (i : Nat) (o : Option T) : SR := match o with
  | some t => .nx (Γ.set i (some t))
  | none => .bad
def putΓ (Γ : Env) (q : Pth) (o : Option T) : SR := match o with
  | some u => .nx (setΓ Γ q u)
  | none => .bad
def lstT : T → Option (List T)
  | .v (.lst ds) => some (ds.map .v)
  | .w (.lst ds) => some (ds.map subW)
  | .b (.lst ds) => if D.imms ds then some (ds.map .v) else none
  | .l ts => some ts
  | _ => none
def mutT (m : MO) (o : Option T) (as : List T) : Option T := match m, o, as with
  | .append, some (.l ts), [t] => if t.noB && decide (ts.length < LIM) then some (.l (ts ++ [t])) else none
  | .extend, some (.l ts), [t] => match lstT t with
    | some us => if T.noBs us && decide (ts.length + us.length ≤ LIM) then some (.l (ts ++ us)) else none
    | none => none
  | .reverse, some (.l ts), [] => some (.l ts.reverse)
  | .clear, some (.l _), [] => some (.l [])
  | .insert, some (.l ts), [.v (.int i), t] => if t.noB && decide (ts.length < LIM) && decide (0 ≤ i ∧ i < 2 ^ 62) then some (.l (ts.take i.toNat ++ t :: ts.drop i.toNat)) else none
  | _, _, _ => none
/-- xs.pop(), xs.pop(i): the thing, the list behind it -/
def popT (o : Option T) (as : List T) : Option (T × T) := match o, as with
  | some (.l ts), [] => match ts[ts.length - 1]? with
    | some t => some (t, .l ts.dropLast)
    | none => none
  | some (.l ts), [.v (.int i)] => if small62 i then (match ixN ts.length i with
    | some k => (match ts[k]? with
      | some t => some (t, .l (ts.eraseIdx k))
      | none => none)
    | none => none) else none
  | _, _ => none
def stoT (o : Option T) (k t : T) : Option T := match o with
  | some (.l ts) => (ixT1 ts.length k).bind fun n => if t.noB then some (.l (ts.set n t)) else none
  | _ => none
def dstoT (o : Option T) (k t : T) : Option T := match o with
  | some (.dc kd ks ts) => if t.noB && keyFits kd k.er && decide (ks.length < LIM) then some (.dc kd (dPut ks ts k.er t).1 (dPut ks ts k.er t).2) else none
  | _ => none
def putFT (ns : List String) (ts : List T) (f : String) (t : T) : List String × List T := match fIx ns f with
  | some k => (ns, ts.set k t)
  | none => (ns ++ [f], ts ++ [t])
def stfT (c : String) (o : Option T) (f : String) (t : T) : Option T := match o with
  | some (.ob c' ns ts) => if c' == c && t.noB && decide (ns.length < 900) then some (.ob c (putFT ns ts f t).1 (putFT ns ts f t).2) else none
  | _ => none
def getI (o : Option T) (k : T) : Option Int := match o with
  | some (.l ts) => match (ixT1 ts.length k).bind fun n => ts[n]? with
    | some (.v (.int x)) => some x
    | _ => none
  | _ => none
def augI (o : BOp) (x : Int) (t : T) : Option Int := match o, t with
  | .add, .v (.int y) => some (x + y)
  | .sub, .v (.int y) => some (x - y)
  | _, _ => none
def augT (o : BOp) (s : Option T) (k : T) (x : Int) (t : T) : Option T := match s with
  | some (.l ts) => (ixT1 ts.length k).bind fun n => (augI o x t).map fun z => .l (ts.set n (.v (.int z)))
  | _ => none
def slotT (Γ : Env) (i : Nat) : Option T := match Γ[i]? with
  | some (some t) => some t
  | _ => none

mutual
def evS (cl : Calls) (con : String → Option D) : S → Env → SR
  | .set i e, Γ => liftE (evE cl con e Γ) fun t Γ1 => if t.noB && decide (i < Γ1.length) then .nx (Γ1.set i (some t)) else .bad
  | .setF i e, Γ => liftE (evE cl con e Γ) fun t Γ1 => match t.fz with
    | some d => if i < Γ1.length then .nx (Γ1.set i (some d)) else .bad
    | none => .bad
  | .setT is e, Γ => liftE (evE cl con e Γ) fun t Γ1 => match seqT t with
    | some ds => if T.noBs ds then (match setSlots Γ1 is ds with
      | some Γ2 => .nx Γ2
      | none => .bad) else .bad
    | none => .bad
  | .sto p ix e, Γ => liftE (evE cl con e Γ) fun t Γ1 => liftI (evPl cl con p Γ1) fun q Γ2 => if isLs Γ2 q then liftE (evE cl con ix Γ2) fun k Γ3 => putΓ Γ3 q (stoT (getΓ Γ3 q) k t) else .bad
  | .dsto p ix e, Γ => liftE (evE cl con e Γ) fun t Γ1 => liftI (evPl cl con p Γ1) fun q Γ2 => if isDs Γ2 q then liftE (evE cl con ix Γ2) fun k Γ3 => putΓ Γ3 q (dstoT (getΓ Γ3 q) k t) else .bad
  | .stf c p f e, Γ => liftE (evE cl con e Γ) fun t Γ1 => liftI (evPl cl con p Γ1) fun q Γ2 => putΓ Γ2 q (stfT c (getΓ Γ2 q) f t)
  | .augV i o e, Γ => match Γ[i]? with
    | some (some (.v (.int x))) => liftE (evE cl con e Γ) fun t Γ1 => putO Γ1 i ((augI o x t).map fun z => .v (.int z))
    | _ => .bad
  | .augS i o ix e, Γ => if isLs Γ (i, []) then liftE (evE cl con ix Γ) fun k Γ1 => match getI (slotT Γ1 i) k with
    | some x => liftE (evE cl con e Γ1) fun t Γ2 => putO Γ2 i (augT o (slotT Γ2 i) k x t)
    | none => .bad
    else .bad
  | .mut m p as, Γ => liftI (evPl cl con p Γ) fun q Γ1 => if isLs Γ1 q then liftI (evEs cl con as Γ1) fun ts Γ2 => putΓ Γ2 q (mutT m (getΓ Γ2 q) ts) else .bad
  | .pop i p as, Γ => liftI (evPl cl con p Γ) fun q Γ1 => if isLs Γ1 q then liftI (evEs cl con as Γ1) fun ts Γ2 => match popT (getΓ Γ2 q) ts with
    | some (t, u) => if i < Γ2.length then .nx ((setΓ Γ2 q u).set i (some t)) else .bad
    | none => .bad
    else .bad
  | .ex e, Γ => liftE (evE cl con e Γ) fun _ Γ1 => .nx Γ1
  | .ife c a b, Γ => liftE (evE cl con c Γ) fun t Γ1 => match t with
    | .v (.bl true) => evSs cl con a Γ1
    | .v (.bl false) => evSs cl con b Γ1
    | _ => .bad
  | .for tg it body, Γ => liftI (evI cl con it Γ) fun ds Γ1 => forL (fun d Γ2 => match bindTg tg d Γ2 with
    | some Γ3 => evSs cl con body Γ3
    | none => .bad) ds Γ1
  | .whl n c body, Γ => whlL (evE cl con c) (evSs cl con body) n Γ
  | .ret io e, Γ => liftE (evE cl con e Γ) fun t Γ1 => if t.noB then .rt t (keepIo io Γ1) else .bad
  | .retN io, Γ => .rt (.v .non) (keepIo io Γ)
  | .pass, Γ => .nx Γ
  | .brk, Γ => .bk Γ
  | .cnt, Γ => .ct Γ
  | .dead, _ => .bad
def evSs (cl : Calls) (con : String → Option D) : Ss → Env → SR
  | .nil, Γ => .nx Γ
  | .cons s ss, Γ => match evS cl con s Γ with
    | .nx Γ1 => evSs cl con ss Γ1
    | r => r
  | .kill is ss, Γ => evSs cl con ss (wipeE Γ is)
end

/-- np parameters, ns slots; io: the parameters that are handed in to be changed -/
structure Fn where
  np : Nat
  ns : Nat
  io : List Nat
  body : Ss
def env0 (ts : List T) (ns : Nat) : Env := ts.map some ++ List.replicate (ns - ts.length) none
def outs (Γ : Env) : List Nat → Option (List T)
  | [] => some []
  | i :: is => match Γ[i]?, outs Γ is with
    | some (some t), some ts => some (t :: ts)
    | _, _ => none
def toCR (io : List Nat) : SR → CR
  | .rt t Γ => match outs Γ io with
    | some os => if t.noB then .ret t os else .bad
    | none => .bad
  | .nx Γ => match outs Γ io with
    | some os => .ret (.v .non) os
    | none => .bad
  | .ex x Γ => match outs Γ io with
    | some os => .ex x os
    | none => .bad
  | _ => .bad
/-- handed in as the def wants it -/
def argOk (io : List Nat) : Nat → List T → Bool
  | _, [] => true
  | i, t :: ts => (match t with
    | .v _ => true
    | t => io.contains i && t.noB) && argOk io (i + 1) ts
def evF (P : String → Option Fn) (con : String → Option D) : Nat → Calls
  | 0, _, _ => .bad
  | k + 1, f, ts => match P f with
    | none => .bad
    | some fn => if ts.length = fn.np ∧ argOk fn.io 0 ts = true then toCR fn.io (evSs (evF P con k) con fn.body (env0 ts fn.ns)) else .bad
end Tv

namespace Tv
open PySem PySem.Spec PyProof.Rows L2

/-! ### does the small tree tell the text's -/
structure CP where
  blk : Bool
  fns : List String
  cls : List String
  mts : List (String × String)
  ats : List (String × String)
  io : List Nat
def visB (sc : Scope) (x : Str) : Bool :=
  match sc.names.lookup x with
  | some .local => true
  | some .cell => true
  | some .free => true
  | _ => false
def glB (sc : Scope) (x : Str) : Bool := decide (sc.names.lookup x = some .globalImplicit)
def stB (sc : Scope) (b : CP) (x : Str) : Bool := decide (sc.names.lookup x = some .local) || (!b.blk && decide (sc.names.lookup x = some .cell))
def chkName (N : List Str) (sc : Scope) (i : Nat) (e : Expr) : Bool :=
  match e with
  | .Name x _ => decide (N[i]? = some x) && visB sc x && !(x == ("__debug__" : Str)) && !(x == ("__classdict__" : Str))
  | _ => false
def isGl (sc : Scope) (n : String) (e : Expr) : Bool :=
  match e with
  | .Name x _ => decide (x = Str.ofString n) && glB sc x
  | _ => false
def chkSt (N : List Str) (sc : Scope) (b : CP) (i : Nat) (e : Expr) : Bool :=
  match e with
  | .Name x _ => decide (N[i]? = some x) && stB sc b x
  | _ => false
def chkSts (N : List Str) (sc : Scope) (b : CP) : List Nat → List Expr → Bool
  | [], [] => true
  | i :: is, e :: es => chkSt N sc b i e && chkSts N sc b is es
  | _, _ => false
def chkTg (N : List Str) (sc : Scope) (b : CP) (tg : Tg) (e : Expr) : Bool :=
  match tg with
  | .nm i => chkSt N sc b i e
  | .tp is => match e with
    | .Tuple es _ _ => chkSts N sc b is es
    | _ => false
def Tg.slots : Tg → List Nat
  | .nm i => [i]
  | .tp is => is
def isTuple : Expr → Bool
  | .Tuple .. => true
  | _ => false
def BOp.op : BOp → Operator
  | .add => .Add | .sub => .Sub | .mul => .Mult | .mod => .Mod | .fdiv => .FloorDiv | .pow => .Pow
def COp.op : COp → CmpOp
  | .eq => .Eq | .ne => .NotEq | .lt => .Lt | .le => .LtE | .gt => .Gt | .ge => .GtE | .isIn => .In | .notIn => .NotIn | .isB => .Is | .ntB => .IsNot
def BF.nm : BF → String
  | .len => "len" | .max => "max" | .min => "min" | .sum => "sum" | .all => "all" | .list => "list" | .tuple => "tuple" | .str => "str" | .int => "int" | .abs => "abs" | .sorted => "sorted"
def BF.ty : BF → Bool
  | .list | .tuple | .str | .int => true
  | _ => false
def MF.nm : MF → String
  | .join => "join" | .find => "find" | .count => "count" | .index => "index"
def Ty.nm : Ty → String
  | .int => "int" | .bool => "bool" | .str => "str" | .list => "list" | .tuple => "tuple" | .dict => "dict"
def notStar : Expr → Bool
  | .Starred .. => false
  | _ => true
def notSet : Expr → Bool
  | .Set .. => false
  | _ => true
def ownP (N : List Str) (own : List Nat) : List (Str × Nat) := own.filterMap fun i => (N[i]?).map fun x => (x, i)

mutual
def chkE (N : List Str) (sc : Scope) (b : CP) : E → Expr → Bool
  | .var i, e => chkName N sc i e
  | .frz i, e => chkName N sc i e
  | .mov i, e => chkName N sc i e
  | .int i, e => match e with
    | .Constant (.int j) _ _ => decide (i = j)
    | _ => false
  | .str s, e => match e with
    | .Constant (.str x) _ _ => decide (x.cps.toList = s) && okS s
    | _ => false
  | .non, e => match e with
    | .Constant .none _ _ => true
    | _ => false
  | .bl c, e => match e with
    | .Constant (.bool d) _ _ => decide (c = d)
    | _ => false
  | .glb x, e => isGl sc x e && !(Str.ofString x == ("__debug__" : Str))
  | .bin o a c, e => match e with
    | .BinOp x op y _ => decide (op = o.op) && chkE N sc b a x && chkE N sc b c y
    | _ => false
  | .neg a, e => match e with
    | .UnaryOp .USub x _ => chkE N sc b a x
    | _ => false
  | .not a, e => match e with
    | .UnaryOp .Not x _ => chkE N sc b a x
    | _ => false
  | .cmp o a c, e => match e with
    | .Compare x [op] [y] _ => decide (op = o.op) && chkE N sc b a x && chkE N sc b c y
    | _ => false
  | .isN a, e => match e with
    | .Compare x [.Is] [.Constant .none _ _] _ => chkE N sc b a x
    | _ => false
  | .notN a, e => match e with
    | .Compare x [.IsNot] [.Constant .none _ _] _ => chkE N sc b a x
    | _ => false
  | .cmp2 o p a c d, e => match e with
    | .Compare x [op, oq] [y, z] _ => decide (op = o.op) && decide (oq = p.op) && chkE N sc b a x && chkE N sc b c y && chkE N sc b d z
    | _ => false
  | .and a c, e => match e with
    | .BoolOp .And (x :: y :: r) q => chkE N sc b a x && (if r.isEmpty then chkE N sc b c y else chkE N sc b c (.BoolOp .And (y :: r) q))
    | _ => false
  | .or a c, e => match e with
    | .BoolOp .Or (x :: y :: r) q => chkE N sc b a x && (if r.isEmpty then chkE N sc b c y else chkE N sc b c (.BoolOp .Or (y :: r) q))
    | _ => false
  | .call f as, e => match e with
    | .Call (.Name x _) (y :: ys) [] _ => decide (x = Str.ofString f) && b.fns.contains f && glB sc x && !(x == ("__debug__" : Str)) && chkEs N sc b as (y :: ys)
    | _ => false
  | .cme c m o as, e => match e with
    | .Call (.Attribute x n ap) ys [] cp => decide (n = Str.ofString m) && decide (ap.endLine = cp.line) && decide (ys.length < 29) && b.mts.contains (c, m) && chkE N sc b o x && chkEs N sc b as ys
    | _ => false
  | .new c as, e => match e with
    | .Call (.Name x _) ys [] _ => decide (x = Str.ofString c) && b.cls.contains c && glB sc x && (x != ("super" : Str)) && !(x == ("__debug__" : Str)) && chkEs N sc b as ys
    | _ => false
  | .lrn a, e => match e with
    | .Call fn [.Call gn [y] [] _] [] _ => isGl sc "list" fn && isGl sc "range" gn && chkE N sc b a y && notStar y
    | _ => false
  | .blt f as, e => match e with
    | .Call fn (y :: ys) [] _ => isGl sc f.nm fn && chkEs N sc b as (y :: ys)
    | _ => false
  | .meth m a c, e => match e with
    | .Call (.Attribute x n ap) [y] [] cp => decide (n = Str.ofString m.nm) && decide (ap.endLine = cp.line) && chkE N sc b a x && chkE N sc b c y
    | _ => false
  | .get d k x, e => match e with
    | .Call (.Attribute y n ap) as [] cp => decide (n = Str.ofString "get") && decide (ap.endLine = cp.line) && chkE N sc b d y && (match as, x with
      | [z], .no => chkE N sc b k z
      | [z, u], .so m => chkE N sc b k z && chkE N sc b m u
      | _, _ => false)
    | _ => false
  | .isi a t, e => match e with
    | .Call fn [x, y] [] _ => isGl sc "isinstance" fn && chkE N sc b a x && isGl sc t.nm y
    | _ => false
  | .ix a i, e => match e with
    | .Subscript x y _ => chkE N sc b a x && chkE N sc b i y
    | _ => false
  | .dix a i, e => match e with
    | .Subscript x y _ => chkE N sc b a x && chkE N sc b i y
    | _ => false
  | .din n k d, e => match e with
    | .Compare x [op] [y] _ => decide (op = (if n then CmpOp.NotIn else CmpOp.In)) && chkE N sc b k x && chkE N sc b d y
    | _ => false
  | .fld a f, e => match e with
    | .Attribute x n _ => decide (n = Str.ofString f) && chkE N sc b a x
    | _ => false
  | .sl a lo hi, e => match e with
    | .Subscript x (.Slice l h none _) _ => chkE N sc b a x && chkO N sc b lo l && chkO N sc b hi h
    | _ => false
  | .rev a, e => match e with
    | .Subscript x (.Slice none none (some (.UnaryOp .USub (.Constant (.int 1) _ _) _)) _) _ => chkE N sc b a x
    | _ => false
  | .lst es, e => match e with
    | .List xs _ => chkEs N sc b es xs
    | _ => false
  | .tup es, e => match e with
    | .Tuple xs _ _ => chkEs N sc b es xs
    | _ => false
  | .dic0 _, e => match e with
    | .Dict [] [] _ => true
    | _ => false
  | .lc own tg it c m, e => match e with
    | .ListComp x [⟨t, iter, ifs, 0⟩] scope _ => chkI N sc b it t iter && decide own.Nodup && blkC N sc scope (ownP N own) && decide ((ownP N own).map (·.2) = own) && chkTg N (relS scope sc) ⟨true, b.fns, b.cls, b.mts, b.ats, b.io⟩ tg t &&
        (tg.slots.all fun i => own.contains i) && (match c, ifs with
          | .no, [] => true
          | .so k, [y] => chkE N (relS scope sc) ⟨true, b.fns, b.cls, b.mts, b.ats, b.io⟩ k y
          | _, _ => false) && chkE N (relS scope sc) ⟨true, b.fns, b.cls, b.mts, b.ats, b.io⟩ m x
    | _ => false
def chkO (N : List Str) (sc : Scope) (b : CP) : OE → Option Expr → Bool
  | .no, none => true
  | .so e, some x => chkE N sc b e x
  | _, _ => false
def chkEs (N : List Str) (sc : Scope) (b : CP) : Es → List Expr → Bool
  | .nil, [] => true
  | .cons e es, x :: xs => chkE N sc b e x && notStar x && chkEs N sc b es xs
  | _, _ => false
def chkI (N : List Str) (sc : Scope) (b : CP) : I → Expr → Expr → Bool
  | .seq m, _, e => chkE N sc b m e && notSet e
  | .rng1 a, _, e => match e with
    | .Call fn [x] [] _ => isGl sc "range" fn && chkE N sc b a x && notStar x
    | _ => false
  | .rng2 a c, _, e => match e with
    | .Call fn [x, y] [] _ => isGl sc "range" fn && chkE N sc b a x && chkE N sc b c y && notStar x && notStar y
    | _ => false
  | .rng3 a c d, _, e => match e with
    | .Call fn [x, y, z] [] _ => isGl sc "range" fn && chkE N sc b a x && chkE N sc b c y && chkE N sc b d z && notStar x && notStar y && notStar z
    | _ => false
  | .enum a, t, e => match e with
    | .Call fn [x] [] _ => isGl sc "enumerate" fn && chkE N sc b a x && notStar x && isTuple t
    | _ => false
  | .zip a c, t, e => match e with
    | .Call fn [x, y] [] _ => isGl sc "zip" fn && chkE N sc b a x && chkE N sc b c y && notStar x && notStar y && isTuple t
    | _ => false
  | .rvd a, _, e => match e with
    | .Call fn [x] [] _ => isGl sc "reversed" fn && chkE N sc b a x && notStar x
    | _ => false
  | .keys m, _, e => chkE N sc b m e && notSet e
  | .keysM a, _, e => match e with
    | .Call (.Attribute x n ap) [] [] cp => decide (n = Str.ofString "keys") && decide (ap.endLine = cp.line) && chkE N sc b a x
    | _ => false
  | .dvals a, _, e => match e with
    | .Call (.Attribute x n ap) [] [] cp => decide (n = Str.ofString "values") && decide (ap.endLine = cp.line) && chkE N sc b a x
    | _ => false
  | .ditems a, t, e => match e with
    | .Call (.Attribute x n ap) [] [] cp => decide (n = Str.ofString "items") && decide (ap.endLine = cp.line) && chkE N sc b a x && isTuple t
    | _ => false
end

/-! ### the wishes -/
structure Glob where
  cl : Calls
  con : String → Option D
  pin : List (Nat × V)
  exr : Exn → Value → Option Addr → Hp → Hp → Prop
  exst : ∀ x c d F F' H, Stb F F' → exr x c d F H → exr x c d F' H

def Post {α β : Type} (K : W.Frag) (G : Glob) (W : WX) (B : Base) (F : FF) (H : Hp) (σ : L2.St) (tmp : List Addr) (rep : FF → Hp → β → α → List Addr → Prop) (r : R α) (Q : β → Hp → Prop) : Prop :=
  match r with
  | .bad => False
  | .ok a Γ => ∀ v F' H' fp, Rel K B F' H' σ Γ (fp ++ tmp) → rep F' H' v a fp → Sub H H' → SubF F F' → Q v H'
  | .ex x Γ => ∀ c d F' H', Rel K B F' H' σ Γ tmp → Sub H H' → SubF F F' → G.exr x c d F' H' → W c d σ H'
section
variable {α β γ δ : Type} {K : W.Frag} {G : Glob} {W : WX} {B : Base} {F F1 : FF} {H H1 : Hp} {σ : L2.St} {Γ : Env} {tmp fp : List Addr} {rep : FF → Hp → β → α → List Addr → Prop} {rep2 : FF → Hp → δ → γ → List Addr → Prop} {r : R α} {Q Q' : β → Hp → Prop}
theorem Post.imp (P : Post K G W B F H σ tmp rep r Q) (h : ∀ v H', Q v H' → Q' v H') : Post K G W B F H σ tmp rep r Q' := by
  cases r with
  | bad => exact P
  | ok a Γ => exact fun v F' H' fp a b c d => h _ _ (P v F' H' fp a b c d)
  | ex x Γ => exact P
theorem Post.later (P : Post K G W B F H σ tmp rep r Q) (hH : Sub H H1) (hF : SubF F F1) : Post K G W B F1 H1 σ tmp rep r Q := by
  cases r with
  | bad => exact P
  | ok a Γ => exact fun v F' H' fp a b c d => P v F' H' fp a b (hH.trans c) (hF.trans d)
  | ex x Γ => exact fun c d F' H' a b e f => P c d F' H' a (hH.trans b) (hF.trans e) f
theorem Post.bind {f : α → Env → R γ} {Q2 : δ → Hp → Prop} (P : Post K G W B F H σ tmp rep2 (r.bind f) Q2) :
    Post K G W B F H σ (fp ++ tmp) rep r (fun v H' => ∃ a Γ' F' fp', Rel K B F' H' σ Γ' (fp' ++ (fp ++ tmp)) ∧ rep F' H' v a fp' ∧ Sub H H' ∧ SubF F F' ∧ Post K G W B F' H' σ tmp rep2 (f a Γ') Q2) := by
  cases r with
  | bad => exact P
  | ok a Γ => exact fun v F' H' fp' h1 h2 h3 h4 => ⟨a, Γ, F', fp', h1, h2, h3, h4, P.later h3 h4⟩
  | ex x Γ => exact fun c d F' H' h1 h2 h3 h4 => P c d F' H' (h1.less fun a => by rw [List.count_append]; omega) h2 h3 h4
end
def TM {α β : Type} (K : W.Frag) (G : Glob) (W : WX) (rep : FF → Hp → β → α → List Addr → Prop) (ev : Env → R α) : L2.St → Hp → (β → Hp → Prop) → Prop :=
  fun σ H Q => ∃ B F Γ tmp, Rel K B F H σ Γ tmp ∧ Post K G W B F H σ tmp rep (ev Γ) Q
abbrev rT (K : W.Frag) : FF → Hp → V → T → List Addr → Prop := fun F H v t fp => RpT K F H v t fp
abbrev rTs (K : W.Frag) : FF → Hp → List V → List T → List Addr → Prop := fun F H v t fp => RpTs K F H v t fp
abbrev TE' (K : W.Frag) (G : Glob) (W : WX) (m : E) : TE := TM K G W (rT K) (evE G.cl G.con m)
abbrev TA' (K : W.Frag) (G : Glob) (W : WX) (m : Es) : TA := TM K G W (rTs K) (evEs G.cl G.con m)

def bltNames : List String := ["len", "max", "min", "sum", "all", "list", "tuple", "str", "int", "abs", "sorted", "isinstance", "bool", "dict", "range", "enumerate", "zip", "reversed"]
/-- what stands for good -/
def stF (F : Hp) : Hp := fun a => match F a with
  | some o => if stab o = true then some o else none
  | none => none
theorem stF_sub (F : Hp) : ∀ a o, stF F a = some o → F a = some o := fun a o e => by
  unfold stF at e
  split at e
  · rename_i u q
    split at e
    · cases e; exact q
    · cases e
  · cases e
theorem stF_stab (F : Hp) : ∀ a o, stF F a = some o → stab o = true := fun a o e => by
  unfold stF at e
  split at e
  · split at e
    · rename_i h; cases e; exact h
    · cases e
  · cases e
theorem stF_stb (F : Hp) : Stb F (stF F) := fun a o e s => by
  unfold stF; rw [e]; dsimp only; rw [if_pos s]
/-- the heap but for what is handed in -/
def hideA (H : Hp) (fs : List Addr) : Hp := fun a => if a ∈ fs then none else H a
/-- the things at some places -/
def pick {α : Type} (xs : List α) : List Nat → Option (List α)
  | [] => some []
  | i :: is => match xs[i]?, pick xs is with
    | some x, some r => some (x :: r)
    | _, _ => none
/-- a call's promise: what the small run says. vs: the arguments, ts: what they are, fs: what of them is handed in to be changed (at the places io) -/
def spM (K : W.Frag) (G : Glob) (io : List Nat) (f : String) : Sp := fun vs H Q E => ∃ F0 ts fs, Sub F0 (hideA H fs) ∧ Stb H F0 ∧ RpTs K ⟨F0, stF F0⟩ H vs ts fs ∧ T.noBs ts = true ∧ (∀ a, fs.count a ≤ 1) ∧ (∀ a ∈ fs, H a ≠ none ∧ ∀ o u, H a ≠ some (.frz o u)) ∧
  (match G.cl f ts with
  | .bad => False
  | .ret t os => ∀ v F' H' fp vo fo, Sub (hideA H fs) H' → CallEnd (hideA H fs) F0 F' H' → RpT K F' H' v t fp → t.noB = true → pick vs io = some vo → RpTs K F' H' vo os fo → T.noBs os = true → (∀ a, (fp ++ fo).count a ≤ 1) → (∀ a ∈ fp ++ fo, F'.f a = none ∧ hideA H fs a = none ∧ H' a ≠ none) → Q v H'
  | .ex x os => ∀ c d F' H' vo fo, Sub (hideA H fs) H' → CallEnd (hideA H fs) F0 F' H' → pick vs io = some vo → RpTs K F' H' vo os fo → T.noBs os = true → (∀ a, fo.count a ≤ 1) → (∀ a ∈ fo, F'.f a = none ∧ hideA H fs a = none ∧ H' a ≠ none) → G.exr x c d F' H' → E c d H')
structure FnAt0 (P : Program) (w : World) (K : W.Frag) (mg : Str → Option Value) (base : Heap) (f : Addr) (k : Nat) (sp : Sp) : Prop where
  ok : ∃ fd ps, PySem.W.keepIn K (.ref f) = true ∧ L2.Binds K fd ps [] ∧ FnOk P w K mg base (L2.CX P w) k f fd ps sp
abbrev FnAt (X : Cx) (f : Addr) (k : Nat) (sp : Sp) : Prop := FnAt0 X.prog X.w X.K X.mg X.base f k sp
/-- a context in which the small tree tells what runs -/
structure Gd (X : Cx) (G : Glob) (W : WX) (b : CP) : Prop where
  nd : X.N.Nodup
  calm : X.calm = true
  own : PassesOwn (model X.prog X.w) X.A X.env X.xe
  tk : Takes X W
  hu : X.A.units + 66 < cLine
  st : b.blk = false → ∀ x, X.fn x = true
  con : ∀ x d, G.con x = some d → ∃ u v, X.mg (Str.ofString x) = some u ∧ RelV v u ∧ RpD X.K (fun _ => none) v d
  blt : ∀ x ∈ bltNames, X.mg (Str.ofString x) = none
  fn : ∀ f ∈ b.fns, ∃ a k, X.mg (Str.ofString f) = some (.ref a) ∧ FnAt X a k (spM X.K G [] f) ∧ Room k X.A
  cls : ∀ c ∈ b.cls, ∃ f k, X.mg (Str.ofString c) = some (.ref (clsA X.K c)) ∧ Cls X.K (clsA X.K c) ∧ Mk X.K (clsA X.K c) f ∧ FnAt X f k (spM X.K G [0] (c ++ ".__init__")) ∧ Room (k + 1) X.A
  mts : ∀ p ∈ b.mts, ∃ f k, Meth X.K (clsA X.K p.1) (Str.ofString p.2) f ∧ FnAt X f k (spM X.K G [] (p.1 ++ "." ++ p.2)) ∧ Room k X.A ∧ Cls X.K (clsA X.K p.1)
  ats : ∀ p ∈ b.ats, NoAttr X.K (clsA X.K p.1) (Str.ofString p.2)
  pin : ∀ p ∈ G.pin, p.1 ∈ b.io
theorem PE.imp {X : Cx} {e : Expr} {t t' : TE} (h : PE X e t) (i : ∀ σ H Q, t' σ H Q → t σ H Q) : PE X e t' := ⟨fun pins s σ H Q I q => h.run pins s σ H Q I (i σ H Q q)⟩
theorem PT.imp {X : Cx} {e : Expr} {t t' : TT} (h : PT X e t) (i : ∀ σ H Q, t' σ H Q → t σ H Q) : PT X e t' := ⟨fun pins s σ H Q I q => h.run pins s σ H Q I (i σ H Q q)⟩
theorem PW.imp {X : Cx} {e : Expr} {t t' : TT} (h : PW X e t) (i : ∀ σ H Q, t' σ H Q → t σ H Q) : PW X e t' := ⟨fun w pins s σ H Q I q => h.run w pins s σ H Q I (i σ H Q q)⟩
theorem PA.imp {X : Cx} {e : List Expr} {t t' : TA} (h : PA X e t) (i : ∀ σ H Q, t' σ H Q → t σ H Q) : PA X e t' := ⟨fun p pins s σ H Q I q => h.run p pins s σ H Q I (i σ H Q q)⟩
theorem PI.imp {X : Cx} {tg e : Expr} {t t' : TI} (h : PI X tg e t) (i : ∀ σ H Q, t' σ H Q → t σ H Q) : PI X tg e t' := ⟨fun pins s σ H Q I q => h.run pins s σ H Q I (i σ H Q q)⟩
theorem PO.imp {X : Cx} {e : Option Expr} {t t' : TO} (h : PO X e t) (i : ∀ σ H Q, t' σ H Q → t σ H Q) : PO X e t' := ⟨fun pins s σ H Q I q => h.run pins s σ H Q I (i σ H Q q)⟩

/-- the promise of a small tree: as a value, as a test, as a part of and, or -/
structure Ok (G : Glob) (m : E) : Prop where
  pe : ∀ X W b e, Gd X G W b → chkE X.N X.env.scope b m e = true → PE X e (TE' X.K G W m)
  pt : ∀ X W b e, Gd X G W b → chkE X.N X.env.scope b m e = true → PT X e (tB (TE' X.K G W m))
  pw : ∀ X W b op vs pos, Gd X G W b → chkE X.N X.env.scope b m (.BoolOp op vs pos) = true → PW X (.BoolOp op vs pos) (tB (TE' X.K G W m))
def OkO (G : Glob) (m : OE) : Prop := ∀ X W b e, Gd X G W b → chkO X.N X.env.scope b m e = true → PO X e (TM X.K G W (fun _ _ v a fp => v = a ∧ fp = []) (evO G.cl G.con m))
def OkEs (G : Glob) (m : Es) : Prop := ∀ X W b e, Gd X G W b → chkEs X.N X.env.scope b m e = true → PA X e (TA' X.K G W m)

section
variable {G : Glob}
theorem fz_ok {K : W.Frag} {B : Base} {F : FF} {H : Hp} {σ : L2.St} {Γ : Env} {tmp f : List Addr} {t u : T} {x : V} (e : t.fz = some u) (r : Rel K B F H σ Γ tmp) (h : RpT K F H x t f) : RpT K (F.addF H f) H x u [] ∧ u.noB = true := by
  unfold T.fz at e
  split at e
  · rename_i i; cases e
    exact ⟨.v ((r.im (r.rd h) i).mono (addH_sub r.sub)), rfl⟩
  · split at e
    · rename_i c; cases e
      exact ⟨.w (h.freezeN (r.nsub.trans r.sub) r.stn c), rfl⟩
    · split at e
      · rename_i n; cases e
        exact ⟨.v (h.freeze r.sub r.nsub n), rfl⟩
      · cases e
/-- a value that is in hand -/
theorem Post.now {K : W.Frag} {W : WX} {B : Base} {F : FF} {H : Hp} {σ : L2.St} {Γ : Env} {tmp fp : List Addr} {t : T} {Q : VK} {v : V} {F' : FF} {H' : Hp} (P : Post K G W B F H σ tmp (rT K) (.ok t Γ) Q) (r : Rel K B F' H' σ Γ (fp ++ tmp)) (rt : RpT K F' H' v t fp) (hH : Sub H H') (hF : SubF F F') : Q v H' := P v F' H' fp r rt hH hF
theorem Post.flat {K : W.Frag} {W : WX} {B : Base} {F : FF} {H : Hp} {σ : L2.St} {Γ : Env} {tmp fp : List Addr} {d : D} {Q : VK} {v : V} (P : Post K G W B F H σ tmp (rT K) (.ok (.v d) Γ) Q) (r : Rel K B F H σ Γ (fp ++ tmp)) (rt : RpD K F v d) : Q v H :=
  P v F H [] (r.less fun a => by rw [List.count_append, List.count_append]; simp) (.v rt) Sub.refl SubF.refl
/-- other forms than and, or: no part of them -/
theorem pw_no {m : E} (h : ∀ N sc b op vs pos, chkE N sc b m (.BoolOp op vs pos) = false) : ∀ X W b op vs pos, Gd X G W b → chkE X.N X.env.scope b m (.BoolOp op vs pos) = true → PW X (.BoolOp op vs pos) (tB (TE' X.K G W m)) := by
  intro X W b op vs pos _ c
  rw [h] at c; cases c
theorem tB_of {X : Cx} {e : Expr} {t : TE} (h : PE X e t) (he : ∀ whole, isTrue e X.env whole = (do let v ← whole; standAt e.pos; holding [v] (truthy v))) : PT X e (tB t) := pt_val h he
theorem vis_of {sc : Scope} {x : Str} (h : visB sc x = true) : Vis sc x := by
  unfold visB at h
  split at h
  · rename_i e; exact .inl e
  · rename_i e; exact .inr (.inl e)
  · rename_i e; exact .inr (.inr e)
  · cases h
theorem name_of {X : Cx} {i : Nat} {e : Expr} (h : chkName X.N X.env.scope i e = true) : ∃ x pos, e = .Name x pos ∧ PE X e (tVar i) := by
  unfold chkName at h
  split at h
  · rename_i x pos
    simp only [Bool.and_eq_true, decide_eq_true_eq, Bool.not_eq_true'] at h
    obtain ⟨⟨⟨h1, h2⟩, h3⟩, h4⟩ := h
    exact ⟨x, pos, rfl, pe_var h1 (vis_of h2) h3 h4⟩
  · cases h
theorem getσ {K : W.Frag} {B : Base} {F : FF} {H : Hp} {σ : L2.St} {Γ : Env} {tmp : List Addr} {i : Nat} {t : T} (r : Rel K B F H σ Γ tmp) (e : Γ[i]? = some (some t)) : ∃ x f, σ[i]? = some (some x) ∧ RpT K F H x t f ∧ t.noB = true := r.get e
theorem ok_var (i : Nat) : Ok G (.var i) := by
  have pe : ∀ X W b e, Gd X G W b → chkE X.N X.env.scope b (.var i) e = true → PE X e (TE' X.K G W (.var i)) := by
    intro X W b e g c
    obtain ⟨x, pos, rfl, p⟩ := name_of (show chkName X.N X.env.scope i e = true from c)
    refine PE.imp p fun σ H Q h => ?_
    obtain ⟨B, F, Γ, tmp, rel, P⟩ := h
    simp only [evE] at P
    split at P
    · rename_i t e
      obtain ⟨v, f, hv, rt, nb⟩ := rel.get e
      refine ⟨v, hv, ?_⟩
      have rd := rel.rd rt
      have bb : RpT X.K F H v (subB t.er) [] := by
        unfold subB
        split
        · rename_i i; exact .v (rel.im rd i)
        · exact .b rd
      cases t with
      | v d =>
        cases rt with
        | v rd => exact P v F H [] (by simpa using rel) (.v rd) Sub.refl SubF.refl
      | w d =>
        cases rt with
        | w rd => exact P v F H [] (by simpa using rel) (.w rd) Sub.refl SubF.refl
      | b d => cases nb
      | l ts => exact P v F H [] (by simpa using rel) bb Sub.refl SubF.refl
      | tp ts => exact P v F H [] (by simpa using rel) bb Sub.refl SubF.refl
      | dc t0 ks ts => exact P v F H [] (by simpa using rel) bb Sub.refl SubF.refl
      | ob c ns ts => exact P v F H [] (by simpa using rel) bb Sub.refl SubF.refl
    · exact P.elim
  refine ⟨pe, fun X W b e g c => ?_, pw_no fun N sc b op vs pos => rfl⟩
  obtain ⟨x, pos, rfl, _⟩ := name_of (show chkName X.N X.env.scope i e = true from c)
  exact tB_of (pe X W b _ g c) fun _ => rfl
theorem ok_frz (i : Nat) : Ok G (.frz i) := by
  have pe : ∀ X W b e, Gd X G W b → chkE X.N X.env.scope b (.frz i) e = true → PE X e (TE' X.K G W (.frz i)) := by
    intro X W b e g c
    obtain ⟨x, pos, rfl, p⟩ := name_of (show chkName X.N X.env.scope i e = true from c)
    refine PE.imp p fun σ H Q h => ?_
    obtain ⟨B, F, Γ, tmp, rel, P⟩ := h
    simp only [evE] at P
    split at P
    · rename_i t e
      obtain ⟨v, f, hv, rt, nb, rel2⟩ := rel.take e
      refine ⟨v, hv, ?_⟩
      split at P
      · rename_i hf
        have hf0 : f = [] := by cases rt <;> first | rfl | cases hf
        subst hf0
        exact P v F H [] (by simpa using rel) rt Sub.refl SubF.refl
      · split at P
        · rename_i u eu
          obtain ⟨ru, nu⟩ := fz_ok eu rel2 rt
          have r3 := rel2.freezeTmp (f1 := f) (g := tmp) fun a => by rw [List.count_append]; exact Nat.le_refl _
          have r4 := r3.putBack (f1 := []) (tmp := tmp) ru nu hv
          rw [List.set_set] at r4
          exact P v _ H [] (by simpa using r4) ru Sub.refl (addF_sub rel.sub rel.nsub)
        · exact P.elim
    · exact P.elim
  refine ⟨pe, fun X W b e g c => ?_, pw_no fun N sc b op vs pos => rfl⟩
  obtain ⟨x, pos, rfl, _⟩ := name_of (show chkName X.N X.env.scope i e = true from c)
  exact tB_of (pe X W b _ g c) fun _ => rfl
theorem ok_mov (i : Nat) : Ok G (.mov i) := by
  have pe : ∀ X W b e, Gd X G W b → chkE X.N X.env.scope b (.mov i) e = true → PE X e (TE' X.K G W (.mov i)) := by
    intro X W b e g c
    obtain ⟨x, pos, rfl, p⟩ := name_of (show chkName X.N X.env.scope i e = true from c)
    refine PE.imp p fun σ H Q h => ?_
    obtain ⟨B, F, Γ, tmp, rel, P⟩ := h
    simp only [evE] at P
    split at P
    · rename_i t e
      obtain ⟨v, f, hv, rt, nb, rel2⟩ := rel.take e
      exact ⟨v, hv, P v F H f rel2 rt Sub.refl SubF.refl⟩
    · exact P.elim
  refine ⟨pe, fun X W b e g c => ?_, pw_no fun N sc b op vs pos => rfl⟩
  obtain ⟨x, pos, rfl, _⟩ := name_of (show chkName X.N X.env.scope i e = true from c)
  exact tB_of (pe X W b _ g c) fun _ => rfl
/-- a constant -/
theorem ok_const {m : E} {d : D} {v : V} (hev : ∀ cl con Γ, evE cl con m Γ = .ok (.v d) Γ) (hd : ∀ K F, RpD K F v d)
    (hc : ∀ N sc b e, chkE N sc b m e = true → ∃ c k pos, e = .Constant c k pos ∧ ∀ X : Cx, PE X e (tC v)) : Ok G m := by
  have pe : ∀ X W b e, Gd X G W b → chkE X.N X.env.scope b m e = true → PE X e (TE' X.K G W m) := by
    intro X W b e g c
    obtain ⟨k, n, pos, rfl, p⟩ := hc _ _ _ _ c
    refine PE.imp (p X) fun σ H Q h => ?_
    obtain ⟨B, F, Γ, tmp, rel, P⟩ := h
    rw [hev] at P
    exact P v F H [] (by simpa using rel) (.v (hd _ _)) Sub.refl SubF.refl
  refine ⟨pe, fun X W b e g c => ?_, fun X W b op vs pos g c => ?_⟩
  · obtain ⟨k, n, pos, rfl, _⟩ := hc _ _ _ _ c
    exact tB_of (pe X W b _ g c) fun _ => rfl
  · obtain ⟨k, n, pos, z, _⟩ := hc _ _ _ _ c
    cases z
theorem ok_int (i : Int) : Ok G (.int i) := by
  refine ok_const (d := .int i) (v := .int i) (fun _ _ _ => rfl) (fun _ _ => .int i) fun N sc b e c => ?_
  unfold chkE at c
  split at c
  · have c := of_decide_eq_true c
    subst c
    exact ⟨_, _, _, rfl, fun X => pe_int⟩
  · cases c
theorem ok_bl (i : Bool) : Ok G (.bl i) := by
  refine ok_const (d := .bl i) (v := .bl i) (fun _ _ _ => rfl) (fun _ _ => .bl i) fun N sc b e c => ?_
  unfold chkE at c
  split at c
  · have c := of_decide_eq_true c
    subst c
    exact ⟨_, _, _, rfl, fun X => pe_bl⟩
  · cases c
theorem ok_non : Ok G .non := by
  refine ok_const (d := .non) (v := .non) (fun _ _ _ => rfl) (fun _ _ => .non) fun N sc b e c => ?_
  unfold chkE at c
  split at c
  · exact ⟨_, _, _, rfl, fun X => pe_non⟩
  · cases c
theorem ok_str (s : List Nat) : Ok G (.str s) := by
  by_cases hs : okS s = true
  · refine ok_const (d := .str s) (v := .str ⟨s.toArray⟩) (fun _ _ _ => rfl) (fun _ _ => ?_) fun N sc b e c => ?_
    · have := RpD.str (K := ‹_›) (F := ‹_›) ⟨s.toArray⟩ (by simpa using hs)
      simpa using this
    · unfold chkE at c
      split at c
      · simp only [Bool.and_eq_true, decide_eq_true_eq] at c
        obtain ⟨c, _⟩ := c
        subst c
        exact ⟨_, _, _, rfl, fun X => by simpa using pe_str⟩
      · cases c
  · have no : ∀ N sc b e, chkE N sc b (.str s) e = false := fun N sc b e => by
      unfold chkE
      split
      · simp [hs]
      · rfl
    exact ⟨fun X W b e g c => absurd ((no _ _ _ _).symm.trans c) Bool.false_ne_true, fun X W b e g c => absurd ((no _ _ _ _).symm.trans c) Bool.false_ne_true, fun X W b op vs pos g c => absurd ((no _ _ _ _).symm.trans c) Bool.false_ne_true⟩
theorem isGl_of {X : Cx} {n : String} {e : Expr} (h : isGl X.env.scope n e = true) : ∃ pos, e = .Name (Str.ofString n) pos ∧ Gl X (Str.ofString n) := by
  unfold isGl at h
  split at h
  · simp only [Bool.and_eq_true, decide_eq_true_eq] at h
    obtain ⟨h1, h2⟩ := h
    subst h1
    exact ⟨_, rfl, (of_decide_eq_true h2 : X.env.scope.names.lookup (Str.ofString n) = some .globalImplicit)⟩
  · cases h
theorem ok_glb (x : String) : Ok G (.glb x) := by
  have pe : ∀ X W b e, Gd X G W b → chkE X.N X.env.scope b (.glb x) e = true → PE X e (TE' X.K G W (.glb x)) := by
    intro X W b e g c
    unfold chkE at c
    simp only [Bool.and_eq_true, Bool.not_eq_true'] at c
    obtain ⟨pos, rfl, hg⟩ := isGl_of c.1
    refine ⟨fun pins s σ H Q I h => ?_⟩
    obtain ⟨B, F, Γ, tmp, rel, P⟩ := h
    simp only [evE] at P
    split at P
    · rename_i d e
      obtain ⟨u, v, hm, hr, rd⟩ := g.con x d e
      refine (pe_glob hg hm hr c.2).run pins s σ H Q I ?_
      exact P v F H [] (by simpa using rel) (.v (rd.mono fun _ _ z => by cases z)) Sub.refl SubF.refl
    · exact P.elim
  refine ⟨pe, fun X W b e g c => ?_, pw_no fun N sc b op vs pos => rfl⟩
  have c' := c
  unfold chkE at c'
  simp only [Bool.and_eq_true] at c'
  obtain ⟨pos, rfl, hg⟩ := isGl_of c'.1
  exact tB_of (pe X W b _ g c) fun _ => rfl
end
end Tv

namespace Tv
open PySem PySem.Spec PyProof.Rows L2

section
variable {K : W.Frag} {F F' : FF} {H H' : Hp} {x y : V} {t u : T} {f g : List Addr} {d : D} {ds : List D} {ts : List T} {xs : List V}
theorem RpDs.toV : ∀ {xs : List V} {ds : List D}, RpDs K F.f xs ds → RpTs K F H xs (ds.map .v) []
  | _, _, .nil => .nil
  | _, _, .cons a b => RpTs.cons (f := []) (g := []) (.v a) (RpDs.toV b)
theorem RpD.flat {A A' : Hp} (h : d.flat = true) (r : RpD K A x d) : RpD K A' x d := by
  cases r with
  | non => exact .non
  | bl b => exact .bl b
  | int i => exact .int i
  | str z e => exact .str z e
  | _ => cases h
theorem RpDs.flat {A A' : Hp} : ∀ {xs : List V} {ds : List D}, ds.all D.flat = true → RpDs K A xs ds → RpDs K A' xs ds
  | _, _, _, .nil => .nil
  | _, _, h, .cons a b => by
    simp at h
    exact .cons (a.flat h.1) (RpDs.flat (by simpa using h.2) b)
theorem RpD.subW (hN : Sub F.n F.f) (r : RpD K F.n x d) : RpT K F H x (subW d) [] := by
  unfold Tv.subW
  split
  · exact .v (r.mono hN)
  · exact .w r
theorem RpDs.toW (hN : Sub F.n F.f) : ∀ {xs : List V} {ds : List D}, RpDs K F.n xs ds → RpTs K F H xs (ds.map Tv.subW) []
  | _, _, .nil => .nil
  | _, _, .cons a b => RpTs.cons (f := []) (g := []) (a.subW hN) (RpDs.toW hN b)
theorem RpD.subB (st : Stb H F.f) (r : RpD K H x d) : RpT K F H x (subB d) [] := by
  unfold Tv.subB
  split
  · rename_i h; exact .v (r.imm st h)
  · exact .b r
theorem RpDs.toB (st : Stb H F.f) : ∀ {xs : List V} {ds : List D}, RpDs K H xs ds → RpTs K F H xs (ds.map Tv.subB) []
  | _, _, .nil => .nil
  | _, _, .cons a b => RpTs.cons (f := []) (g := []) (a.subB st) (RpDs.toB st b)
theorem RpTs.length : ∀ {xs : List V} {ts : List T} {f : List Addr}, RpTs K F H xs ts f → xs.length = ts.length
  | _, _, _, .nil => rfl
  | _, _, _, .cons _ r => by simp [RpTs.length r]
theorem RpTs.append : ∀ {xs ys : List V} {ts us : List T} {f g : List Addr}, RpTs K F H xs ts f → RpTs K F H ys us g → RpTs K F H (xs ++ ys) (ts ++ us) (f ++ g)
  | _, _, _, _, _, _, .nil, r => r
  | _, _, _, _, _, _, .cons a b, r => by
    have := RpTs.append b r
    rw [List.append_assoc]
    exact .cons a this
theorem RpTs.ints : ∀ (ns : List Int), RpTs K F H (ns.map V.int) (ns.map fun n => T.v (.int n)) []
  | [] => .nil
  | n :: ns => RpTs.cons (f := []) (g := []) (.v (.int n)) (RpTs.ints ns)
end
/-- what Rel tells of the heaps -/
structure Hs (F : FF) (H : Hp) : Prop where
  sub : Sub F.f H
  nsub : Sub F.n F.f
  stf : Stb H F.f
theorem Rel.hs {K : W.Frag} {B : Base} {F : FF} {H : Hp} {σ : L2.St} {Γ : Env} {tmp : List Addr} (r : Rel K B F H σ Γ tmp) : Hs F H := ⟨r.sub, r.nsub, r.stf⟩
section
variable {K : W.Frag} {F F' : FF} {H H' : Hp} {x y : V} {t u : T} {f g : List Addr} {d : D} {ds : List D} {ts : List T} {xs : List V}
theorem asL_ok (e : asL t = some ts) (hF : Hs F H) (r : RpT K F H x t f) : ∃ a xs g, x = .ref a ∧ H a = some (.lst xs) ∧ RpTs K F H xs ts g ∧ ∀ c, g.count c ≤ f.count c := by
  unfold asL at e
  split at e
  · cases e
    cases r with | v r => cases r with | lst h r => exact ⟨_, _, [], rfl, hF.sub.eq h rfl, r.toV, fun c => by simp⟩
  · cases e
    cases r with | w r => cases r with | lst h r => exact ⟨_, _, [], rfl, (hF.nsub.trans hF.sub).eq h rfl, r.toW hF.nsub, fun c => by simp⟩
  · cases e
    cases r with | b r => cases r with | lst h r => exact ⟨_, _, [], rfl, h, r.toB hF.stf, fun c => by simp⟩
  · cases e
    cases r with | l h r => exact ⟨_, _, _, rfl, h, r, fun c => by rw [List.count_cons]; omega⟩
  · cases e
theorem lOnly_ok (e : lOnly t = some ts) (hF : Hs F H) (r : RpT K F H x t f) : ∃ a xs g, x = .ref a ∧ SqL K H a xs ∧ RpTs K F H xs ts g ∧ ∀ c, g.count c ≤ f.count c := by
  unfold lOnly at e
  split at e
  · cases e
    cases r with | v r => cases r with | lst h r => exact ⟨_, _, [], rfl, .of (hF.sub.eq h rfl), r.toV, fun c => by simp⟩
  · cases e
    cases r with | w r => cases r with | lst h r => exact ⟨_, _, [], rfl, .of ((hF.nsub.trans hF.sub).eq h rfl), r.toW hF.nsub, fun c => by simp⟩
  · cases e
    cases r with | b r => cases r with | lst h r => exact ⟨_, _, [], rfl, .of h, r.toB hF.stf, fun c => by simp⟩
  · cases e
    cases r with | l h r => exact ⟨_, _, _, rfl, .of h, r, fun c => by rw [List.count_cons]; omega⟩
  · cases e
    cases r with | v r => cases r with | scr h => exact ⟨_, _, [], rfl, hF.sub.sqL h, RpTs.ints _, fun c => by simp⟩
  · cases e
    cases r with | w r => cases r with | scr h => exact ⟨_, _, [], rfl, (hF.nsub.trans hF.sub).sqL h, RpTs.ints _, fun c => by simp⟩
  · cases e
    cases r with | b r => cases r with | scr h => exact ⟨_, _, [], rfl, h, RpTs.ints _, fun c => by simp⟩
  · cases e
theorem asQ_ok (e : asQ t = some ts) (hF : Hs F H) (r : RpT K F H x t f) : ∃ a xs g, x = .ref a ∧ (SqL K H a xs ∨ SqT K H a xs) ∧ RpTs K F H xs ts g ∧ ∀ c, g.count c ≤ f.count c := by
  unfold asQ at e
  split at e
  · cases e
    cases r with | v r => cases r with | lst h r => exact ⟨_, _, [], rfl, .inl (.of (hF.sub.eq h rfl)), r.toV, fun c => by simp⟩
  · cases e
    cases r with | w r => cases r with | lst h r => exact ⟨_, _, [], rfl, .inl (.of ((hF.nsub.trans hF.sub).eq h rfl)), r.toW hF.nsub, fun c => by simp⟩
  · cases e
    cases r with | b r => cases r with | lst h r => exact ⟨_, _, [], rfl, .inl (.of h), r.toB hF.stf, fun c => by simp⟩
  · cases e
    cases r with | l h r => exact ⟨_, _, _, rfl, .inl (.of h), r, fun c => by rw [List.count_cons]; omega⟩
  · cases e
    cases r with | v r => cases r with | tup h r => exact ⟨_, _, [], rfl, .inr (.of (hF.sub.eq h rfl)), r.toV, fun c => by simp⟩
  · cases e
    cases r with | w r => cases r with | tup h r => exact ⟨_, _, [], rfl, .inr (.of ((hF.nsub.trans hF.sub).eq h rfl)), r.toW hF.nsub, fun c => by simp⟩
  · cases e
    cases r with | b r => cases r with | tup h r => exact ⟨_, _, [], rfl, .inr (.of h), r.toB hF.stf, fun c => by simp⟩
  · cases e
    cases r with | tp h r => exact ⟨_, _, _, rfl, .inr (.of ((hF.nsub.trans hF.sub).eq h rfl)), r, fun c => Nat.le_refl _⟩
  · cases e
    cases r with | v r => cases r with | scr h => exact ⟨_, _, [], rfl, .inl (hF.sub.sqL h), RpTs.ints _, fun c => by simp⟩
  · cases e
    cases r with | v r => cases r with | ktp h r => exact ⟨_, _, [], rfl, .inr (hF.sub.sqT h), r.toV, fun c => by simp⟩
  · cases e
    cases r with | w r => cases r with | scr h => exact ⟨_, _, [], rfl, .inl ((hF.nsub.trans hF.sub).sqL h), RpTs.ints _, fun c => by simp⟩
  · cases e
    cases r with | w r => cases r with | ktp h r => exact ⟨_, _, [], rfl, .inr ((hF.nsub.trans hF.sub).sqT h), r.toW hF.nsub, fun c => by simp⟩
  · cases e
    cases r with | b r => cases r with | scr h => exact ⟨_, _, [], rfl, .inl h, RpTs.ints _, fun c => by simp⟩
  · cases e
    cases r with | b r => cases r with | ktp h r => exact ⟨_, _, [], rfl, .inr h, r.toB hF.stf, fun c => by simp⟩
  · cases e
theorem dicQ_ok {p : Bool × List D × List T} (e : dicQ t = some p) (hF : Hs F H) (r : RpT K F H x t f) : ∃ a u xs g, x = .ref a ∧ Rd H a u ∧ DH p.1 u p.2.1 xs ∧ RpTs K F H xs p.2.2 g ∧ ∀ c, g.count c ≤ f.count c := by
  unfold dicQ at e
  split at e
  · cases e
    cases r with | v r => cases r with | dct h q r => exact ⟨_, _, _, [], rfl, hF.sub.rd h, q, r.toV, fun c => by simp⟩
  · cases e
    cases r with | w r => cases r with | dct h q r => exact ⟨_, _, _, [], rfl, (hF.nsub.trans hF.sub).rd h, q, r.toW hF.nsub, fun c => by simp⟩
  · cases e
    cases r with | b r => cases r with | dct h q r => exact ⟨_, _, _, [], rfl, h, q, r.toB hF.stf, fun c => by simp⟩
  · cases e
    cases r with | dc h q r => exact ⟨_, _, _, _, rfl, h, q, r, fun c => by rw [List.count_cons]; omega⟩
  · cases e
theorem objQ_ok {p : String × List String × List T} (e : objQ t = some p) (hF : Hs F H) (r : RpT K F H x t f) : ∃ a dx fs g, x = .ref a ∧ ObjC K p.1 p.2.1 ∧ H a = some (.ins (clsA K p.1) dx fs) ∧ fs.map Prod.fst = p.2.1.map Str.ofString ∧ RpTs K F H (fs.map Prod.snd) p.2.2 g ∧ ∀ c, g.count c ≤ f.count c := by
  unfold objQ at e
  split at e
  · cases e
    cases r with | v r => cases r with | obj hc h n xx r => subst xx; exact ⟨_, _, _, [], rfl, hc, hF.sub.eq h rfl, n, r.toV, fun c => by simp⟩
  · cases e
    cases r with | w r => cases r with | obj hc h n xx r => subst xx; exact ⟨_, _, _, [], rfl, hc, (hF.nsub.trans hF.sub).eq h rfl, n, r.toW hF.nsub, fun c => by simp⟩
  · cases e
    cases r with | b r => cases r with | obj hc h n xx r => subst xx; exact ⟨_, _, _, [], rfl, hc, h, n, r.toB hF.stf, fun c => by simp⟩
  · cases e
    cases r with | ob hc h n xx r => subst xx; exact ⟨_, _, _, _, rfl, hc, h, n, r, fun c => by rw [List.count_cons]; omega⟩
  · cases e
end

section
variable {K : W.Frag} {G : Glob} {W : WX} {B : Base} {F : FF} {H : Hp} {σ : L2.St} {Γ : Env} {tmp tmp2 fs : List Addr} {ts : List T} {xs : List V} {Q : VK}
/-- a new list in hand -/
theorem Post.newL (P : Post K G W B F H σ tmp (rT K) (.ok (.l ts) Γ) Q) (rel : Rel K B F H σ Γ tmp2) (r : RpTs K F H xs ts fs) (hc : ∀ c, fs.count c + tmp.count c ≤ tmp2.count c) : ∀ p, H p = none → Q (.ref p) (upd H p (.lst xs)) := fun p hp =>
  P (.ref p) F (upd H p (.lst xs)) (p :: fs) ((rel.less (tmp' := fs ++ tmp) fun a => by rw [List.count_append]; exact hc a).alloc hp rfl) (.l upd_same (r.grow SubF.refl (upd_sub hp))) (upd_sub hp) SubF.refl
theorem Post.newT (P : Post K G W B F H σ tmp (rT K) (.ok (mkTp ts) Γ) Q) (rel : Rel K B F H σ Γ tmp2) (r : RpTs K F H xs ts fs) (hc : ∀ c, fs.count c + tmp.count c ≤ tmp2.count c) : ∀ p, H p = none → Q (.ref p) (upd H p (.tup xs)) := fun p hp => by
  obtain ⟨r1, sF⟩ := (rel.less (tmp' := fs ++ tmp) fun a => by rw [List.count_append]; exact hc a).allocS (o := .tup xs) hp rfl
  have r' := r.grow sF (upd_sub (o := .tup xs) hp)
  unfold mkTp at P
  split at P
  · rename_i i
    have rd := (r1.rds r').imm r1.stf i
    exact P (.ref p) _ _ [] (r1.less fun c => by simp only [List.nil_append, List.count_append]; omega) (.v (.tup (show upd F.f p (.tup xs) p = _ from upd_same) rd)) (upd_sub hp) sF
  · exact P (.ref p) _ _ fs r1 (.tp (show upd F.n p (.tup xs) p = _ from upd_same) r') (upd_sub hp) sF
theorem Post.flatv {d : D} {v : V} (P : Post K G W B F H σ tmp (rT K) (.ok (.v d) Γ) Q) (rel : Rel K B F H σ Γ tmp2) (hc : ∀ c, tmp.count c ≤ tmp2.count c) (r : RpD K F.f v d) : Q v H :=
  P v F H [] (rel.less fun a => by rw [List.nil_append]; exact hc a) (.v r) Sub.refl SubF.refl
/-- what is frozen has no footprint -/
theorem fz_fp {t u : T} (e : t.fz = some u) : ∀ {F : FF} {H : Hp} {x : V} {f : List Addr}, RpT K F H x u f → f = [] := by
  intro F H x f r
  unfold T.fz at e
  split at e
  · cases e; cases r; rfl
  · split at e
    · cases e; cases r; rfl
    · split at e
      · cases e; cases r; rfl
      · cases e
theorem asF_ok {t : T} {ts : List T} {x : V} {f : List Addr} {B : Base} {F : FF} (e : asF t = some ts) (r : Rel K B F H σ Γ tmp) (h : RpT K F H x t f) : ∃ a xs, x = .ref a ∧ H a = some (.lst xs) ∧ RpTs K (F.addF H f) H xs ts [] := by
  unfold asF at e
  cases e1 : t.fz with
  | none => rw [e1] at e; cases e
  | some u =>
    rw [e1] at e
    have hu := (fz_ok e1 r h).1
    have e : asL u = some ts := e
    have hs : Hs (F.addF H f) H := ⟨addH_in r.sub, Sub.of fun a o q => by
      have q : addH F.n H f a = some o := q
      show addH F.f H f a = some o
      unfold addH at q ⊢
      split at q
      · rename_i m; rw [if_pos m]; exact q
      · rename_i m; rw [if_neg m]; exact r.subn a o q, fun a o q s => by
      show addH F.f H f a = some o
      unfold addH; split
      · exact q
      · exact r.stf a o q s⟩
    obtain ⟨a, xs, g, rfl, h1, h2, h3⟩ := asL_ok e hs hu
    have : g = [] := by
      cases g with
      | nil => rfl
      | cons b g => have := h3 b; rw [List.count_cons_self] at this; simp at this
    subst this
    exact ⟨a, xs, rfl, h1, h2⟩
end

/-! ### operators -/
theorem OpR.or {X : Cx} {f : Value → Value → Sem Value} {r r' : R2} (a : OpR X f r) (b : OpR X f r') : OpR X f (fun x y H Q => r x y H Q ∨ r' x y H Q) := by
  intro pins s σ H x y v u Q I rx ry h
  rcases h with h | h
  · exact a pins s σ H x y v u Q I rx ry h
  · exact b pins s σ H x y v u Q I rx ry h
def rB : BOp → R2
  | .add => fun x y H Q => (rI0 fun i j => .int (i + j)) x y H Q ∨ (∃ i j, x = V.str i ∧ y = V.str j ∧ i.length + j.length ≤ sizeLine ∧ Q (V.str (i ++ j)) H) ∨ rCat x y H Q
  | .sub => rI0 fun i j => .int (i - j)
  | .mul => fun x y H Q => rI CMulW (fun i j => .int (i * j)) x y H Q ∨ rRep x y H Q
  | .mod => rI (fun _ j => j ≠ 0) fun i j => .int (i.fmod j)
  | .fdiv => rI CDivW fun i j => .int (i / j)
  | .pow => rI CPow fun i j => .int (i ^ j.toNat)
theorem op_B {X : Cx} (o : BOp) : OpR X (binaryOp o.op) (rB o) := by
  cases o with
  | add => exact OpR.or op_add (OpR.or op_add_str op_cat)
  | sub => exact op_sub
  | mul => exact OpR.or op_mulW op_rep
  | mod => exact op_modN
  | fdiv => exact op_fdivW
  | pow => exact op_pow
theorem str_inv {K : W.Frag} {F : FF} {H : Hp} {x : V} {s : List Nat} {f : List Addr} (r : RpT K F H x (.v (.str s)) f) : ∃ z : Str, x = .str z ∧ z.cps.toList = s ∧ okS s = true ∧ f = [] := by
  cases r with | v r => cases r with | str z h => exact ⟨z, rfl, rfl, h, rfl⟩
theorem int_inv {K : W.Frag} {F : FF} {H : Hp} {x : V} {i : Int} {f : List Addr} (r : RpT K F H x (.v (.int i)) f) : x = .int i ∧ f = [] := by
  cases r with | v r => cases r with | int => exact ⟨rfl, rfl⟩
theorem bl_inv {K : W.Frag} {F : FF} {H : Hp} {x : V} {i : Bool} {f : List Addr} (r : RpT K F H x (.v (.bl i)) f) : x = .bl i ∧ f = [] := by
  cases r with | v r => cases r with | bl => exact ⟨rfl, rfl⟩
theorem okS_append {s t : List Nat} (h : okS s = true) (h' : okS t = true) (hl : s.length + t.length ≤ LIM) : okS (s ++ t) = true := by
  unfold okS at *
  simp only [Bool.and_eq_true, decide_eq_true_eq, List.all_append, List.length_append] at *
  exact ⟨by rw [sizeLine_eq]; exact hl, h.2, h'.2⟩
theorem okS_le {s : List Nat} (h : okS s = true) : s.length ≤ LIM := by
  unfold okS at h
  simp only [Bool.and_eq_true, decide_eq_true_eq] at h
  have := h.1
  rw [sizeLine_eq] at this
  exact this
theorem str_mk {K : W.Frag} {F : Hp} {z : Str} {s : List Nat} (e : z.cps.toList = s) (h : okS s = true) : RpD K F (.str z) (.str s) := by
  subst e; exact .str z h
theorem strLen (z : Str) : z.length = z.cps.toList.length := by show z.cps.size = _; simp
theorem strApp (a b : Str) : (a ++ b).cps.toList = a.cps.toList ++ b.cps.toList := by
  show (a.cps ++ b.cps).toList = _
  simp
theorem binT_ok {K : W.Frag} {G : Glob} {W : WX} {B : Base} {F : FF} {H : Hp} {σ : L2.St} {Γ : Env} {tmp fa fb : List Addr} {o : BOp} {x y : V} {a b : T} {Q : VK} (rel : Rel K B F H σ Γ (fb ++ (fa ++ tmp))) (ra : RpT K F H x a fa) (rb : RpT K F H y b fb)
    (P : Post K G W B F H σ tmp (rT K) (R.op (binT o a b) Γ) Q) : rB o x y H Q := by
  have hc : ∀ c, tmp.count c ≤ (fb ++ (fa ++ tmp)).count c := fun c => by simp only [List.count_append]; omega
  cases o with
  | add =>
    simp only [binT, addT] at P
    split at P
    · obtain ⟨rfl, rfl⟩ := int_inv ra
      obtain ⟨rfl, rfl⟩ := int_inv rb
      exact .inl ⟨_, _, rfl, rfl, P.flatv rel hc (.int _)⟩
    · split at P
      · rename_i hl
        obtain ⟨z, rfl, rfl, h1, rfl⟩ := str_inv ra
        obtain ⟨z', rfl, rfl, h2, rfl⟩ := str_inv rb
        refine .inr (.inl ⟨_, _, rfl, rfl, ?_, P.flatv rel hc ?_⟩)
        · rw [strLen, strLen, sizeLine_eq]; exact hl
        · exact str_mk (strApp z z') (okS_append h1 h2 hl)
      · exact P.elim
    · split at P
      · rename_i a' b' e1 e2
        split at P
        · rename_i hl
          obtain ⟨p, xs, g1, rfl, h1, r1, c1⟩ := asL_ok e1 rel.hs ra
          obtain ⟨q, ys, g2, rfl, h2, r2, c2⟩ := asL_ok e2 rel.hs rb
          refine .inr (.inr ⟨_, _, _, _, rfl, rfl, h1, h2, ?_, P.newL rel (r1.append r2) fun c => ?_⟩)
          · rw [r1.length, r2.length, sizeLine_eq]; exact hl
          · have := c1 c; have := c2 c; simp only [List.count_append]; omega
        · exact P.elim
      · exact P.elim
  | sub =>
    simp only [binT] at P
    split at P
    · obtain ⟨rfl, rfl⟩ := int_inv ra
      obtain ⟨rfl, rfl⟩ := int_inv rb
      exact ⟨_, _, rfl, rfl, P.flatv rel hc (.int _)⟩
    · exact P.elim
  | mul =>
    simp only [binT, mulT] at P
    split at P
    · split at P
      · rename_i hl
        obtain ⟨rfl, rfl⟩ := int_inv ra
        obtain ⟨rfl, rfl⟩ := int_inv rb
        exact .inl ⟨_, _, rfl, rfl, hl, P.flatv rel hc (.int _)⟩
      · exact P.elim
    · split at P
      · rename_i e1
        split at P
        · rename_i hl
          obtain ⟨rfl, rfl⟩ := int_inv rb
          have ra' := ra
          obtain ⟨p, xs, rfl, h1, r1⟩ := asF_ok e1 rel ra
          have rel2 := rel.freezeTmp (f1 := fa) (g := tmp) fun c => by simp only [List.count_append]; omega
          refine .inr ⟨_, _, _, rfl, rfl, h1, hl.1, hl.2.1, by rw [r1.length, sizeLine_eq]; exact hl.2.2, ?_⟩
          refine (P.later Sub.refl (addF_sub rel.sub rel.nsub)).newL rel2 (fs := []) ?_ fun c => by simp
          have : ∀ (n : Nat) (ts : List T) (xs : List V), RpTs K (F.addF H fa) H xs ts [] → RpTs K (F.addF H fa) H (List.replicate n xs).flatten (List.replicate n ts).flatten [] := by
            intro n ts xs r
            induction n with
            | zero => exact .nil
            | succ n ih => rw [List.replicate_succ, List.replicate_succ, List.flatten_cons, List.flatten_cons]; exact RpTs.append (f := []) (g := []) r ih
          exact this _ _ _ r1
        · exact P.elim
      · exact P.elim
    · exact P.elim
  | mod =>
    simp only [binT] at P
    split at P
    · split at P
      · rename_i hl
        obtain ⟨rfl, rfl⟩ := int_inv ra
        obtain ⟨rfl, rfl⟩ := int_inv rb
        exact ⟨_, _, rfl, rfl, hl, P.flatv rel hc (.int _)⟩
      · exact P.elim
    · exact P.elim
  | fdiv =>
    simp only [binT] at P
    split at P
    · split at P
      · rename_i hl
        obtain ⟨rfl, rfl⟩ := int_inv ra
        obtain ⟨rfl, rfl⟩ := int_inv rb
        exact ⟨_, _, rfl, rfl, hl, P.flatv rel hc (.int _)⟩
      · exact P.elim
    · exact P.elim
  | pow =>
    simp only [binT] at P
    split at P
    · split at P
      · rename_i hl
        obtain ⟨rfl, rfl⟩ := int_inv ra
        obtain ⟨rfl, rfl⟩ := int_inv rb
        exact ⟨_, _, rfl, rfl, hl, P.flatv rel hc (.int _)⟩
      · exact P.elim
    · exact P.elim
section
variable {G : Glob}
/-- two in a row, then a rule by values -/
theorem two {K : W.Frag} {W : WX} {a b : E} {f : T → T → Env → R T} {r : R2}
    (h : ∀ B (F : FF) H σ Γ tmp fa fb x y ta tb Q, Rel K B F H σ Γ (fb ++ (fa ++ tmp)) → RpT K F H x ta fa → RpT K F H y tb fb → Post K G W B F H σ tmp (rT K) (f ta tb Γ) Q → r x y H Q) :
    ∀ σ H Q, TM K G W (rT K) (fun Γ => (evE G.cl G.con a Γ).bind fun x Γ1 => (evE G.cl G.con b Γ1).bind fun y Γ2 => f x y Γ2) σ H Q → tOp r (TE' K G W a) (TE' K G W b) σ H Q := by
  rintro σ H Q ⟨B, F, Γ, tmp, rel, P⟩
  refine ⟨B, F, Γ, tmp, rel, (P.bind (rep := rT K) (fp := [])).imp ?_⟩
  rintro x H1 ⟨ta, Γ1, F1, fa, rel1, ra, sH1, sF1, P1⟩
  refine ⟨B, F1, Γ1, fa ++ tmp, rel1, (P1.bind (rep := rT K) (fp := fa)).imp ?_⟩
  rintro y H2 ⟨tb, Γ2, F2, fb, rel2, rb, sH2, sF2, P2⟩
  exact h B F2 H2 σ Γ2 tmp fa fb x y ta tb Q rel2 (ra.grow sF2 sH2) rb P2
theorem one {K : W.Frag} {W : WX} {α β : Type} {rep : FF → Hp → β → α → List Addr → Prop} {a : E} {f : T → Env → R α} {r : V → Hp → (β → Hp → Prop) → Prop}
    (h : ∀ B (F : FF) H σ Γ tmp fa x ta Q, Rel K B F H σ Γ (fa ++ tmp) → RpT K F H x ta fa → Post K G W B F H σ tmp rep (f ta Γ) Q → r x H Q) :
    ∀ σ H Q, TM K G W rep (fun Γ => (evE G.cl G.con a Γ).bind fun x Γ1 => f x Γ1) σ H Q → TE' K G W a σ H fun x H1 => r x H1 Q := by
  rintro σ H Q ⟨B, F, Γ, tmp, rel, P⟩
  refine ⟨B, F, Γ, tmp, rel, (P.bind (rep := rT K) (fp := [])).imp ?_⟩
  rintro x H1 ⟨ta, Γ1, F1, fa, rel1, ra, sH1, sF1, P1⟩
  exact h B F1 H1 σ Γ1 tmp fa x ta Q rel1 ra P1
theorem ok_bin {o : BOp} {a b : E} (ha : Ok G a) (hb : Ok G b) : Ok G (.bin o a b) := by
  have sh : ∀ {N sc b'} {e : Expr}, chkE N sc b' (.bin o a b) e = true → ∃ x y pos, e = .BinOp x o.op y pos ∧ chkE N sc b' a x = true ∧ chkE N sc b' b y = true := by
    intro N sc b' e c
    unfold chkE at c
    split at c
    · simp only [Bool.and_eq_true, decide_eq_true_eq] at c
      obtain ⟨⟨c1, c2⟩, c3⟩ := c
      subst c1
      exact ⟨_, _, _, rfl, c2, c3⟩
    · cases c
  have pe : ∀ X W b' e, Gd X G W b' → chkE X.N X.env.scope b' (.bin o a b) e = true → PE X e (TE' X.K G W (.bin o a b)) := by
    intro X W b' e g c
    obtain ⟨x, y, pos, rfl, c1, c2⟩ := sh c
    exact PE.imp (pe_op (op_B o) (ha.pe X W b' x g c1) (hb.pe X W b' y g c2)) fun σ H Q h => two (f := fun x y Γ => R.op (binT o x y) Γ) (fun B F H σ Γ tmp fa fb x y ta tb Q rel ra rb P => binT_ok rel ra rb P) σ H Q h
  refine ⟨pe, fun X W b' e g c => ?_, pw_no fun N sc b op vs pos => rfl⟩
  obtain ⟨x, y, pos, rfl, c1, c2⟩ := sh c
  exact tB_of (pe X W b' _ g c) fun _ => rfl
theorem ok_neg {a : E} (ha : Ok G a) : Ok G (.neg a) := by
  have sh : ∀ {N sc b'} {e : Expr}, chkE N sc b' (.neg a) e = true → ∃ x pos, e = .UnaryOp .USub x pos ∧ chkE N sc b' a x = true := by
    intro N sc b' e c
    unfold chkE at c
    split at c
    · exact ⟨_, _, rfl, c⟩
    · cases c
  have pe : ∀ X W b' e, Gd X G W b' → chkE X.N X.env.scope b' (.neg a) e = true → PE X e (TE' X.K G W (.neg a)) := by
    intro X W b' e g c
    obtain ⟨x, pos, rfl, c1⟩ := sh c
    refine PE.imp (pe_un un_neg (ha.pe X W b' x g c1)) fun σ H Q h => ?_
    refine one (rep := rT X.K) (r := fun x H Q => rU (fun i => V.int (-i)) x H Q) (fun B F H σ Γ tmp fa x ta Q rel ra P => ?_) σ H Q h
    split at P
    · obtain ⟨rfl, rfl⟩ := int_inv ra
      exact ⟨_, rfl, P.flatv rel (fun c => by simp only [List.count_append]; omega) (.int _)⟩
    · exact P.elim
  refine ⟨pe, fun X W b' e g c => ?_, pw_no fun N sc b op vs pos => rfl⟩
  obtain ⟨x, pos, rfl, c1⟩ := sh c
  exact tB_of (pe X W b' _ g c) fun _ => rfl
theorem ok_not {a : E} (ha : Ok G a) : Ok G (.not a) := by
  have sh : ∀ {N sc b'} {e : Expr}, chkE N sc b' (.not a) e = true → ∃ x pos, e = .UnaryOp .Not x pos ∧ chkE N sc b' a x = true := by
    intro N sc b' e c
    unfold chkE at c
    split at c
    · exact ⟨_, _, rfl, c⟩
    · cases c
  refine ⟨fun X W b' e g c => ?_, fun X W b' e g c => ?_, pw_no fun N sc b op vs pos => rfl⟩
  · obtain ⟨x, pos, rfl, c1⟩ := sh c
    refine PE.imp (pe_not (ha.pe X W b' x g c1)) fun σ H Q h => ?_
    refine one (rep := rT X.K) (r := fun x H Q => ∃ c, x = V.bl c ∧ Q (V.bl (!c)) H) (fun B F H σ Γ tmp fa x ta Q rel ra P => ?_) σ H Q h
    split at P
    · obtain ⟨rfl, rfl⟩ := bl_inv ra
      exact ⟨_, rfl, P.flatv rel (fun c => by simp only [List.count_append]; omega) (.bl _)⟩
    · exact P.elim
  · obtain ⟨x, pos, rfl, c1⟩ := sh c
    refine PT.imp (pt_not (ha.pt X W b' x g c1)) fun σ H Q h => ?_
    have z := one (rep := rT X.K) (r := fun x H (Q : VK) => ∃ c, x = V.bl c ∧ Q (.bl (!c)) H) (fun B F H σ Γ tmp fa x ta Q rel ra P => by
      split at P
      · obtain ⟨rfl, rfl⟩ := bl_inv ra
        exact ⟨_, rfl, P.flatv rel (fun c => by simp only [List.count_append]; omega) (.bl _)⟩
      · exact P.elim) σ H (fun v H' => ∃ c, v = .bl c ∧ Q c H') h
    obtain ⟨B, F, Γ, tmp, rel, P⟩ := z
    refine ⟨B, F, Γ, tmp, rel, P.imp ?_⟩
    rintro v H' ⟨c, rfl, d, e, q⟩
    cases e
    exact ⟨c, rfl, q⟩
end
end Tv

/-! ### sum(rows, []), a > b of lists of ints -/
namespace Tv
open PySem PySem.Spec PyProof.Rows L2
section
variable {prog : Program} {w : World} {A : Around} {R : Result → Shared → Prop} {I : Addr} {fp wr : List Addr} {n : Nat} {P : Nat → Value → Prop} {St : Nat → Heap → Prop}
/-- the first i rows, one after another -/
def accL (rows : Nat → List Value) : Nat → List Value
  | 0 => []
  | i + 1 => accL rows i ++ rows i
theorem accL_le (rows : Nat → List Value) : ∀ {i n : Nat}, i ≤ n → (accL rows i).length ≤ (accL rows n).length
  | i, 0, h => by rw [Nat.le_zero.mp h]; exact Nat.le_refl _
  | i, n + 1, h => by
    by_cases e : i = n + 1
    · rw [e]; exact Nat.le_refl _
    · exact Nat.le_trans (accL_le rows (Nat.le_of_lt_succ (Nat.lt_of_le_of_ne h e))) (by show _ ≤ (accL rows n ++ rows n).length; rw [List.length_append]; omega)
theorem sum_rows_loop (W : Walks prog w A.in1 I fp wr n P St) (rows : Nat → List Value) (h0 : Heap) (S : Addr) (hSf : S ∉ fp) (hS0 : ∀ o, h0.get? S ≠ some o) (hw0 : ∀ b ∈ wr, ∀ o, h0.get? b ≠ some o) (hwS : ∀ b ∈ wr, b < S)
    (hrow : ∀ i v, P i v → ∃ c m, v = .ref c ∧ IsL h0 c (rows i).toArray m) (hz : (accL rows n).length ≤ sizeLine) :
    ∀ (k i : Nat) (s : Shared) (tr c m : Nat), n - i = k → i ≤ n → St i s.heap → (∀ b o, h0.get? b = some o → s.heap.get? b = some o) → s.heap.get? S = some { cls := .type "list", dict := none, data := .seq #[.ref tr] c, slots := #[] } →
    IsL s.heap tr (accL rows i).toArray m → tr ∉ wr → tr ≠ S →
    (∀ h' tk tr' m', (∀ b o, h0.get? b = some o → h'.get? b = some o) → IsL h' tr' (accL rows n).toArray m' → (i = n → tr' = tr) → (i < n → S < tr') → R (.ok (.ret (.ref tr'))) { s with heap := h', toks := tk }) →
    codeAny (model prog w) A (.builtin "sum.loop" ⟨[.ref I, .ref S, rawInt 2, rawInt 0], []⟩) R s := by
  have hSw : S ∉ wr := fun h => hSf (W.sub _ h)
  intro k
  induction k with
  | zero =>
    intro i s tr c m hk hi hst h00 hS htr htw htS hR
    have hin : i = n := by omega
    subst hin
    refine codeAny_builtin F.entry_sum_loop ?_
    rw [Around.under_plainId F.plain_sum_loop _]
    show wpAny _ A.in1 (seqItems? (.ref S) >>= _) _ _ s
    refine wpAny_bind (wpAny_seqItems hS rfl ?_)
    show wpAny _ A.in1 (tryCatch (pyNext (.ref I)) _ >>= _) _ _ s
    refine wpAny_bind (wpAny_tryCatch (W.done s _ _ hst fun h' tk hk' => ?_))
    exact wpAny_pure (hR h' tk tr m (fun b o e => hk' b o (fun hb => hw0 b hb o e) (h00 b o e)) (hk' _ _ htw htr) (fun _ => rfl) (fun h => absurd h (Nat.lt_irrefl _)))
  | succ k ih =>
    intro i s tr c m hk hi hst h00 hS htr htw htS hR
    have hlt : i < n := by omega
    refine codeAny_builtin F.entry_sum_loop ?_
    rw [Around.under_plainId F.plain_sum_loop _]
    show wpAny _ A.in1 (seqItems? (.ref S) >>= _) _ _ s
    refine wpAny_bind (wpAny_seqItems hS rfl ?_)
    show wpAny _ A.in1 (tryCatch (pyNext (.ref I)) _ >>= _) _ _ s
    refine wpAny_bind (wpAny_tryCatch (W.item i s _ _ hlt hst fun v h' tk hP hst' hk' => ?_))
    obtain ⟨cr, m', rfl, hrow'⟩ := hrow i v hP
    have hS' := hk' S _ hSw hS
    have htr' : IsL h' tr (accL rows i).toArray m := hk' _ _ htw htr
    have hcr' : IsL h' cr (rows i).toArray m' := hk' _ _ (fun hb => hw0 _ hb _ hrow') (h00 _ _ hrow')
    have hz' : (accL rows i).toArray.size + (rows i).toArray.size ≤ sizeLine := by
      have := accL_le rows (i := i + 1) (n := n) hlt
      have e : (accL rows (i + 1)).length = (accL rows i).length + (rows i).length := List.length_append
      simp only [List.size_toArray]
      omega
    show wpAny _ A.in1 ((holding [Value.ref cr] (binaryOp .Add (.ref tr) (.ref cr))).attempt >>= _) _ _ _
    refine wpAny_bind (wpAny_attempt (wpAny_holding (PySem.P.add_list htr' hcr' ?_ hz')))
    have ea : (accL rows i).toArray ++ (rows i).toArray = (accL rows (i + 1)).toArray := by simp [accL]
    rw [ea]
    show wpAny _ A.in1 (updateSeq S (fun _ => #[.ref h'.objs.size]) >>= _) _ _ _
    have hSl : S < h'.objs.size := Heap.lt_size hS'
    have hS1 := Heap.get?_push_of_some { cls := .type "list", data := .seq (accL rows (i + 1)).toArray } hS'
    refine wpAny_bind ?_
    refine wpAny_updateSeq hS1 rfl ?_
    have hS2 := Heap.get?_update_self (Obj.mapSeq fun _ => #[Value.ref h'.objs.size]) hS1 rfl
    refine wpAny_bind (wpAny_letGo ?_)
    refine wpAny_bind ?_
    refine wpAny_updateSeq hS2 rfl (wpAny_pure ⟨plainId_quiet F.plain_sum_loop _, ih (i + 1) _ h'.objs.size _ 0 (by omega) hlt (W.frame _ _ _ hst' fun b hb o e => ?_) (fun b o e => ?_) (Heap.get?_update_self _ hS2 rfl) ?_ (fun hb => Nat.lt_asymm hSl (hwS _ hb)) (Nat.ne_of_gt hSl) fun h'' tk'' tr'' m'' h1 h2 h3 h4 => ?_⟩)
    · exact (Heap.get?_update_other _ _ (fun h : S = b => hSf (by rw [h]; exact hb))).trans ((Heap.get?_update_other _ _ (fun h : S = b => hSf (by rw [h]; exact hb))).trans (Heap.get?_push_of_some _ e))
    · have hb : S ≠ b := fun h => hS0 o (by rw [h]; exact e)
      exact (Heap.get?_update_other _ _ hb).trans ((Heap.get?_update_other _ _ hb).trans (Heap.get?_push_of_some _ (hk' _ _ (fun hb => hw0 _ hb _ e) (h00 _ _ e))))
    · have hb : S ≠ h'.objs.size := Nat.ne_of_lt hSl
      exact (Heap.get?_update_other _ _ hb).trans ((Heap.get?_update_other _ _ hb).trans (Heap.get?_push_size _ rfl))
    · refine hR h'' tk'' tr'' m'' h1 h2 (fun h => absurd h (by omega)) fun _ => ?_
      by_cases e : i + 1 < n
      · exact h4 e
      · rw [h3 (by omega)]; exact hSl
end
section
variable {prog : Program} {w : World} {A : Around} {E : Value → Shared → Prop} {s : Shared}
theorem args_sum2 (a b : Value) : argsOk "sum" ⟨[a, b], []⟩ := by unfold argsOk; kernel_rfl
theorem sum_rows {l a0 : Addr} {its : List Value} {rows : Nat → List Value} {m0 : Nat} {Q : Value → Shared → Prop} (hh : A.handled = none) (hl : s.heap.IsList l its.toArray) (ha : IsL s.heap a0 #[] m0)
    (hrow : ∀ i v, its[i]? = some v → ∃ c m, v = .ref c ∧ IsL s.heap c (rows i).toArray m) (hz : (accL rows its.length).length ≤ sizeLine)
    (h : ∀ h' tk tr m', (∀ b o, s.heap.get? b = some o → h'.get? b = some o) → IsL h' tr (accL rows its.length).toArray m' → (its = [] → tr = a0) → (its ≠ [] → s.heap.objs.size ≤ tr) → Q (.ref tr) { s with heap := h', toks := tk }) :
    wpAny (model prog w) A (call (.builtin "sum") [.ref l, .ref a0]) Q E s := by
  have hlt : l < s.heap.objs.size := by obtain ⟨_, e, _⟩ := hl; exact Heap.lt_size e
  refine call_function_tree F.kind_sum F.plain_sum F.entry_sum (args_sum2 _ _) ?_
  unfold Builtin.«sum»
  simp only [List.length_cons, List.length_nil]
  rw [if_neg (by decide)]
  refine wpAny_bind (wpAny_of_eq (show Builtin.Builtins.bindParams "sum" ["start"] 0 ⟨[.ref a0], []⟩ = pure [some (.ref a0)] from rfl) ?_)
  refine wpAny_bind (wpAny_pyIter_list hl ?_)
  refine wpAny_bind (wpAny_pure ?_)
  have ha1 := ha.push { cls := .type "list_iterator", data := .fields #[.ref l, .int 0 0] }
  have hty : Shared.TypeIs { s with heap := s.heap.push { cls := .type "list_iterator", data := .fields #[.ref l, .int 0 0] } } (.ref a0) "list" := ⟨_, ha1, rfl⟩
  simp only [List.forIn_cons, List.forIn_nil]
  refine wpAny_bind (wpAny_bind (wpAny_bind (wpAny_isInstance (T := "list") (b := false) hty F.sub_list_str ?_)))
  simp only [Bool.false_eq_true, if_false]
  refine wpAny_pure (wpAny_bind (wpAny_bind (wpAny_isInstance (T := "list") (b := false) hty F.sub_list_bytes ?_)))
  simp only [Bool.false_eq_true, if_false]
  refine wpAny_pure (wpAny_bind (wpAny_bind (wpAny_isInstance (T := "list") (b := false) hty F.sub_list_bytearray ?_)))
  simp only [Bool.false_eq_true, if_false]
  refine wpAny_pure (wpAny_pure ?_)
  refine wpAny_bind (wpAny_newObj_type ?_)
  have hsz : (s.heap.push { cls := .type "list_iterator", data := .fields #[.ref l, .int 0 0] }).objs.size = s.heap.objs.size + 1 := Heap.size_push _ _
  have hne : l ≠ s.heap.objs.size := Nat.ne_of_lt hlt
  refine wpAny_pure ⟨plainId_quiet F.plain_sum_loop _, sum_rows_loop (Walks.list (A := A.in1) hh s.heap.objs.size l hne its.toArray) rows s.heap _ (fun hm => ?_) (fun o e => ?_) (fun b hb o e => ?_) (fun b hb => ?_) (fun i v e => hrow i v (by simpa using e)) (by simpa using hz) _ 0 _ a0 _ m0 rfl (Nat.zero_le _) ⟨?_, ?_⟩ (fun b o e => ?_) (Heap.get?_push_size _ rfl) ?_ (fun hb => ?_) ?_ fun h' tk tr m' h1 h2 h3 h4 => ?_⟩
  · rcases List.mem_cons.mp hm with e | hm
    · rw [hsz] at e; exact absurd e (Nat.succ_ne_self _)
    · rw [List.mem_singleton.mp hm] at hsz
      exact absurd hlt (by rw [hsz]; exact Nat.not_lt.mpr (Nat.le_succ _))
  · have := Heap.lt_size e
    rw [hsz] at this
    exact absurd this (Nat.not_lt.mpr (Nat.le_succ _))
  · rw [List.mem_singleton.mp hb] at e
    exact absurd (Heap.lt_size e) (Nat.lt_irrefl _)
  · rw [List.mem_singleton.mp hb, hsz]; exact Nat.lt_succ_self _
  · exact ⟨_, Heap.get?_push_of_some _ (Heap.get?_push_size _ rfl), rfl, rfl⟩
  · exact (hl.push _).push _
  · exact Heap.get?_push_of_some _ (Heap.get?_push_of_some _ e)
  · exact ha1.push _
  · rw [List.mem_singleton] at hb
    exact absurd (Heap.lt_size ha) (by rw [hb]; exact Nat.lt_irrefl _)
  · rw [hsz]
    exact Nat.ne_of_lt (Nat.lt_succ_of_lt (Heap.lt_size ha))
  · refine h h' tk tr m' h1 (by simpa using h2) (fun e => h3 (by rw [e]; rfl)) (fun e => ?_)
    have := h4 (by rw [List.size_toArray]; exact List.length_pos_iff.mpr e)
    rw [hsz] at this
    exact Nat.le_of_lt (Nat.lt_of_succ_lt this)
end
/-- sum(rows, []) -/
def rSumL (K : W.Frag) : List V → Hp → VK → Prop := fun vs H Q => ∃ (a b : Addr) (cs : List V) (yss : List (List V)), vs = [V.ref a, V.ref b] ∧ SqL K H a cs ∧ H b = some (.lst []) ∧
  (∀ (i : Nat) (c : V), cs[i]? = some c → ∃ d ys, c = V.ref d ∧ yss[i]? = some ys ∧ H d = some (.lst ys)) ∧ yss.length = cs.length ∧ yss.flatten.length ≤ sizeLine ∧
  (cs = [] → Q (.ref b) H) ∧ ∀ p, H p = none → Q (.ref p) (upd H p (.lst yss.flatten))
theorem vals_get : ∀ {xs : List V} {vs : List Value} {i : Nat} {v : Value}, Vals xs vs → vs[i]? = some v → ∃ x, xs[i]? = some x ∧ RelV x v
  | _, _, i, v, .nil, h => by simp at h
  | _, _, 0, v, .cons a b, h => by simp at h; subst h; exact ⟨_, rfl, a⟩
  | _, _, i + 1, v, .cons a b, h => by simpa using vals_get b (by simpa using h)
def rowH (h : Heap) : Option Value → List Value
  | some (.ref d) => match h.get? d with
    | some ⟨_, _, .seq a _, _⟩ => a.toList
    | _ => []
  | _ => []
theorem cr_sumL {X : Cx} (hc : X.calm = true) : CallR X (.builtin "sum") (rSumL X.K) := by
  intro pins s σ H vs us Q I r h
  obtain ⟨a, b, cs, yss, rfl, hs, hb, hrow, hlen, hz, q1, q2⟩ := h
  obtain ⟨its, rv, hl, _⟩ := I.list hs
  obtain ⟨_, its0, m0, r0, _, e0⟩ := I.lstM hb
  cases r0
  obtain ⟨u1, u2, rfl, k1, k2⟩ := vals2 r
  cases k1
  cases k2
  let rows : Nat → List Value := fun i => rowH s.heap its[i]?
  have hlen2 : its.length = cs.length := rv.length.symm
  have hr : ∀ i v, its[i]? = some v → ∃ c m ys, v = .ref c ∧ IsL s.heap c (rows i).toArray m ∧ yss[i]? = some ys ∧ Vals ys (rows i) := fun i v e => by
    obtain ⟨x, ex, rx⟩ := vals_get rv e
    obtain ⟨d, ys, rfl, ey, hd⟩ := hrow i x ex
    cases rx
    obtain ⟨_, its2, m2, r2, _, e2⟩ := I.lstM hd
    have : rows i = its2 := by
      show rowH s.heap its[i]? = its2
      rw [e]
      show (match s.heap.get? d with | some ⟨_, _, .seq a _, _⟩ => a.toList | _ => []) = its2
      rw [e2]
    rw [this]
    exact ⟨d, m2, ys, rfl, e2, ey, r2⟩
  have ha : ∀ n, n ≤ its.length → Vals (yss.take n).flatten (accL rows n) := by
    intro n
    induction n with
    | zero => intro _; rw [List.take_zero]; exact .nil
    | succ n ih =>
      intro hn
      obtain ⟨c, m, ys, _, _, ey, ry⟩ := hr n its[n] (List.getElem?_eq_getElem (by omega))
      rw [List.take_succ, ey]
      have : (yss.take n ++ (some ys).toList).flatten = (yss.take n).flatten ++ ys := by simp
      rw [this]
      exact (ih (by omega)).append ry
  have hall := ha its.length (Nat.le_refl _)
  rw [List.take_of_length_le (by omega)] at hall
  refine sum_rows (rows := rows) (I.ok.hd hc) hl.isList e0 (fun i v e => by obtain ⟨c, m, _, h1, h2, _⟩ := hr i v e; exact ⟨c, m, h1, h2⟩) (by rw [← hall.length]; exact hz) fun h' tk tr m' h1 h2 h3 h4 => ?_
  by_cases e : its = []
  · rw [h3 e]
    have : cs = [] := by rw [e] at hlen2; exact List.length_eq_zero_iff.mp hlen2.symm
    exact ⟨.ref b, H, I.kept h1, rfl, q1 this⟩
  · exact ⟨.ref tr, upd H tr (.lst yss.flatten), I.laid h1 (h4 e) ⟨hz, _, m', hall, h2⟩, rfl, q2 _ (I.hok.fresh (h4 e))⟩
/-! lists of whole numbers, which is more -/
def rGtL (K : W.Frag) : R2 := fun x y H Q => ∃ (a b : Addr) (ns ms : List Int), x = .ref a ∧ y = .ref b ∧ SqL K H a (ns.map V.int) ∧ SqL K H b (ms.map V.int) ∧ Q (.bl (gtN ns ms)) H
theorem firstLt_map (e r : Nat → Bool) (z : Bool) (f : Nat → Nat) : ∀ l : List Nat, SeqAt.firstLt e r z (l.map f) = SeqAt.firstLt (fun j => e (f j)) (fun j => r (f j)) z l
  | [] => rfl
  | j :: t => by
    rw [List.map_cons]
    show (if e (f j) = true then _ else _) = if e (f j) = true then _ else _
    rw [firstLt_map e r z f t]
theorem gtN_is : ∀ ns ms : List Int, SeqAt.firstLt (fun j => decide (ns.getD j 0 = ms.getD j 0)) (fun j => decide (ms.getD j 0 < ns.getD j 0)) (decide (ns.length > ms.length)) (List.range (min ns.length ms.length)) = gtN ns ms
  | [], ms => by simp [gtN, SeqAt.firstLt]
  | x :: xs, [] => by simp [gtN, SeqAt.firstLt]
  | x :: xs, y :: ys => by
    have ih := gtN_is xs ys
    have e : min (x :: xs).length (y :: ys).length = min xs.length ys.length + 1 := by simp only [List.length_cons]; omega
    have e2 : decide ((x :: xs).length > (y :: ys).length) = decide (xs.length > ys.length) := by simp
    rw [e, e2, List.range_succ_eq_map]
    show (if decide (x = y) = true then _ else decide (y < x)) = gtN (x :: xs) (y :: ys)
    rw [firstLt_map]
    show (if decide (x = y) = true then SeqAt.firstLt (fun j => decide (xs.getD j 0 = ys.getD j 0)) (fun j => decide (ys.getD j 0 < xs.getD j 0)) (decide (xs.length > ys.length)) (List.range (min xs.length ys.length)) else decide (y < x)) = gtN (x :: xs) (y :: ys)
    rw [ih]
    simp [gtN]
theorem op_gtL {X : Cx} (hu : X.A.units < cLine) : OpR X (compareOp .Gt) (rGtL X.K) := by
  intro pins s σ H x y v u Q I rx ry h
  obtain ⟨a, b, ns, ms, rfl, rfl, ha, hb, q⟩ := h
  cases rx
  cases ry
  obtain ⟨its, r1, p1, _⟩ := I.list ha
  obtain ⟨its2, r2, p2, _⟩ := I.list hb
  have i1 : IntsAre its ns := Vals.ints r1
  have i2 : IntsAre its2 ms := Vals.ints r2
  have e1 : its.toArray.size = ns.length := by rw [List.size_toArray]; exact i1.length
  have e2 : its2.toArray.size = ms.length := by rw [List.size_toArray]; exact i2.length
  have at1 : ∀ j (h1 : j < its.toArray.size), ∃ t, its.toArray[j] = .int (ns.getD j 0) t := fun j h1 => PyProof.Rows.IntsAre.int_at i1 _ _ (by simp at h1; simp [h1])
  have at2 : ∀ j (h1 : j < its2.toArray.size), ∃ t, its2.toArray[j] = .int (ms.getD j 0) t := fun j h1 => PyProof.Rows.IntsAre.int_at i2 _ _ (by simp at h1; simp [h1])
  have R := SeqAt.RcOp.lists_gt (A := X.A) (s := s) (e := fun j => decide (ns.getD j 0 = ms.getD j 0)) (r := fun j => decide (ms.getD j 0 < ns.getD j 0)) p1.isList p2.isList hu (fun j h1 h2 => by
    obtain ⟨t, et⟩ := at1 j h1
    obtain ⟨t', et'⟩ := at2 j h2
    rw [et, et']
    have z : (ns.getD j 0 == ms.getD j 0) = decide (ns.getD j 0 = ms.getD j 0) := by
      by_cases q : ns.getD j 0 = ms.getD j 0
      · rw [decide_eq_true q]; exact beq_iff_eq.mpr q
      · rw [decide_eq_false q]; exact beq_eq_false_iff_ne.mpr q
    rw [← z]
    exact SeqAt.EqAt.int_int _ _ _ _) (fun j h1 h2 _ => by
    obtain ⟨t, et⟩ := at1 j h1
    obtain ⟨t', et'⟩ := at2 j h2
    rw [et, et']
    exact fun _ _ _ _ h => PyProof.Rows.gt_int h)
  rw [e1, e2, gtN_is] at R
  have z : wpAny (model X.prog X.w) X.A (compareOp .Gt (.ref a) (.ref b)) (EP X pins σ Q) X.xe s := R X.prog X.w X.xe (EP X pins σ Q) ⟨.bl _, H, I, rfl, q⟩
  exact z
/-! sorted lists of whole numbers -/
theorem insI_perm (x : Int) : ∀ ys, (insI x ys).Perm (x :: ys)
  | [] => .refl _
  | y :: ys => by
    unfold insI
    split
    · exact .refl _
    · exact ((insI_perm x ys).cons y).trans (.swap x y ys)
theorem sortI_perm : ∀ xs, (sortI xs).Perm xs
  | [] => .refl _
  | x :: xs => (insI_perm x (sortI xs)).trans ((sortI_perm xs).cons x)
theorem insI_sorted (x : Int) : ∀ {ys : List Int}, ys.Pairwise (· ≤ ·) → (insI x ys).Pairwise (· ≤ ·)
  | [], _ => by simp [insI]
  | y :: ys, h => by
    unfold insI
    split
    · rename_i c
      refine List.pairwise_cons.mpr ⟨fun z hz => ?_, h⟩
      rcases List.mem_cons.mp hz with rfl | hz
      · exact c
      · exact Int.le_trans c ((List.pairwise_cons.mp h).1 z hz)
    · rename_i c
      refine List.pairwise_cons.mpr ⟨fun z hz => ?_, insI_sorted x (List.pairwise_cons.mp h).2⟩
      rcases List.mem_cons.mp ((insI_perm x ys).mem_iff.mp hz) with rfl | hz
      · omega
      · exact (List.pairwise_cons.mp h).1 z hz
theorem sortI_sorted : ∀ xs, (sortI xs).Pairwise (· ≤ ·)
  | [] => .nil
  | x :: xs => insI_sorted x (sortI_sorted xs)
theorem sorted_unique : ∀ {xs ys : List Int}, xs.Perm ys → xs.Pairwise (· ≤ ·) → ys.Pairwise (· ≤ ·) → xs = ys
  | [], ys, p, _, _ => (List.nil_perm.mp p).symm
  | x :: xs, [], p, _, _ => absurd p.length_eq (by simp)
  | x :: xs, y :: ys, p, hx, hy => by
    have a1 : x ≤ y := by
      rcases List.mem_cons.mp (p.symm.mem_iff.mp (List.mem_cons_self (a := y) (l := ys))) with e | m
      · omega
      · exact (List.pairwise_cons.mp hx).1 y m
    have a2 : y ≤ x := by
      rcases List.mem_cons.mp (p.mem_iff.mp (List.mem_cons_self (a := x) (l := xs))) with e | m
      · omega
      · exact (List.pairwise_cons.mp hy).1 x m
    have e : x = y := by omega
    subst e
    rw [sorted_unique (List.Perm.cons_inv p) (List.pairwise_cons.mp hx).2 (List.pairwise_cons.mp hy).2]
theorem sortI_is {xs ys : List Int} (p : ys.Perm xs) (h : ys.Pairwise (· ≤ ·)) : ys = sortI xs := sorted_unique (p.trans (sortI_perm xs).symm) h (sortI_sorted xs)
/-! sorted lists of pairs of whole numbers -/
theorem leP_iff {p q : Int × Int} : leP p q = true ↔ p.1 < q.1 ∨ (p.1 = q.1 ∧ p.2 ≤ q.2) := by unfold leP; rw [decide_eq_true_eq]
theorem insP_perm (x : Int × Int) : ∀ ys, (insP x ys).Perm (x :: ys)
  | [] => .refl _
  | y :: ys => by
    unfold insP
    split
    · exact .refl _
    · exact ((insP_perm x ys).cons y).trans (.swap x y ys)
theorem sortP_perm : ∀ xs, (sortP xs).Perm xs
  | [] => .refl _
  | x :: xs => (insP_perm x (sortP xs)).trans ((sortP_perm xs).cons x)
abbrev SortedP (xs : List (Int × Int)) : Prop := xs.Pairwise fun p q => leP p q = true
theorem insP_sorted (x : Int × Int) : ∀ {ys : List (Int × Int)}, SortedP ys → SortedP (insP x ys)
  | [], _ => by simp [insP]
  | y :: ys, h => by
    unfold insP
    split
    · rename_i c
      refine List.pairwise_cons.mpr ⟨fun z hz => ?_, h⟩
      rcases List.mem_cons.mp hz with rfl | hz
      · exact c
      · have a := leP_iff.mp c
        have b := leP_iff.mp ((List.pairwise_cons.mp h).1 z hz)
        exact leP_iff.mpr (by omega)
    · rename_i c
      refine List.pairwise_cons.mpr ⟨fun z hz => ?_, insP_sorted x (List.pairwise_cons.mp h).2⟩
      rcases List.mem_cons.mp ((insP_perm x ys).mem_iff.mp hz) with rfl | hz
      · rw [leP_iff] at c
        exact leP_iff.mpr (by omega)
      · exact (List.pairwise_cons.mp h).1 z hz
theorem sortP_sorted : ∀ xs, SortedP (sortP xs)
  | [] => .nil
  | x :: xs => insP_sorted x (sortP_sorted xs)
theorem sortedP_unique : ∀ {xs ys : List (Int × Int)}, xs.Perm ys → SortedP xs → SortedP ys → xs = ys
  | [], ys, p, _, _ => (List.nil_perm.mp p).symm
  | x :: xs, [], p, _, _ => absurd p.length_eq (by simp)
  | x :: xs, y :: ys, p, hx, hy => by
    have e : x = y := by
      rcases List.mem_cons.mp (p.symm.mem_iff.mp (List.mem_cons_self (a := y) (l := ys))) with e | m
      · exact e.symm
      · rcases List.mem_cons.mp (p.mem_iff.mp (List.mem_cons_self (a := x) (l := xs))) with e | m2
        · exact e
        · have a := leP_iff.mp ((List.pairwise_cons.mp hx).1 y m)
          have b := leP_iff.mp ((List.pairwise_cons.mp hy).1 x m2)
          exact Prod.ext (by omega) (by omega)
    subst e
    rw [sortedP_unique (List.Perm.cons_inv p) (List.pairwise_cons.mp hx).2 (List.pairwise_cons.mp hy).2]
theorem sortP_is {xs ys : List (Int × Int)} (p : ys.Perm xs) (h : SortedP ys) : ys = sortP xs := sortedP_unique (p.trans (sortP_perm xs).symm) h (sortP_sorted xs)
/-- the two whole numbers of a pair -/
def kH (H : Hp) : V → Int × Int
  | .ref t => match H t with
    | some (.tup [.int a, .int b]) => (a, b)
    | _ => (0, 0)
  | _ => (0, 0)
theorem pair_inv {K : W.Frag} {F : FF} {H : Hp} (hF : Sub F.f H) {x : V} {p : Int × Int} {f : List Addr} (r : RpT K F H x (pairTp p) f) : kH H x = p ∧ (∃ t, x = V.ref t ∧ H t = some (.tup [.int p.1, .int p.2])) ∧ f = [] := by
  unfold pairTp at r
  cases r with
  | v r =>
    cases r with
    | tup h r =>
      cases r with
      | cons a b =>
        cases b with
        | cons c d =>
          cases d with
          | nil =>
            cases a with | int i =>
            cases c with | int j =>
            have h' := hF.eq h rfl
            refine ⟨?_, ⟨_, rfl, h'⟩, rfl⟩
            simp only [kH, h']
theorem pairsT_is : ∀ {ts : List T} {ps : List (Int × Int)}, pairsT ts = some ps → ts = ps.map pairTp
  | [], ps, e => by cases e; rfl
  | t :: ts, ps, e => by
    unfold pairsT at e
    split at e
    · rename_i e0; cases e0
    · rename_i a b ts' e0
      cases e0
      cases h : pairsT ts with
      | none => rw [h] at e; cases e
      | some r =>
        rw [h] at e
        cases e
        rw [pairsT_is h]; rfl
    · cases e
theorem pairs_all {K : W.Frag} {F : FF} {H : Hp} (hF : Sub F.f H) : ∀ {xs : List V} {ps : List (Int × Int)} {f : List Addr}, RpTs K F H xs (ps.map pairTp) f → xs.map (kH H) = ps ∧ ∀ x ∈ xs, ∃ t, x = V.ref t ∧ H t = some (.tup [.int (kH H x).1, .int (kH H x).2])
  | _, [], _, .nil => ⟨rfl, fun x h => by cases h⟩
  | _, p :: ps, _, .cons a b => by
    obtain ⟨h1, ⟨t, h2, h3⟩, _⟩ := pair_inv hF a
    obtain ⟨k1, k2⟩ := pairs_all hF b
    refine ⟨by rw [List.map_cons, h1, k1], fun x hx => ?_⟩
    rcases List.mem_cons.mp hx with rfl | hx
    · exact ⟨t, h2, by rw [h1]; exact h3⟩
    · exact k2 x hx
theorem pairs_perm {K : W.Frag} {F : FF} {H : Hp} {xs ys : List V} (p : xs.Perm ys) : ∀ {ps : List (Int × Int)} {f : List Addr}, RpTs K F H xs (ps.map pairTp) f → ∃ (qs : List (Int × Int)) (g : List Addr), RpTs K F H ys (qs.map pairTp) g ∧ qs.Perm ps ∧ ∀ c, g.count c ≤ f.count c := by
  induction p with
  | nil =>
    intro ps f r
    exact ⟨ps, f, r, .refl _, fun c => Nat.le_refl _⟩
  | cons x _ ih =>
    intro ps f r
    cases ps with
    | nil => cases r
    | cons p ps =>
      cases r with
      | cons a b =>
        obtain ⟨qs, g, h1, h2, h3⟩ := ih b
        exact ⟨p :: qs, _, .cons a h1, h2.cons p, fun c => by have := h3 c; simp only [List.count_append]; omega⟩
  | swap x y l =>
    intro ps f r
    cases ps with
    | nil => cases r
    | cons p ps =>
      cases r with
      | cons a b =>
        cases ps with
        | nil => cases b
        | cons q ps =>
          cases b with
          | cons c d => exact ⟨q :: p :: ps, _, .cons c (.cons a d), .swap p q ps, fun c => by simp only [List.count_append]; omega⟩
  | trans _ _ ih1 ih2 =>
    intro ps f r
    obtain ⟨qs, g, h1, h2, h3⟩ := ih1 r
    obtain ⟨qs', g', k1, k2, k3⟩ := ih2 h1
    exact ⟨qs', g', k1, k2.trans h2, fun c => Nat.le_trans (k3 c) (h3 c)⟩
theorem srtd_pairs {H : Hp} {ys : List V} (h : SrtO.Srtd (ltP (kH H)) ys) : SortedP (ys.map (kH H)) := by
  refine List.pairwise_map.mpr (h.imp fun {x y} e => ?_)
  have := SrtO.lexB_no.mp e
  exact leP_iff.mpr (by omega)
end Tv

namespace Tv
open PySem PySem.Spec PyProof.Rows L2

/-! ### comparisons -/
theorem py_str (z : Str) : (D.str z.cps.toList).py = .str z := by
  unfold D.py; simp
mutual
theorem RpD.dp {K : W.Frag} {H : Hp} : ∀ {x : V} {d : D} {n : Nat}, RpD K H x d → d.okD n = true → Dp K H x d.py
  | _, _, _, .non, _ => .non
  | _, _, _, .bl b, _ => .bl b
  | _, _, _, .int i, _ => .int i
  | _, _, _, .str z _, _ => by rw [py_str]; exact .str z
  | _, _, 0, .lst h r, e => by simp [D.okD] at e
  | _, _, 0, .tup h r, e => by simp [D.okD] at e
  | _, _, n + 1, .lst h r, e => .lst (.of h) (RpDs.dp r (by simpa [D.okD] using e))
  | _, _, n + 1, .tup h r, e => .tup (.of h) (RpDs.dp r (by simpa [D.okD] using e))
  | _, _, _, .ktp h r, e => by simp [D.okD] at e
  | _, _, _, .scr h, e => by simp [D.okD] at e
  | _, _, _, .dct h q r, e => by simp [D.okD] at e
  | _, _, _, .obj c h n x r, e => by simp [D.okD] at e
  | _, _, _, .exc h d n x r, e => by simp [D.okD] at e
theorem RpDs.dp {K : W.Frag} {H : Hp} : ∀ {x : List V} {d : List D} {n : Nat}, RpDs K H x d → D.okDs d n = true → DpAll K H x (D.pys d)
  | _, _, _, .nil, _ => .nil
  | _, _, _, .cons a b, e => by
    simp [D.okDs] at e
    exact .cons (RpD.dp a e.1) (RpDs.dp b e.2)
end
theorem strOk_of {z : Str} (h : okS z.cps.toList = true) : PyData.strOk z = true := by
  unfold okS at h
  simp only [Bool.and_eq_true, List.all_eq_true, decide_eq_true_eq] at h
  unfold PyData.strOk
  rw [Array.all_eq_true']
  intro c hc
  exact decide_eq_true (h.2 c (by simpa using hc))
mutual
theorem RpD.lay {K : W.Frag} {H : Hp} : ∀ {x : V} {d : D} {n : Nat}, RpD K H x d → d.okD n = true → d.py.canLay0 = true ∧ d.py.depth ≤ n
  | _, _, _, .non, _ => ⟨rfl, Nat.zero_le _⟩
  | _, _, _, .bl b, _ => ⟨rfl, Nat.zero_le _⟩
  | _, _, _, .int i, _ => ⟨rfl, Nat.zero_le _⟩
  | _, _, _, .str z h, _ => by rw [py_str]; exact ⟨strOk_of h, Nat.zero_le _⟩
  | _, _, 0, .lst h r, e => by simp [D.okD] at e
  | _, _, 0, .tup h r, e => by simp [D.okD] at e
  | _, _, n + 1, .lst h r, e => by
    have := RpDs.lay r (show D.okDs _ n = true by simpa [D.okD] using e)
    exact ⟨this.1, Nat.succ_le_succ this.2⟩
  | _, _, n + 1, .tup h r, e => by
    have := RpDs.lay r (show D.okDs _ n = true by simpa [D.okD] using e)
    exact ⟨this.1, Nat.succ_le_succ this.2⟩
  | _, _, _, .ktp h r, e => by simp [D.okD] at e
  | _, _, _, .scr h, e => by simp [D.okD] at e
  | _, _, _, .dct h q r, e => by simp [D.okD] at e
  | _, _, _, .obj c h n x r, e => by simp [D.okD] at e
  | _, _, _, .exc h d n x r, e => by simp [D.okD] at e
theorem RpDs.lay {K : W.Frag} {H : Hp} : ∀ {x : List V} {d : List D} {n : Nat}, RpDs K H x d → D.okDs d n = true → PyData.canLayAll0 (D.pys d) = true ∧ PyData.depthAll (D.pys d) ≤ n
  | _, _, _, .nil, _ => ⟨rfl, Nat.zero_le _⟩
  | _, _, _, .cons a b, e => by
    simp [D.okDs] at e
    have h1 := RpD.lay a e.1
    have h2 := RpDs.lay b e.2
    refine ⟨?_, ?_⟩
    · simp only [D.pys, PyData.canLayAll0, h1.1, h2.1, Bool.and_self]
    · simp only [D.pys, PyData.depthAll]; omega
end
theorem RpD.shaped {K : W.Frag} {H : Hp} {x : V} {d : D} (r : RpD K H x d) (e : d.okD 60 = true) : SeqAt.shaped d.py = true := by
  have := r.lay e
  unfold SeqAt.shaped
  rw [this.1, Bool.true_and]
  exact decide_eq_true (by omega)
theorem flatV_of {K : W.Frag} {H : Hp} {x : V} {d : D} (r : RpD K H x d) (h : d.flat = true) : flatV x = true := by
  cases r <;> first | rfl | cases h
theorem eqV_of {K : W.Frag} {H : Hp} {x y : V} {d e : D} (r : RpD K H x d) (q : RpD K H y e) (h : d.flat = true) (h' : e.flat = true) : eqV x y = eqD d e := by
  unfold eqD
  cases r with
  | non => cases q <;> first | rfl | cases h'
  | bl b => cases q <;> first | rfl | cases h'
  | int i => cases q <;> first | rfl | cases h'
  | str z _ =>
    rw [py_str]
    cases q with
    | str z' _ => rw [py_str]; rfl
    | non => rfl
    | bl b => rfl
    | int i => rfl
    | _ => cases h'
  | _ => cases h
theorem inV_of {K : W.Frag} {F : FF} {H : Hp} (hF : Hs F H) {x : V} {d : D} (r : RpD K H x d) (h : d.flat = true) : ∀ {ys : List V} {ts : List T} {f : List Addr}, RpTs K F H ys ts f → (ts.all fun t => t.er.flat) = true →
    ys.all flatV = true ∧ inV x ys = ts.any fun t => eqD t.er d
  | _, _, _, .nil, _ => ⟨rfl, rfl⟩
  | _, _, _, .cons a b, e => by
    rw [List.all_cons, Bool.and_eq_true] at e
    have q := a.read hF.sub hF.nsub
    obtain ⟨h1, h2⟩ := inV_of hF r h b e.2
    refine ⟨by rw [List.all_cons, flatV_of q e.1, h1]; rfl, ?_⟩
    unfold inV at h2 ⊢
    rw [List.any_cons, List.any_cons, h2, eqV_of q r e.1 h]
def rC (K : W.Frag) : COp → R2
  | .eq => rEqD K
  | .ne => rNeD K
  | .lt => rI0 fun i j => .bl (decide (i < j))
  | .le => rI0 fun i j => .bl (decide (i ≤ j))
  | .gt => fun x y H Q => rI0 (fun i j => .bl (decide (j < i))) x y H Q ∨ rGtL K x y H Q
  | .ge => rI0 fun i j => .bl (decide (j ≤ i))
  | .isIn => fun x y H Q => (∃ (c : Nat) (z : Str), x = .str ⟨#[c]⟩ ∧ y = .str z ∧ Q (.bl (decide (c ∈ z.cps.toList))) H) ∨ rIn K false x y H Q ∨ rInD K x y H Q
  | .notIn => fun x y H Q => (∃ (c : Nat) (z : Str), x = .str ⟨#[c]⟩ ∧ y = .str z ∧ Q (.bl (!decide (c ∈ z.cps.toList))) H) ∨ rIn K true x y H Q ∨ rNotInD K x y H Q
  | .isB => rIsB
  | .ntB => rNotB
theorem op_C {X : Cx} (hu : X.A.units + 65 < cLine) (o : COp) : OpR X (compareOp o.op) (rC X.K o) := by
  cases o with
  | eq => exact op_eqD (by omega)
  | ne => exact op_neD (by omega)
  | lt => exact op_lt
  | le => exact op_le
  | gt => exact OpR.or op_gt (op_gtL (by omega))
  | ge => exact op_ge
  | isIn => exact OpR.or op_in_sign (OpR.or op_in_seq (op_inD hu))
  | notIn => exact OpR.or op_notIn_sign (OpR.or op_notIn_seq (op_notInD hu))
  | isB => exact op_isBl
  | ntB => exact op_notBl
theorem sign_mk {z : Str} {c : Nat} (h : z.cps.toList = [c]) : z = ⟨#[c]⟩ := by
  obtain ⟨a⟩ := z
  have : a = #[c] := by
    apply Array.toList_inj.mp
    simpa using h
  rw [this]
section
variable {K : W.Frag} {F : FF} {H : Hp} {x : V} {xs : List V} {t : T} {ts : List T} {f : List Addr}
theorem intsT_ok : ∀ {xs : List V} {ts : List T} {f : List Addr} {ns : List Int}, intsT ts = some ns → RpTs K F H xs ts f → xs = ns.map V.int
  | _, [], _, ns, e, .nil => by cases e; rfl
  | _, t :: ts, _, ns, e, .cons a b => by
    unfold intsT at e
    split at e
    · rename_i e0; cases e0
    · rename_i i ts' e0
      cases e0
      cases h : intsT ts with
      | none => rw [h] at e; cases e
      | some r =>
        rw [h] at e
        cases e
        obtain ⟨rfl, _⟩ := int_inv a
        rw [intsT_ok h b]; rfl
    · cases e
end
theorem inT_ok {K : W.Frag} {F : FF} {H : Hp} (hF : Hs F H) {x y : V} {a b : T} {fa fb : List Addr} {k : Bool} (ra : RpT K F H x a fa) (rb : RpT K F H y b fb) (e : inT a b = some k) :
    (∃ (c : Nat) (z : Str), x = .str ⟨#[c]⟩ ∧ y = .str z ∧ decide (c ∈ z.cps.toList) = k) ∨ (∃ p xs, y = .ref p ∧ (SqL K H p xs ∨ SqT K H p xs) ∧ flatV x = true ∧ xs.all flatV = true ∧ inV x xs = k) ∨
      (∃ d es, Dp K H x d ∧ Dp K H y (.list es) ∧ SeqAt.shaped d = true ∧ SeqAt.shaped (.list es) = true ∧ (es.any fun z => PyData.eqv z d) = k) := by
  unfold inT at e
  split at e
  · cases e
    obtain ⟨z, rfl, h1, _⟩ := str_inv ra
    obtain ⟨z', rfl, h2, _⟩ := str_inv rb
    have := sign_mk h1
    subst this
    exact .inl ⟨_, _, rfl, rfl, by rw [h2]⟩
  · split at e
    · rename_i ts eq
      split at e
      · rename_i hf
        cases e
        rw [Bool.and_eq_true] at hf
        obtain ⟨p, xs, g, rfl, hq, r1, _⟩ := asQ_ok eq hF rb
        have rd := ra.read hF.sub hF.nsub
        obtain ⟨h1, h2⟩ := inV_of hF rd hf.1 r1 hf.2
        exact .inr (.inl ⟨_, _, rfl, hq, flatV_of rd hf.1, h1, h2⟩)
      · have rd := ra.read hF.sub hF.nsub
        have ry := rb.read hF.sub hF.nsub
        unfold inDT at e
        split at e
        · rename_i es he
          split at e
          · rename_i h
            cases e
            rw [Bool.and_eq_true] at h
            rw [he] at ry
            have h1 := rd.dp h.1
            have h2 := ry.dp h.2
            have h3 := rd.shaped h.1
            have h4 := ry.shaped h.2
            have e5 : (D.lst es).py = .list (D.pys es) := by simp [D.py]
            rw [e5] at h2 h4
            refine .inr (.inr ⟨_, _, h1, h2, h3, h4, ?_⟩)
            have : ∀ es : List D, (D.pys es).any (fun z => PyData.eqv z a.er.py) = es.any fun z => eqD z a.er := fun es => by
              induction es with
              | nil => rfl
              | cons z zs ih => rw [D.pys, List.any_cons, List.any_cons, ih]; rfl
            exact this es
          · cases e
        · cases e
    · cases e
/-- what a comparison tells, by values -/
theorem cmpT_ok {K : W.Frag} {F : FF} {H : Hp} (hF : Hs F H) {x y : V} {a b : T} {fa fb : List Addr} {k : Bool} {o : COp} {Q : VK} (ra : RpT K F H x a fa) (rb : RpT K F H y b fb) (e : cmpT o a b = some k) (q : Q (.bl k) H) : rC K o x y H Q := by
  have eqs : ∀ {k}, eqT a b = some k → ∃ d e', Dp K H x d ∧ Dp K H y e' ∧ SeqAt.shaped d = true ∧ SeqAt.shaped e' = true ∧ PyData.eqv d e' = k := by
    intro k e
    unfold eqT at e
    split at e
    · rename_i h
      cases e
      rw [Bool.and_eq_true] at h
      have r1 := ra.read hF.sub hF.nsub
      have r2 := rb.read hF.sub hF.nsub
      exact ⟨_, _, r1.dp h.1, r2.dp h.2, r1.shaped h.1, r2.shaped h.2, rfl⟩
    · cases e
  cases o with
  | eq =>
    obtain ⟨d, e', h1, h2, h3, h4, h5⟩ := eqs e
    exact ⟨d, e', h1, h2, h3, h4, by rw [h5]; exact q⟩
  | ne =>
    have e : (eqT a b).map (fun b => !b) = some k := e
    cases h : eqT a b with
    | none => rw [h] at e; cases e
    | some k' =>
      rw [h] at e
      cases e
      obtain ⟨d, e', h1, h2, h3, h4, h5⟩ := eqs h
      exact ⟨d, e', h1, h2, h3, h4, by rw [h5]; exact q⟩
  | lt =>
    simp only [cmpT] at e
    split at e
    · cases e
      obtain ⟨rfl, _⟩ := int_inv ra
      obtain ⟨rfl, _⟩ := int_inv rb
      exact ⟨_, _, rfl, rfl, q⟩
    · cases e
  | le =>
    simp only [cmpT] at e
    split at e
    · cases e
      obtain ⟨rfl, _⟩ := int_inv ra
      obtain ⟨rfl, _⟩ := int_inv rb
      exact ⟨_, _, rfl, rfl, q⟩
    · cases e
  | gt =>
    simp only [cmpT] at e
    split at e
    · cases e
      obtain ⟨rfl, _⟩ := int_inv ra
      obtain ⟨rfl, _⟩ := int_inv rb
      exact .inl ⟨_, _, rfl, rfl, q⟩
    · split at e
      · rename_i ns ms e1 e2
        cases e
        cases f1 : lOnly a with
        | none => rw [f1] at e1; cases e1
        | some us =>
        cases f2 : lOnly b with
        | none => rw [f2] at e2; cases e2
        | some ws =>
        rw [f1] at e1
        rw [f2] at e2
        obtain ⟨p, xs, g, rfl, hq, r1, _⟩ := lOnly_ok f1 hF ra
        obtain ⟨p', xs', g', rfl, hq', r1', _⟩ := lOnly_ok f2 hF rb
        have h1 := intsT_ok e1 r1
        have h2 := intsT_ok e2 r1'
        subst h1 h2
        exact .inr ⟨_, _, _, _, rfl, rfl, hq, hq', q⟩
      · cases e
  | ge =>
    simp only [cmpT] at e
    split at e
    · cases e
      obtain ⟨rfl, _⟩ := int_inv ra
      obtain ⟨rfl, _⟩ := int_inv rb
      exact ⟨_, _, rfl, rfl, q⟩
    · cases e
  | isIn =>
    rcases inT_ok hF ra rb e with ⟨c, z, h1, h2, h3⟩ | ⟨p, xs, h1, h2, h3, h4, h5⟩ | ⟨d, es, h1, h2, h3, h4, h5⟩
    · exact .inl ⟨c, z, h1, h2, by rw [h3]; exact q⟩
    · exact .inr (.inl ⟨p, xs, h1, h2, h3, h4, by rw [if_neg Bool.false_ne_true, h5]; exact q⟩)
    · exact .inr (.inr ⟨d, es, h1, h2, h3, h4, by rw [h5]; exact q⟩)
  | notIn =>
    have e : (inT a b).map (fun b => !b) = some k := e
    cases h : inT a b with
    | none => rw [h] at e; cases e
    | some k' =>
      rw [h] at e
      cases e
      rcases inT_ok hF ra rb h with ⟨c, z, h1, h2, h3⟩ | ⟨p, xs, h1, h2, h3, h4, h5⟩ | ⟨d, es, h1, h2, h3, h4, h5⟩
      · exact .inl ⟨c, z, h1, h2, by rw [h3]; exact q⟩
      · exact .inr (.inl ⟨p, xs, h1, h2, h3, h4, by rw [if_pos rfl, h5]; exact q⟩)
      · exact .inr (.inr ⟨d, es, h1, h2, h3, h4, by rw [h5]; exact q⟩)
  | isB =>
    simp only [cmpT] at e
    split at e
    · cases e
      obtain ⟨rfl, _⟩ := bl_inv ra
      obtain ⟨rfl, _⟩ := bl_inv rb
      exact ⟨_, _, rfl, rfl, q⟩
    · cases e
  | ntB =>
    simp only [cmpT] at e
    split at e
    · cases e
      obtain ⟨rfl, _⟩ := bl_inv ra
      obtain ⟨rfl, _⟩ := bl_inv rb
      exact ⟨_, _, rfl, rfl, q⟩
    · cases e
theorem chk_set {N sc b m a k p} : chkE N sc b m (.Set a k p) = false := by cases m <;> rfl
theorem chk_star {N sc b m a p} : chkE N sc b m (.Starred a p) = false := by cases m <;> rfl
theorem chk_notSet {N sc b m e} (h : chkE N sc b m e = true) : notSet e = true := by
  cases e with
  | Set a k p => rw [chk_set] at h; cases h
  | _ => rfl
theorem chk_notStar {N sc b m e} (h : chkE N sc b m e = true) : notStar e = true := by
  cases e with
  | Starred a p => rw [chk_star] at h; cases h
  | _ => rfl
theorem marks_of {op : CmpOp} {e : Expr} (h : notSet e = true) : behindInMarks op e = false := by
  cases e with
  | Set a k p => cases h
  | _ => rfl
theorem fset_of {e : Expr} {env : PySem.Env} (h : notSet e = true) : ∀ x, foldedSetIterable e env x = pure x := by
  cases e with
  | Set a k p => cases h
  | _ => intro x; rfl
section
variable {G : Glob}
theorem ok_cmp {o : COp} {a b : E} (ha : Ok G a) (hb : Ok G b) : Ok G (.cmp o a b) := by
  have sh : ∀ {N sc b'} {e : Expr}, chkE N sc b' (.cmp o a b) e = true → ∃ x y pos, e = .Compare x [o.op] [y] pos ∧ chkE N sc b' a x = true ∧ chkE N sc b' b y = true := by
    intro N sc b' e c
    unfold chkE at c
    split at c
    · simp only [Bool.and_eq_true, decide_eq_true_eq] at c
      obtain ⟨⟨c1, c2⟩, c3⟩ := c
      subst c1
      exact ⟨_, _, _, rfl, c2, c3⟩
    · cases c
  have rd : ∀ {K : W.Frag} {W : WX} σ H Q, TE' K G W (.cmp o a b) σ H Q → tOp (rC K o) (TE' K G W a) (TE' K G W b) σ H Q := fun {K W} σ H Q h =>
    two (f := fun x y Γ => R.op ((cmpT o x y).map fun c => T.v (.bl c)) Γ) (fun B F H σ Γ tmp fa fb x y ta tb Q rel ra rb P => by
      cases e : cmpT o ta tb with
      | none => rw [e] at P; exact P.elim
      | some k =>
        rw [e] at P
        exact cmpT_ok rel.hs ra rb e (Post.flatv (Γ := Γ) P rel (fun c => by simp only [List.count_append]; omega) (.bl _))) σ H Q h
  refine ⟨fun X W b' e g c => ?_, fun X W b' e g c => ?_, pw_no fun N sc b op vs pos => rfl⟩
  · obtain ⟨x, y, pos, rfl, c1, c2⟩ := sh c
    exact PE.imp (pe_cmpR (op_C (by have := g.hu; omega) o) (ha.pe X W b' x g c1) (hb.pe X W b' y g c2) (marks_of (chk_notSet c2))) rd
  · obtain ⟨x, y, pos, rfl, c1, c2⟩ := sh c
    exact PT.imp (pt_cmpR (op_C (by have := g.hu; omega) o) (ha.pe X W b' x g c1) (hb.pe X W b' y g c2) (marks_of (chk_notSet c2))) fun σ H Q h => rd σ H _ h
theorem ok_cmp2 {o p : COp} {a b c : E} (ha : Ok G a) (hb : Ok G b) (hc : Ok G c) : Ok G (.cmp2 o p a b c) := by
  have sh : ∀ {N sc b'} {e : Expr}, chkE N sc b' (.cmp2 o p a b c) e = true → ∃ x y z pos, e = .Compare x [o.op, p.op] [y, z] pos ∧ chkE N sc b' a x = true ∧ chkE N sc b' b y = true ∧ chkE N sc b' c z = true := by
    intro N sc b' e c
    unfold chkE at c
    split at c
    · simp only [Bool.and_eq_true, decide_eq_true_eq] at c
      obtain ⟨⟨⟨⟨c1, c2⟩, c3⟩, c4⟩, c5⟩ := c
      subst c1 c2
      exact ⟨_, _, _, _, rfl, c3, c4, c5⟩
    · cases c
  have rd : ∀ {K : W.Frag} {W : WX} σ H Q, TE' K G W (.cmp2 o p a b c) σ H Q → tChain (rC K o) (rC K p) (TE' K G W a) (TE' K G W b) (TE' K G W c) σ H Q := by
    rintro K W σ H Q ⟨B, F, Γ, tmp, rel, P⟩
    refine ⟨B, F, Γ, tmp, rel, (P.bind (rep := rT K) (fp := [])).imp ?_⟩
    rintro x H1 ⟨ta, Γ1, F1, fa, rel1, ra, sH1, sF1, P1⟩
    refine ⟨B, F1, Γ1, fa ++ tmp, rel1, (P1.bind (rep := rT K) (fp := fa)).imp ?_⟩
    rintro y H2 ⟨tb, Γ2, F2, fb, rel2, rb, sH2, sF2, P2⟩
    cases e : cmpT o ta tb with
    | none => rw [e] at P2; exact P2.elim
    | some k =>
      rw [e] at P2
      refine cmpT_ok rel2.hs (ra.grow sF2 sH2) rb e ⟨k, rfl, ?_⟩
      cases k with
      | false =>
        rw [if_neg Bool.false_ne_true]
        exact Post.flatv (Γ := Γ2) P2 rel2 (fun c => by simp only [List.count_append]; omega) (.bl _)
      | true =>
        rw [if_pos rfl]
        refine ⟨B, F2, Γ2, _, rel2, ?_⟩
        rw [← List.append_assoc] at rel2 ⊢
        refine (P2.bind (rep := rT K) (fp := fb ++ fa)).imp ?_
        rintro z H3 ⟨tc, Γ3, F3, fc, rel3, rc, sH3, sF3, P3⟩
        cases e2 : cmpT p tb tc with
        | none => rw [e2] at P3; exact P3.elim
        | some k2 =>
          rw [e2] at P3
          exact cmpT_ok rel3.hs (rb.grow sF3 sH3) rc e2 (Post.flatv (Γ := Γ3) P3 rel3 (fun c => by simp only [List.count_append]; omega) (.bl _))
  refine ⟨fun X W b' e g c => ?_, fun X W b' e g c => ?_, pw_no fun N sc b op vs pos => rfl⟩
  · obtain ⟨x, y, z, pos, rfl, c1, c2, c3⟩ := sh c
    exact PE.imp (pe_chain (op_C (by have := g.hu; omega) o) (op_C (by have := g.hu; omega) p) (ha.pe X W b' x g c1) (hb.pe X W b' y g c2) (hc.pe X W b' z g c3) (marks_of (chk_notSet c3))) rd
  · obtain ⟨x, y, z, pos, rfl, c1, c2, c3⟩ := sh c
    exact PT.imp (pt_chain (op_C (by have := g.hu; omega) o) (op_C (by have := g.hu; omega) p) (ha.pe X W b' x g c1) (hb.pe X W b' y g c2) (hc.pe X W b' z g c3) (marks_of (chk_notSet c3))) fun σ H Q h => rd σ H _ h
theorem non_iff {K : W.Frag} {F : FF} {H : Hp} (hF : Hs F H) {x : V} {t : T} {f : List Addr} (r : RpT K F H x t f) : decide (x = .non) = t.er.isNon := by
  have q := r.read hF.sub hF.nsub
  generalize t.er = d at q
  cases q <;> rfl
theorem ok_isN {a : E} (ha : Ok G a) : Ok G (.isN a) := by
  have sh : ∀ {N sc b'} {e : Expr}, chkE N sc b' (.isN a) e = true → ∃ x j p pos, e = .Compare x [.Is] [.Constant .none j p] pos ∧ chkE N sc b' a x = true := by
    intro N sc b' e c
    unfold chkE at c
    split at c
    · exact ⟨_, _, _, _, rfl, c⟩
    · cases c
  have rd : ∀ {K : W.Frag} {W : WX} σ H Q, TE' K G W (.isN a) σ H Q → tIsN (TE' K G W a) σ H Q := fun {K W} σ H Q h =>
    one (rep := rT K) (r := fun x H (Q : VK) => Q (.bl (decide (x = .non))) H) (fun B F H σ Γ tmp fa x ta Q rel ra P => by
      rw [non_iff rel.hs ra]
      exact P.flatv rel (fun c => by simp only [List.count_append]; omega) (.bl _)) σ H Q h
  refine ⟨fun X W b' e g c => ?_, fun X W b' e g c => ?_, pw_no fun N sc b op vs pos => rfl⟩
  · obtain ⟨x, j, p, pos, rfl, c1⟩ := sh c
    exact PE.imp (pe_cmp (pc_isN (ha.pe X W b' x g c1))) rd
  · obtain ⟨x, j, p, pos, rfl, c1⟩ := sh c
    exact PT.imp (pt_cmp (pc_isN (ha.pe X W b' x g c1))) fun σ H Q h => rd σ H _ h
theorem ok_notN {a : E} (ha : Ok G a) : Ok G (.notN a) := by
  have sh : ∀ {N sc b'} {e : Expr}, chkE N sc b' (.notN a) e = true → ∃ x j p pos, e = .Compare x [.IsNot] [.Constant .none j p] pos ∧ chkE N sc b' a x = true := by
    intro N sc b' e c
    unfold chkE at c
    split at c
    · exact ⟨_, _, _, _, rfl, c⟩
    · cases c
  have rd : ∀ {K : W.Frag} {W : WX} σ H Q, TE' K G W (.notN a) σ H Q → tNotN (TE' K G W a) σ H Q := fun {K W} σ H Q h =>
    one (rep := rT K) (r := fun x H (Q : VK) => Q (.bl (!decide (x = .non))) H) (fun B F H σ Γ tmp fa x ta Q rel ra P => by
      rw [non_iff rel.hs ra]
      exact P.flatv rel (fun c => by simp only [List.count_append]; omega) (.bl _)) σ H Q h
  refine ⟨fun X W b' e g c => ?_, fun X W b' e g c => ?_, pw_no fun N sc b op vs pos => rfl⟩
  · obtain ⟨x, j, p, pos, rfl, c1⟩ := sh c
    exact PE.imp (pe_cmp (pc_notN (ha.pe X W b' x g c1))) rd
  · obtain ⟨x, j, p, pos, rfl, c1⟩ := sh c
    exact PT.imp (pt_cmp (pc_notN (ha.pe X W b' x g c1))) fun σ H Q h => rd σ H _ h

/-! ### and, or -/
theorem Post.more {α β : Type} {K : W.Frag} {W : WX} {B : Base} {F : FF} {H : Hp} {σ : L2.St} {tmp tmp2 : List Addr} {rep : FF → Hp → β → α → List Addr → Prop} {r : R α} {Q : β → Hp → Prop} (P : Post K G W B F H σ tmp rep r Q) (hc : ∀ c, tmp.count c ≤ tmp2.count c) : Post K G W B F H σ tmp2 rep r Q := by
  cases r with
  | bad => exact P
  | ok a Γ => exact fun v F' H' fp h1 h2 h3 h4 => P v F' H' fp (h1.less fun a => by rw [List.count_append, List.count_append]; have := hc a; omega) h2 h3 h4
  | ex x Γ => exact fun c d F' H' h1 h2 h3 h4 => P c d F' H' (h1.less hc) h2 h3 h4
theorem ok_and {a b : E} (ha : Ok G a) (hb : Ok G b) : Ok G (.and a b) := by
  have sh : ∀ {N sc b'} {e : Expr}, chkE N sc b' (.and a b) e = true → ∃ x y r pos, e = .BoolOp .And (x :: y :: r) pos ∧ chkE N sc b' a x = true ∧ ((r = [] ∧ chkE N sc b' b y = true) ∨ chkE N sc b' b (.BoolOp .And (y :: r) pos) = true) := by
    intro N sc b' e c
    unfold chkE at c
    split at c
    · rename_i x y r pos
      rw [Bool.and_eq_true] at c
      refine ⟨x, y, r, pos, rfl, c.1, ?_⟩
      have c2 := c.2
      split at c2
      · rename_i hr
        exact .inl ⟨by simpa using hr, c2⟩
      · exact .inr c2
    · cases c
  have rd : ∀ {K : W.Frag} {W : WX} σ H Q, TE' K G W (.and a b) σ H Q → tAndV (TE' K G W a) (TE' K G W b) σ H Q := by
    rintro K W σ H Q ⟨B, F, Γ, tmp, rel, P⟩
    refine ⟨B, F, Γ, tmp, rel, (P.bind (rep := rT K) (fp := [])).imp ?_⟩
    rintro x H1 ⟨ta, Γ1, F1, fa, rel1, ra, sH1, sF1, P1⟩
    split at P1
    · obtain ⟨rfl, rfl⟩ := bl_inv ra
      exact ⟨true, rfl, by rw [if_pos rfl]; exact ⟨B, F1, Γ1, _, rel1, P1⟩⟩
    · obtain ⟨rfl, rfl⟩ := bl_inv ra
      exact ⟨false, rfl, by rw [if_neg Bool.false_ne_true]; exact P1.flatv rel1 (fun c => by simp only [List.count_append]; omega) (.bl _)⟩
    · exact P1.elim
  have pe : ∀ X W b' e, Gd X G W b' → chkE X.N X.env.scope b' (.and a b) e = true → PE X e (TE' X.K G W (.and a b)) := by
    intro X W b' e g c
    obtain ⟨x, y, r, pos, rfl, c1, c2⟩ := sh c
    rcases c2 with ⟨rfl, c2⟩ | c2
    · exact PE.imp (pe_and (ha.pe X W b' x g c1) (pe_one (hb.pe X W b' y g c2))) rd
    · exact PE.imp (pe_and (ha.pe X W b' x g c1) (hb.pe X W b' _ g c2)) rd
  have pw : ∀ X W b' op vs pos, Gd X G W b' → chkE X.N X.env.scope b' (.and a b) (.BoolOp op vs pos) = true → PW X (.BoolOp op vs pos) (tB (TE' X.K G W (.and a b))) := by
    intro X W b' op vs pos g c
    obtain ⟨x, y, r, pos, e, c1, c2⟩ := sh c
    cases e
    have im : ∀ σ H Q, tB (TE' X.K G W (.and a b)) σ H Q → tAnd (tB (TE' X.K G W a)) (tB (TE' X.K G W b)) σ H Q := by
      intro σ H Q h
      obtain ⟨B, F, Γ, tmp, rel, P⟩ := rd σ H _ h
      refine ⟨B, F, Γ, tmp, rel, P.imp ?_⟩
      rintro v H' ⟨c, rfl, q⟩
      refine ⟨c, rfl, ?_⟩
      cases c with
      | true => rw [if_pos rfl] at q ⊢; exact q
      | false =>
        rw [if_neg Bool.false_ne_true] at q ⊢
        obtain ⟨d, e, q⟩ := q
        cases e; exact q
    rcases c2 with ⟨rfl, c2⟩ | c2
    · exact PW.imp (pw_and (ha.pt X W b' x g c1) (pw_and1 (hb.pt X W b' y g c2))) im
    · exact PW.imp (pw_and (ha.pt X W b' x g c1) (hb.pw X W b' _ _ _ g c2)) im
  refine ⟨pe, fun X W b' e g c => ?_, pw⟩
  obtain ⟨x, y, r, pos, rfl, c1, c2⟩ := sh c
  exact (pw X W b' _ _ _ g c).pt
theorem ok_or {a b : E} (ha : Ok G a) (hb : Ok G b) : Ok G (.or a b) := by
  have sh : ∀ {N sc b'} {e : Expr}, chkE N sc b' (.or a b) e = true → ∃ x y r pos, e = .BoolOp .Or (x :: y :: r) pos ∧ chkE N sc b' a x = true ∧ ((r = [] ∧ chkE N sc b' b y = true) ∨ chkE N sc b' b (.BoolOp .Or (y :: r) pos) = true) := by
    intro N sc b' e c
    unfold chkE at c
    split at c
    · rename_i x y r pos
      rw [Bool.and_eq_true] at c
      refine ⟨x, y, r, pos, rfl, c.1, ?_⟩
      have c2 := c.2
      split at c2
      · rename_i hr
        exact .inl ⟨by simpa using hr, c2⟩
      · exact .inr c2
    · cases c
  have rd : ∀ {K : W.Frag} {W : WX} σ H Q, TE' K G W (.or a b) σ H Q → tOrV (TE' K G W a) (TE' K G W b) σ H Q := by
    rintro K W σ H Q ⟨B, F, Γ, tmp, rel, P⟩
    refine ⟨B, F, Γ, tmp, rel, (P.bind (rep := rT K) (fp := [])).imp ?_⟩
    rintro x H1 ⟨ta, Γ1, F1, fa, rel1, ra, sH1, sF1, P1⟩
    split at P1
    · obtain ⟨rfl, rfl⟩ := bl_inv ra
      exact ⟨false, rfl, by rw [if_neg Bool.false_ne_true]; exact ⟨B, F1, Γ1, _, rel1, P1⟩⟩
    · obtain ⟨rfl, rfl⟩ := bl_inv ra
      exact ⟨true, rfl, by rw [if_pos rfl]; exact P1.flatv rel1 (fun c => by simp only [List.count_append]; omega) (.bl _)⟩
    · exact P1.elim
  have pe : ∀ X W b' e, Gd X G W b' → chkE X.N X.env.scope b' (.or a b) e = true → PE X e (TE' X.K G W (.or a b)) := by
    intro X W b' e g c
    obtain ⟨x, y, r, pos, rfl, c1, c2⟩ := sh c
    rcases c2 with ⟨rfl, c2⟩ | c2
    · exact PE.imp (pe_or (ha.pe X W b' x g c1) (pe_one (hb.pe X W b' y g c2))) rd
    · exact PE.imp (pe_or (ha.pe X W b' x g c1) (hb.pe X W b' _ g c2)) rd
  have pw : ∀ X W b' op vs pos, Gd X G W b' → chkE X.N X.env.scope b' (.or a b) (.BoolOp op vs pos) = true → PW X (.BoolOp op vs pos) (tB (TE' X.K G W (.or a b))) := by
    intro X W b' op vs pos g c
    obtain ⟨x, y, r, pos, e, c1, c2⟩ := sh c
    cases e
    have im : ∀ σ H Q, tB (TE' X.K G W (.or a b)) σ H Q → tOr (tB (TE' X.K G W a)) (tB (TE' X.K G W b)) σ H Q := by
      intro σ H Q h
      obtain ⟨B, F, Γ, tmp, rel, P⟩ := rd σ H _ h
      refine ⟨B, F, Γ, tmp, rel, P.imp ?_⟩
      rintro v H' ⟨c, rfl, q⟩
      refine ⟨c, rfl, ?_⟩
      cases c with
      | false => rw [if_neg Bool.false_ne_true] at q ⊢; exact q
      | true =>
        rw [if_pos rfl] at q ⊢
        obtain ⟨d, e, q⟩ := q
        cases e; exact q
    rcases c2 with ⟨rfl, c2⟩ | c2
    · exact PW.imp (pw_or (ha.pt X W b' x g c1) (pw_or1 (hb.pt X W b' y g c2))) im
    · exact PW.imp (pw_or (ha.pt X W b' x g c1) (hb.pw X W b' _ _ _ g c2)) im
  refine ⟨pe, fun X W b' e g c => ?_, pw⟩
  obtain ⟨x, y, r, pos, rfl, c1, c2⟩ := sh c
  exact (pw X W b' _ _ _ g c).pt
end
end Tv

namespace Tv
open PySem PySem.Spec PyProof.Rows L2

/-! ### arguments -/
theorem star_of {e : Expr} {es : List Expr} {env : PySem.Env} (h : notStar e = true) : starEach (e :: es) env = (false, eval e env) :: starEach es env := by
  cases e with
  | Starred a p => cases h
  | _ => rfl
theorem plain_of {N sc b} {env : PySem.Env} {pos : Pos} : ∀ {m : Es} {es : List Expr}, chkEs N sc b m es = true → (backTo pos (starEach es env)).any (·.1) = false
  | .nil, [], _ => rfl
  | .nil, _ :: _, h => by simp [chkEs] at h
  | .cons _ _, [], h => by simp [chkEs] at h
  | .cons m ms, e :: es, h => by
    simp only [chkEs, Bool.and_eq_true] at h
    rw [star_of h.1.2]
    show ((false, _) :: backTo pos (starEach es env)).any (·.1) = false
    rw [List.any_cons, plain_of h.2]; rfl
section
variable {G : Glob}
theorem ok_nil : OkEs G .nil := by
  intro X W b es g c
  cases es with
  | nil =>
    refine PA.imp pa_nil fun σ H Q h => ?_
    obtain ⟨B, F, Γ, tmp, rel, P⟩ := h
    exact P [] F H [] (by simpa using rel) .nil Sub.refl SubF.refl
  | cons e es => simp [chkEs] at c
theorem ok_cons {m : E} {ms : Es} (h1 : Ok G m) (h2 : OkEs G ms) : OkEs G (.cons m ms) := by
  intro X W b es g c
  cases es with
  | nil => simp [chkEs] at c
  | cons e es =>
    simp only [chkEs, Bool.and_eq_true] at c
    refine PA.imp (pa_cons (h1.pe X W b e g c.1.1) (h2 X W b es g c.2) (star_of c.1.2)) fun σ H Q h => ?_
    obtain ⟨B, F, Γ, tmp, rel, P⟩ := h
    refine ⟨B, F, Γ, tmp, rel, (Post.bind (rep := rT X.K) (fp := []) P).imp ?_⟩
    rintro x H1 ⟨t, Γ1, F1, fa, rel1, ra, sH1, sF1, P1⟩
    refine ⟨B, F1, Γ1, fa ++ tmp, rel1, (Post.bind (rep := rTs X.K) (fp := fa) P1).imp ?_⟩
    rintro xs H2 ⟨ts, Γ2, F2, fb, rel2, rb, sH2, sF2, P2⟩
    refine P2 (x :: xs) F2 H2 (fa ++ fb) (rel2.less fun a => by simp only [List.count_append]; omega) (.cons (ra.grow sF2 sH2) rb) Sub.refl SubF.refl
/-- arguments, then what is made of them -/
theorem args {K : W.Frag} {W : WX} {m : Es} {f : List T → Env → R T} {r : List V → Hp → VK → Prop}
    (h : ∀ B (F : FF) H σ Γ tmp fp xs ts Q, Rel K B F H σ Γ (fp ++ tmp) → RpTs K F H xs ts fp → Post K G W B F H σ tmp (rT K) (f ts Γ) Q → r xs H Q) :
    ∀ σ H Q, TM K G W (rT K) (fun Γ => (evEs G.cl G.con m Γ).bind fun ts Γ1 => f ts Γ1) σ H Q → TA' K G W m σ H fun vs H1 => r vs H1 Q := by
  rintro σ H Q ⟨B, F, Γ, tmp, rel, P⟩
  refine ⟨B, F, Γ, tmp, rel, (Post.bind (rep := rTs K) (fp := []) P).imp ?_⟩
  rintro x H1 ⟨ta, Γ1, F1, fa, rel1, ra, sH1, sF1, P1⟩
  exact h B F1 H1 σ Γ1 tmp fa x ta Q rel1 ra P1

/-! ### displays -/
theorem ok_lst {m : Es} (hm : OkEs G m) : Ok G (.lst m) := by
  have sh : ∀ {N sc b'} {e : Expr}, chkE N sc b' (.lst m) e = true → ∃ xs pos, e = .List xs pos ∧ chkEs N sc b' m xs = true := by
    intro N sc b' e c
    unfold chkE at c
    split at c
    · exact ⟨_, _, rfl, c⟩
    · cases c
  have pe : ∀ X W b' e, Gd X G W b' → chkE X.N X.env.scope b' (.lst m) e = true → PE X e (TE' X.K G W (.lst m)) := by
    intro X W b' e g c
    obtain ⟨xs, pos, rfl, c1⟩ := sh c
    refine PE.imp (pe_lst (hm X W b' xs g c1)) fun σ H Q h => ?_
    refine args (r := fun xs H Q => xs.length ≤ sizeLine ∧ ∀ p, H p = none → Q (.ref p) (upd H p (.lst xs))) (fun B F H σ Γ tmp fp xs ts Q rel ra P => ?_) σ H Q h
    split at P
    · rename_i hc
      rw [decide_eq_true_eq] at hc
      exact ⟨by rw [ra.length, sizeLine_eq]; exact hc, P.newL rel ra fun c => by simp only [List.count_append]; omega⟩
    · exact P.elim
  refine ⟨pe, fun X W b' e g c => ?_, pw_no fun N sc b op vs pos => rfl⟩
  obtain ⟨xs, pos, rfl, c1⟩ := sh c
  exact tB_of (pe X W b' _ g c) fun _ => rfl
theorem ok_tup {m : Es} (hm : OkEs G m) : Ok G (.tup m) := by
  have sh : ∀ {N sc b'} {e : Expr}, chkE N sc b' (.tup m) e = true → ∃ xs k pos, e = .Tuple xs k pos ∧ chkEs N sc b' m xs = true := by
    intro N sc b' e c
    unfold chkE at c
    split at c
    · exact ⟨_, _, _, rfl, c⟩
    · cases c
  have pe : ∀ X W b' e, Gd X G W b' → chkE X.N X.env.scope b' (.tup m) e = true → PE X e (TE' X.K G W (.tup m)) := by
    intro X W b' e g c
    obtain ⟨xs, k, pos, rfl, c1⟩ := sh c
    refine PE.imp (pe_tup (hm X W b' xs g c1)) fun σ H Q h => ?_
    refine args (r := fun xs H Q => xs.length ≤ sizeLine ∧ ∀ p, H p = none → Q (.ref p) (upd H p (.tup xs))) (fun B F H σ Γ tmp fp xs ts Q rel ra P => ?_) σ H Q h
    split at P
    · rename_i hc
      rw [decide_eq_true_eq] at hc
      exact ⟨by rw [ra.length, sizeLine_eq]; exact hc, P.newT rel ra fun c => by simp only [List.count_append]; omega⟩
    · exact P.elim
  refine ⟨pe, fun X W b' e g c => ?_, pw_no fun N sc b op vs pos => rfl⟩
  obtain ⟨xs, k, pos, rfl, c1⟩ := sh c
  exact tB_of (pe X W b' _ g c) fun _ => rfl

theorem ok_dic0 {t : Bool} : Ok G (.dic0 t) := by
  have sh : ∀ {N sc b'} {e : Expr}, chkE N sc b' (.dic0 t) e = true → ∃ pos, e = .Dict [] [] pos := by
    intro N sc b' e c
    unfold chkE at c
    split at c
    · exact ⟨_, rfl⟩
    · cases c
  have pe : ∀ X W b' e, Gd X G W b' → chkE X.N X.env.scope b' (.dic0 t) e = true → PE X e (TE' X.K G W (.dic0 t)) := by
    intro X W b' e g c
    obtain ⟨pos, rfl⟩ := sh c
    cases t with
    | false =>
      refine PE.imp pe_dnewK fun σ H Q h => ?_
      obtain ⟨B, F, Γ, tmp, rel, P⟩ := h
      intro p hp
      exact P (.ref p) F _ [p] (rel.alloc hp rfl) (.dc (f := []) (.inl upd_same) (DH.k [] rfl .nil) .nil) (upd_sub hp) SubF.refl
    | true =>
      refine PE.imp pe_dnewT fun σ H Q h => ?_
      obtain ⟨B, F, Γ, tmp, rel, P⟩ := h
      intro p hp
      exact P (.ref p) F _ [p] (rel.alloc hp rfl) (.dc (f := []) (.inl upd_same) (DH.t [] rfl .nil) .nil) (upd_sub hp) SubF.refl
  refine ⟨pe, fun X W b' e g c => ?_, pw_no fun N sc b op vs pos => rfl⟩
  obtain ⟨pos, rfl⟩ := sh c
  exact tB_of (pe X W b' _ g c) fun _ => rfl
end

/-! ### behind a call -/
theorem hideA_nil {H : Hp} : hideA H [] = H := by funext a; simp [hideA]
section
variable {K : W.Frag} {G : Glob} {W : WX} {B : Base} {F F' : FF} {H H' F0 : Hp} {σ : L2.St} {Γ : Env} {tmp fp : List Addr} {t : T} {v : V} {Q : VK}
/-- what the call told, for the caller: where nothing was lent -/
theorem Post.callA (P : Post K G W B F H σ tmp (rT K) (.ok t Γ) Q) (rel : Rel K B F H σ Γ tmp) (sH : Sub H H') (c : CallEnd H F.f F' H') (rt : RpT K F' H' v t fp) (hc : ∀ a, fp.count a ≤ 1) (hf : ∀ a ∈ fp, F'.f a = none ∧ H a = none ∧ H' a ≠ none) : Q v H' := by
  have r2 := rel.called (f1 := fp) sH rel.sub c hc hf
  refine P v _ H' fp r2 (rt.moveA (fun a o e => ?_) (Sub.of (behind_n rel rel.sub c))) sH (behind_sub rel)
  by_cases q : H a = none
  · rw [behind_f_new q]; exact .inl e
  · rw [behind_f_old q]
    rcases c.newF a q with n | ⟨ob, u, n1, n2, n3⟩
    · exact .inl (by rw [← n]; exact e)
    · rw [e] at n3; cases n3
      exact .inr (.inr ⟨ob, u, rfl, n2, n1⟩)
/-- .. where something was -/
theorem Post.callB (P : Post K G W B F H σ tmp (rT K) (.ok t Γ) Q) (rel : Rel K B F H σ Γ tmp) (sH : Sub H H') (c : CallEnd H H F' H') (rt : RpT K F' H' v t fp) (hcl : t.cl = true) (hc : ∀ a, fp.count a ≤ 1) (hf : ∀ a ∈ fp, F'.f a = none ∧ H a = none ∧ H' a ≠ none) : Q v H' := by
  have r2 := rel.called (f1 := fp) sH Sub.refl c hc hf
  exact P v _ H' fp r2 (rt.move (behind_stb rel (fun a o e _ => e) Sub.refl c) (behind_n rel Sub.refl c) hcl) sH (behind_sub rel)
theorem Post.callX {α β : Type} {rep : FF → Hp → β → α → List Addr → Prop} {Q : β → Hp → Prop} {x : Exn} {d : Option Addr} (P : Post K G W B F H σ tmp rep (.ex x Γ) Q) (rel : Rel K B F H σ Γ tmp) (sH : Sub H H') (h0 : Sub F0 H) (hs : Stb H F0) (c : CallEnd H F0 F' H') {cv : Value} (hx : G.exr x cv d F' H') : W cv d σ H' := by
  have r2 := rel.called (f1 := []) sH h0 c (fun a => by simp) (fun a m => by simp at m)
  exact P cv d _ H' (by simpa using r2) sH (behind_sub rel) (G.exst x cv d _ _ H' (behind_stb rel hs h0 c) hx)
end
theorem toVs {K : W.Frag} {F0 H : Hp} {xs : List V} {ds : List D} (h : RpDs K F0 xs ds) : RpTs K ⟨F0, stF F0⟩ H xs (ds.map .v) [] := RpDs.toV (F := ⟨F0, stF F0⟩) h
theorem noBs_v (ds : List D) : T.noBs (ds.map .v) = true := by
  rw [noBs_all, List.all_map, List.all_eq_true]
  intro d _; rfl
/-- a call of the small run: what its promise asks, what comes of it -/
theorem call_spM {K : W.Frag} {G : Glob} {W : WX} {B : Base} {F : FF} {H : Hp} {σ : L2.St} {Γ : Env} {tmp fa : List Addr} {f : String} {xs : List V} {ts : List T} {Q : VK} (rel : Rel K B F H σ Γ (fa ++ tmp)) (ra : RpTs K F H xs ts fa)
    (P : Post K G W B F H σ tmp (rT K) (callT ts (G.cl f ((T.ers ts).map .v)) Γ) Q) : spM K G [] f xs H Q (WE W σ) := by
  unfold callT at P
  cases nb : T.noBs ts with
  | true =>
    have rd := ra.freeze rel.sub rel.nsub nb
    have rel2 := rel.freezeTmp (f1 := fa) (g := tmp) fun c => by simp only [List.count_append]; omega
    have P2 := P.later (H1 := H) Sub.refl (addF_sub (f := fa) rel.sub rel.nsub)
    refine ⟨_, _, [], by rw [hideA_nil]; exact rel2.sub, rel2.stf, toVs rd, noBs_v _, fun a => by simp, fun a m => by simp at m, ?_⟩
    cases ec : G.cl f ((T.ers ts).map .v) with
    | bad => rw [ec] at P; exact P.elim
    | ret t os =>
      rw [ec] at P2
      cases os with
      | cons _ _ => exact P2.elim
      | nil =>
        simp only [nb, Bool.true_or, if_true] at P2
        rw [hideA_nil]
        intro v F' H' fp vo fo sH c rt nbt ep ro nbo hc hf
        cases ep
        cases ro
        exact P2.callA rel2 sH c rt (fun a => by simpa using hc a) (fun a m => hf a (by simpa using m))
    | ex x os =>
      rw [ec] at P2
      cases os with
      | cons _ _ => exact P2.elim
      | nil =>
        rw [hideA_nil]
        intro cv d F' H' vo fo sH c ep ro nbo hc hf hx
        exact P2.callX rel2 sH rel2.sub rel2.stf c hx
  | false =>
    have rd := rel.rds ra
    have rel2 := rel.less (tmp' := tmp) fun c => by simp only [List.count_append]; omega
    refine ⟨H, _, [], by rw [hideA_nil]; exact Sub.refl, fun a o e _ => e, toVs rd, noBs_v _, fun a => by simp, fun a m => by simp at m, ?_⟩
    cases ec : G.cl f ((T.ers ts).map .v) with
    | bad => rw [ec] at P; exact P.elim
    | ret t os =>
      rw [ec] at P
      cases os with
      | cons _ _ => exact P.elim
      | nil =>
        simp only [nb, Bool.false_or] at P
        split at P
        · rename_i hcl
          rw [hideA_nil]
          intro v F' H' fp vo fo sH c rt nbt ep ro nbo hc hf
          cases ep
          cases ro
          exact P.callB rel2 sH c rt hcl (fun a => by simpa using hc a) (fun a m => hf a (by simpa using m))
        · exact P.elim
    | ex x os =>
      rw [ec] at P
      cases os with
      | cons _ _ => exact P.elim
      | nil =>
        rw [hideA_nil]
        intro cv d F' H' vo fo sH c ep ro nbo hc hf hx
        exact P.callX rel2 sH Sub.refl (fun a o e _ => e) c hx
section
variable {G : Glob}
theorem chkEs_split {N sc b m} {y : Expr} {ys : List Expr} (c : chkEs N sc b m (y :: ys) = true) : ∃ m1 ms, m = .cons m1 ms ∧ chkEs N sc b ms ys = true ∧ notStar y = true := by
  cases m with
  | nil => simp [chkEs] at c
  | cons m1 ms => simp only [chkEs, Bool.and_eq_true] at c; exact ⟨m1, ms, rfl, c.2, c.1.2⟩
theorem ok_call {f : String} {m : Es} (hm : OkEs G m) : Ok G (.call f m) := by
  have sh : ∀ {N sc b'} {e : Expr}, chkE N sc b' (.call f m) e = true → ∃ p y ys pos, e = .Call (.Name (Str.ofString f) p) (y :: ys) [] pos ∧ f ∈ b'.fns ∧ glB sc (Str.ofString f) = true ∧ (Str.ofString f == ("__debug__" : Str)) = false ∧ chkEs N sc b' m (y :: ys) = true := by
    intro N sc b' e c
    unfold chkE at c
    split at c
    · simp only [Bool.and_eq_true, decide_eq_true_eq, Bool.not_eq_true', List.contains_iff_mem] at c
      obtain ⟨⟨⟨⟨c1, c2⟩, c3⟩, c4⟩, c5⟩ := c
      subst c1
      exact ⟨_, _, _, _, rfl, c2, c3, c4, c5⟩
    · cases c
  have pe : ∀ X W b' e, Gd X G W b' → chkE X.N X.env.scope b' (.call f m) e = true → PE X e (TE' X.K G W (.call f m)) := by
    intro X W b' e g c
    obtain ⟨p, y, ys, pos, rfl, c1, c2, c3, c4⟩ := sh c
    obtain ⟨a, k, f1, ⟨fd, ps, f2, f3, f4⟩, f5⟩ := g.fn f c1
    obtain ⟨m1, ms, e1, e2, e3⟩ := chkEs_split c4
    have hg : Gl X (Str.ofString f) := (of_decide_eq_true c2 : X.env.scope.names.lookup (Str.ofString f) = some .globalImplicit)
    refine PE.imp (pe_callS (E := WE W) f4 f5 hg f1 f2 f3 (fun σ => passAt g.tk σ) (hm X W b' (y :: ys) g c4) c3 (star_of e3) (plain_of e2)) fun σ H Q h => ?_
    obtain ⟨B, F, Γ, tmp, rel, P⟩ := h
    refine ⟨B, F, Γ, tmp, rel, (Post.bind (rep := rTs X.K) (fp := []) P).imp ?_⟩
    rintro xs H1 ⟨ts, Γ1, F1, fa, rel1, ra, sH1, sF1, P1⟩
    show spM X.K G [] f xs H1 Q (WE W σ)
    exact call_spM rel1 ra P1
  refine ⟨pe, fun X W b' e g c => ?_, pw_no fun N sc b op vs pos => rfl⟩
  obtain ⟨p, y, ys, pos, rfl, c1, c2, c3, c4⟩ := sh c
  exact tB_of (pe X W b' _ g c) fun _ => rfl
end
end Tv

namespace Tv
open PySem PySem.Spec PyProof.Rows L2

/-! ### calls of methods, of classes: what is raised is wished for at the caller's slots -/
theorem form_of {N sc b} {env : PySem.Env} {pos : Pos} : ∀ {m : Es} {es : List Expr}, chkEs N sc b m es = true → ((backTo pos (starEach es env)).all (fun x => !x.1)) = true ∧ (backTo pos (starEach es env)).length = es.length
  | .nil, [], _ => ⟨rfl, rfl⟩
  | .nil, _ :: _, h => by simp [chkEs] at h
  | .cons _ _, [], h => by simp [chkEs] at h
  | .cons m ms, e :: es, h => by
    simp only [chkEs, Bool.and_eq_true] at h
    rw [star_of h.1.2]
    obtain ⟨h1, h2⟩ := form_of (env := env) (pos := pos) h.2
    show ((false, _) :: backTo pos (starEach es env)).all _ = true ∧ ((false, _) :: backTo pos (starEach es env)).length = _
    rw [List.all_cons, h1, List.length_cons, h2]
    exact ⟨rfl, rfl⟩
theorem meth_tree {o : Expr} {m : Str} {apos pos : Pos} {args : List Expr} {env : PySem.Env} (hb : attributeBase o m env (eval o env) = eval o env) (hl : apos.endLine = pos.line) (hn : args.length < 29)
    (hs : ((backTo pos (starEach args env)).all (fun x => !x.1)) = true) :
    eval (.Call (.Attribute o m apos) args [] pos) env = (do
      let ov ← eval o env
      standAt apos.atName
      let (f, first) ← holding [ov] (getMethod ov m (do return (← importBound o env).getD true))
      callWith pos f first (backTo pos (starEach args env)) (backToKw pos (keywordEach [] env))) := by
  refine mcall_of hb fun ov => ?_
  have hf : methodCallForm (args.length + ([] : List Keyword).length) (backTo pos (starEach args env)) (backToKw pos (keywordEach [] env)) = true := by
    unfold methodCallForm
    rw [hs]
    show (true && true && decide (args.length + 0 + 0 < 30)) = true
    simp; omega
  unfold methodCall methodCallPos calleeOf
  rw [hf]
  have h2 : (apos.endLine == pos.line) = true := by rw [hl]; exact beq_self_eq_true _
  simp only [if_true, h2, Bool.not_true, Bool.false_or, pure_bind]
section
variable {X : Cx} {CX : CXT} {k : Nat} {f C : Addr} {fd : FuncData} {ps : List Str} {sp : Sp} {E : L2.St → XK} {x m : Str} {p pos apos : Pos} {e o : Expr} {es : List Expr} {ta : TE} {t : TA}
def tMethS (C : Addr) (m : Str) (sp : Sp) (E : L2.St → XK) (ta : TE) (t : TA) : TE := fun σ H Q => ta σ H fun x H1 => ∃ a dx fs, x = .ref a ∧ H1 a = some (.ins C dx fs) ∧ fs.lookup m = none ∧
  t σ H1 fun vs H2 => sp (x :: vs) H2 Q (E σ)
theorem pe_methS {pl : Sem Bool} (he : PE X o ta) (c : Cls X.K C) (hm : Meth X.K C m f) (F : FnOk X.prog X.w X.K X.mg X.base CX k f fd ps sp) (hr : Room k X.A) (hb : Binds X.K fd ps []) (hx : ∀ σ, PassesAt CX X σ (E σ)) (ha : PA X (e :: es) t)
    (hst : starEach (e :: es) X.env = (false, eval e X.env) :: starEach es X.env) (hpl : (backTo pos (starEach es X.env)).any (·.1) = false)
    (ht : eval (.Call (.Attribute o m apos) (e :: es) [] pos) X.env = (do
      let ov ← eval o X.env
      standAt apos.atName
      let (f, first) ← holding [ov] (getMethod ov m pl)
      callWith pos f first (backTo pos (starEach (e :: es) X.env)) (backToKw pos (keywordEach [] X.env)))) :
    PE X (.Call (.Attribute o m apos) (e :: es) [] pos) (tMethS C m sp E ta t) := by
  refine ⟨fun pins s σ H Q I h => ?_⟩
  refine PySem.W.methodCall_KW (pl := pl) (thn (he.run pins s σ H _ I h) fun u s1 ⟨x, H1, I1, rx, a, dx, fs, ex, ea, l, q⟩ => ?_) ht
  subst ex
  obtain rfl : u = Value.ref a := rx
  refine getmeth_ok I1 ea c hm l ?_
  refine PySem.W.callWith_K (first := [.ref a]) (h₀ := X.base) I.ok.mod.kin hm.kp (thn (ha.run pos pins s1 σ H1 _ I1 q) fun us s2 ⟨vs, H2, I2, r, q2⟩ => ⟨I2.kIn, ?_⟩) hst hpl
  exact run_fnS (us := .ref a :: us) (vs := .ref a :: vs) F hr hb (hx σ) I2 (.cons rfl r) q2
theorem pe_methS0 {pl : Sem Bool} (he : PE X o ta) (c : Cls X.K C) (hm : Meth X.K C m f) (F : FnOk X.prog X.w X.K X.mg X.base CX k f fd ps sp) (hr : Room k X.A) (hb : Binds X.K fd ps []) (hx : ∀ σ, PassesAt CX X σ (E σ))
    (ht : eval (.Call (.Attribute o m apos) [] [] pos) X.env = (do
      let ov ← eval o X.env
      standAt apos.atName
      let (f, first) ← holding [ov] (getMethod ov m pl)
      callWith pos f first (backTo pos (starEach [] X.env)) (backToKw pos (keywordEach [] X.env)))) :
    PE X (.Call (.Attribute o m apos) [] [] pos) (tMethS C m sp E ta tNil) := by
  refine ⟨fun pins s σ H Q I h => ?_⟩
  refine PySem.W.methodCall_KW (pl := pl) (thn (he.run pins s σ H _ I h) fun u s1 ⟨x, H1, I1, rx, a, dx, fs, ex, ea, l, q⟩ => ?_) ht
  subst ex
  obtain rfl : u = Value.ref a := rx
  refine getmeth_ok I1 ea c hm l ?_
  exact PySem.W.callWith_K0 (first := [.ref a]) I1.kIn hm.kp (run_fnS (us := [.ref a]) (vs := [.ref a]) F hr hb (hx σ) I1 (.cons rfl .nil) q)
def tMakeS (C : Addr) (sp : Sp) (E : L2.St → XK) (t : TA) : TE := fun σ H Q => t σ H fun vs H1 => ∀ x dx, H1 x = none → H1 dx = none → dx ≠ x →
  sp (.ref x :: vs) (upd (upd H1 dx (.own x)) x (.ins C dx [])) (fun v H2 => v = .non ∧ Q (.ref x) H2) (E σ)
theorem run_makeS {pins : List (Addr × Obj)} {σ : L2.St} {H : Hp} {s : Shared} {Q : VK} {us : List Value} {vs : List V} (M : Mk X.K C f) (F : FnOk X.prog X.w X.K X.mg X.base CX k f fd ps sp) (hr : Room (k + 1) X.A) (hb : Binds X.K fd ps [])
    (hx : PassesAt CX X σ (E σ)) (hx2 : ∀ {H1 H2 : Hp} {s1 : Shared} {e s'}, Inv X pins σ H1 s1 → CX X.stack H1 s1 (E σ) e s' → X.xe e s') (I : Inv X pins σ H s) (r : Vals vs us)
    (h : ∀ x dx, H x = none → H dx = none → dx ≠ x → sp (.ref x :: vs) (upd (upd H dx (.own x)) x (.ins C dx [])) (fun v H2 => v = .non ∧ Q (.ref x) H2) (E σ)) :
    wpAny (model X.prog X.w) X.A (call (.ref C) us) (EP X pins σ Q) X.xe s := by
  have hq := h (s.heap.objs.size + 1) s.heap.objs.size (I.hok.fresh (Nat.le_succ _)) (I.hok.fresh (Nat.le_refl _)) (Nat.ne_of_lt (Nat.lt_succ_self _))
  have I2 := Inv.made (C := C) I
  have r2 : Vals (V.ref (s.heap.objs.size + 1) :: vs) (Value.ref (s.heap.objs.size + 1) :: us) := .cons rfl r
  have hl : (Value.ref (s.heap.objs.size + 1) :: us).length = ps.length := by
    have e := r2.length
    rw [F.len _ _ _ _ hq] at e
    exact e.symm
  have b := hb _ (Value.ref (s.heap.objs.size + 1) :: us) I2.kIn (by rw [List.append_nil]; exact hl)
  rw [List.append_nil] at b
  refine wpAny_call (make_map (f := f) I.kIn M.makes M.init (beq_iff_eq.mp M.fn) (codeAny_mono (F.run _ X.stack _ _ ⟨Value.ref (s.heap.objs.size + 1) :: us, []⟩ (Value.ref (s.heap.objs.size + 1) :: us) _ _ (E σ) (hr.make C us [])
    (I2.env0.make C us []) b r2 hq) fun r s' hq' => ?_))
  cases r with
  | error e => exact hx pins _ _ e s' I2 hq'
  | ok fl =>
    cases fl with
    | ret u =>
      obtain ⟨v, H', I3, rv, ev, q3⟩ := I2.after hq'
      subst ev
      exact ⟨rv, ⟨V.ref (s.heap.objs.size + 1), H', I3, rfl, q3⟩⟩
    | next => exact False.elim hq'
    | brk => exact False.elim hq'
    | cont => exact False.elim hq'
theorem pe_makeS (M : Mk X.K C f) (F : FnOk X.prog X.w X.K X.mg X.base CX k f fd ps sp) (hr : Room (k + 1) X.A) (hg : Gl X x) (hm : X.mg x = some (.ref C)) (hb : Binds X.K fd ps []) (hx : ∀ σ, PassesAt CX X σ (E σ))
    (ha : PA X (e :: es) t) (hdb : (x == ("__debug__" : Str)) = false) (he : starEach (e :: es) X.env = (false, eval e X.env) :: starEach es X.env) (hpl : (backTo pos (starEach es X.env)).any (·.1) = false) :
    PE X (.Call (.Name x p) (e :: es) [] pos) (tMakeS C sp E t) := by
  refine ⟨fun pins s σ H Q I h => ?_⟩
  refine wpAny_Call_Name_kw (ld_glob I hg hm ?_ hdb)
  refine PySem.W.callWith_K (h₀ := X.base) I.ok.mod.kin M.kp (thn (ha.run pos pins s σ H _ I h) fun us s1 ⟨vs, H1, I1, r, q⟩ => ⟨I1.kIn, ?_⟩) he hpl
  exact run_makeS M F hr hb (hx σ) (fun {H1 _ s1 e s'} I c => hx σ pins H1 s1 e s' I c) I1 r q
theorem pe_makeS0 (M : Mk X.K C f) (F : FnOk X.prog X.w X.K X.mg X.base CX k f fd ps sp) (hr : Room (k + 1) X.A) (hg : Gl X x) (hm : X.mg x = some (.ref C)) (hb : Binds X.K fd ps []) (hx : ∀ σ, PassesAt CX X σ (E σ))
    (hdb : (x == ("__debug__" : Str)) = false) : PE X (.Call (.Name x p) [] [] pos) (tMakeS C sp E tNil) := by
  refine ⟨fun pins s σ H Q I h => ?_⟩
  refine wpAny_Call_Name_kw (ld_glob I hg hm ?_ hdb)
  exact PySem.W.callWith_K0 I.kIn M.kp (run_makeS (us := []) M F hr hb (hx σ) (fun {H1 _ s1 e s'} I c => hx σ pins H1 s1 e s' I c) I .nil h)
end

/-! ### names -/
theorem ofString_inj {a b : String} (h : Str.ofString a = Str.ofString b) : a = b := by
  have e := congrArg TL.tl h
  rw [TL.tl_ofString, TL.tl_ofString] at e
  have inj : ∀ {xs ys : List Char}, xs.map Char.toNat = ys.map Char.toNat → xs = ys := by
    intro xs
    induction xs with
    | nil => intro ys e; cases ys with
      | nil => rfl
      | cons _ _ => cases e
    | cons x xs ih => intro ys e; cases ys with
      | nil => cases e
      | cons y ys =>
        simp only [List.map_cons, List.cons.injEq] at e
        have : x = y := Char.ext (by
          have := e.1
          unfold Char.toNat at this
          exact UInt32.toNat_inj.mp this)
        rw [this, ih e.2]
  exact String.ext (inj e)
/-- the attribute of the name -/
theorem fld_ok {K : W.Frag} {F : FF} {H : Hp} {f : String} : ∀ {fs : List (Str × V)} {ns : List String} {ts : List T} {g : List Addr} {t : T}, fs.map Prod.fst = ns.map Str.ofString → RpTs K F H (fs.map Prod.snd) ts g →
    ((ns.zip ts).find? fun q => q.1 == f).map Prod.snd = some t → f ∈ ns ∧ ∃ v g', fs.lookup (Str.ofString f) = some v ∧ RpT K F H v t g' ∧ ∀ c, g'.count c ≤ g.count c
  | [], ns, ts, g, t, e, r, h => by
    cases ns with
    | nil => simp at h
    | cons _ _ => simp at e
  | (x, y) :: fs, ns, ts, g, t, e, r, h => by
    cases ns with
    | nil => simp at e
    | cons n ns =>
      simp only [List.map_cons, List.cons.injEq] at e
      obtain ⟨rfl, e⟩ := e
      cases r with
      | @cons _ _ t' ts' f1 g1 a b =>
        rw [List.zip_cons_cons, List.find?_cons] at h
        by_cases c : n = f
        · subst c
          simp only [beq_self_eq_true, Option.map_some, Option.some.injEq] at h
          subst h
          exact ⟨List.mem_cons_self, y, f1, by rw [List.lookup_cons]; simp, a, fun c => by rw [List.count_append]; omega⟩
        · have cf : (n == f) = false := beq_eq_false_iff_ne.mpr c
          simp only [cf] at h
          obtain ⟨h1, v, g', h2, h3, h4⟩ := fld_ok e b h
          refine ⟨List.mem_cons_of_mem _ h1, v, g', ?_, h3, fun c => by rw [List.count_append]; have := h4 c; omega⟩
          rw [List.lookup_cons]
          have : (Str.ofString f == Str.ofString n) = false := beq_eq_false_iff_ne.mpr fun q => c (ofString_inj q).symm
          rw [this]; exact h2
theorem lookup_no {m : String} : ∀ {fs : List (Str × V)} {ns : List String}, fs.map Prod.fst = ns.map Str.ofString → ns.contains m = false → fs.lookup (Str.ofString m) = none
  | [], _, _, _ => rfl
  | (x, y) :: fs, ns, e, h => by
    cases ns with
    | nil => simp at e
    | cons n ns =>
      simp only [List.map_cons, List.cons.injEq] at e
      obtain ⟨rfl, e⟩ := e
      rw [List.contains_cons, Bool.or_eq_false_iff] at h
      rw [List.lookup_cons]
      have : (Str.ofString m == Str.ofString n) = false := beq_eq_false_iff_ne.mpr fun q => by
        have := ofString_inj q
        subst this
        simp at h
      rw [this]
      exact lookup_no e h.2
/-! ### keys -/
theorem eqD_key1 (a b : Key) : eqD (keyD1 a) (keyD1 b) = decide (a = b) := by
  cases a with
  | inl i => cases b with
    | inl j => show PyData.eqv (.int i) (.int j) = _; unfold PyData.eqv; rw [Bool.eq_iff_iff]; simp
    | inr y => show PyData.eqv (.int i) (D.str _).py = _; rw [py_str]; rfl
  | inr x => cases b with
    | inl j => show PyData.eqv (D.str _).py (.int j) = _; rw [py_str]; rfl
    | inr y => show PyData.eqv (D.str _).py (D.str _).py = _; rw [py_str, py_str]; unfold PyData.eqv; rw [Bool.eq_iff_iff]; simp
theorem eqD_tup {xs ys : List D} : eqD (.tup xs) (.tup ys) = PyData.eqvAll (D.pys xs) (D.pys ys) := by
  show PyData.eqv (D.tup xs).py (D.tup ys).py = _
  simp only [D.py]
  rw [PyData.eqv]
theorem eqD_keys (a b : List Key) : eqD (.tup (a.map keyD1)) (.tup (b.map keyD1)) = decide (a = b) := by
  rw [eqD_tup]
  have key : ∀ a b : List Key, PyData.eqvAll (D.pys (a.map keyD1)) (D.pys (b.map keyD1)) = decide (a = b) := by
    intro a
    induction a with
    | nil => intro b; cases b with
      | nil => rfl
      | cons _ _ => rfl
    | cons x xs ih => intro b; cases b with
      | nil => rfl
      | cons y ys =>
        show PyData.eqvAll ((keyD1 x).py :: _) ((keyD1 y).py :: _) = _
        rw [PyData.eqvAll, ih ys]
        have : PyData.eqv (keyD1 x).py (keyD1 y).py = decide (x = y) := eqD_key1 x y
        rw [this, Bool.eq_iff_iff]
        simp
  exact key a b
section
variable {κ : Type} [DecidableEq κ] {emb : κ → D} {K : W.Frag} {F : FF} {H : Hp}
theorem dget_emb (he : ∀ a b, eqD (emb a) (emb b) = decide (a = b)) (k : κ) : ∀ {kvs : List (κ × V)} {ts : List T} {g : List Addr}, RpTs K F H (kvs.map Prod.snd) ts g →
    (∃ v t g', valV kvs k = some v ∧ dGet (kvs.map fun p => emb p.1) ts (emb k) = some t ∧ RpT K F H v t g' ∧ (∀ c, g'.count c ≤ g.count c) ∧ dHas (kvs.map fun p => emb p.1) (emb k) = true) ∨
    (valV kvs k = none ∧ dGet (kvs.map fun p => emb p.1) ts (emb k) = none ∧ dHas (kvs.map fun p => emb p.1) (emb k) = false)
  | [], ts, g, r => .inr ⟨rfl, by simp [dGet], rfl⟩
  | (x, y) :: kvs, ts, g, r => by
    cases r with
    | @cons _ _ t ts' f1 g1 a b =>
      by_cases c : x = k
      · subst c
        refine .inl ⟨y, t, f1, valV_pos rfl, ?_, a, fun c => by rw [List.count_append]; omega, ?_⟩
        · unfold dGet
          rw [List.map_cons, List.zip_cons_cons, List.find?_cons]
          simp [he]
        · unfold dHas
          rw [List.map_cons, List.any_cons]
          simp [he]
      · have e1 : dGet (((x, y) :: kvs).map fun p => emb p.1) (t :: ts') (emb k) = dGet (kvs.map fun p => emb p.1) ts' (emb k) := by
          unfold dGet
          rw [List.map_cons, List.zip_cons_cons, List.find?_cons]
          simp [he, c]
        have e2 : dHas (((x, y) :: kvs).map fun p => emb p.1) (emb k) = dHas (kvs.map fun p => emb p.1) (emb k) := by
          unfold dHas
          rw [List.map_cons, List.any_cons]
          simp [he, c]
        rw [e1, e2, valV_neg c]
        rcases dget_emb he k b with ⟨v, t', g', h1, h2, h3, h4, h5⟩ | h
        · exact .inl ⟨v, t', g', h1, h2, h3, fun c => by rw [List.count_append]; have := h4 c; omega, h5⟩
        · exact .inr h
theorem dhas_emb (he : ∀ a b, eqD (emb a) (emb b) = decide (a = b)) (k : κ) (kvs : List (κ × V)) : dHas (kvs.map fun p => emb p.1) (emb k) = (kvs.any fun kv => decide (kv.1 = k)) := by
  unfold dHas
  rw [List.any_map]
  congr 1
  funext p
  exact he p.1 k
theorem RpTs.zipUpd (he : ∀ a b, eqD (emb a) (emb b) = decide (a = b)) (k : κ) {y : V} {u : T} : ∀ {kvs : List (κ × V)} {ts : List T} {g : List Addr}, (kvs.map Prod.fst).Nodup → RpTs K F H (kvs.map Prod.snd) ts g → ∀ {fu : List Addr}, RpT K F H y u fu →
    ∃ g', RpTs K F H ((kvs.map fun kv => if kv.1 = k then (kv.1, y) else kv).map Prod.snd) ((((kvs.map fun p => emb p.1).zip ts).map fun p => if eqD p.1 (emb k) then u else p.2)) g' ∧ ∀ c, g'.count c ≤ g.count c + fu.count c
  | [], ts, g, _, r, fu, h => by
    cases r
    exact ⟨[], .nil, fun c => by simp⟩
  | (x, z) :: kvs, ts, g, nd, r, fu, h => by
    cases r with
    | @cons _ _ t ts' f1 g1 a b =>
      rw [List.map_cons, List.nodup_cons] at nd
      by_cases c : x = k
      · subst c
        have rest : ∀ {kvs : List (κ × V)} {ts : List T} {g : List Addr}, x ∉ kvs.map Prod.fst → RpTs K F H (kvs.map Prod.snd) ts g → RpTs K F H ((kvs.map fun kv => if kv.1 = x then (kv.1, y) else kv).map Prod.snd) ((((kvs.map fun p => emb p.1).zip ts).map fun p => if eqD p.1 (emb x) then u else p.2)) g := by
          intro kvs
          induction kvs with
          | nil => intro ts g _ r; cases r; exact .nil
          | cons q kvs ih =>
            intro ts g n r
            cases r with
            | cons a b =>
              rw [List.map_cons, List.mem_cons, not_or] at n
              have n1 : ¬ q.1 = x := fun e => n.1 e.symm
              rw [List.map_cons, List.map_cons, List.map_cons, List.zip_cons_cons, List.map_cons, if_neg n1]
              simp only [he, n1, decide_false, Bool.false_eq_true, if_false]
              exact .cons a (ih n.2 b)
        refine ⟨fu ++ g1, ?_, fun c => by simp only [List.count_append]; omega⟩
        rw [List.map_cons, List.map_cons, List.map_cons, List.zip_cons_cons, List.map_cons, if_pos rfl]
        simp only [he, decide_true, if_true]
        exact .cons h (rest nd.1 b)
      · obtain ⟨g', h1, h2⟩ := RpTs.zipUpd he k nd.2 b h
        refine ⟨f1 ++ g', ?_, fun c => by have := h2 c; simp only [List.count_append]; omega⟩
        rw [List.map_cons, List.map_cons, List.map_cons, List.zip_cons_cons, List.map_cons, if_neg c]
        simp only [he, c, decide_false, Bool.false_eq_true, if_false]
        exact .cons a h1
end
/-- a key's value -/
theorem key_of1 {K : W.Frag} {H : Hp} {y : V} {d : D} (r : RpD K H y d) (h : d.kyB = true) : ∃ k : Key, y = kV k ∧ d = keyD1 k ∧ keyOk k = true := by
  cases r with
  | int i => exact ⟨.inl i, rfl, rfl, rfl⟩
  | str z hz => exact ⟨.inr z, rfl, rfl, hz⟩
  | _ => cases h
theorem keys_of1 {K : W.Frag} {H : Hp} : ∀ {ys : List V} {ds : List D}, RpDs K H ys ds → ds.all D.kyB = true → ∃ k : List Key, ys = k.map kV ∧ ds = k.map keyD1 ∧ k.all keyOk = true
  | _, _, .nil, _ => ⟨[], rfl, rfl, rfl⟩
  | _, _, .cons a b, h => by
    rw [List.all_cons, Bool.and_eq_true] at h
    obtain ⟨k, rfl, rfl, hk⟩ := key_of1 a h.1
    obtain ⟨ks, rfl, rfl, hks⟩ := keys_of1 b h.2
    exact ⟨k :: ks, rfl, rfl, by rw [List.all_cons, hk, hks]; rfl⟩
/-- what the dict has at a key: found with its thing, or not -/
theorem dict_at {K : W.Frag} {F : FF} {H : Hp} {a : Addr} {u : HO} {t : Bool} {ks : List D} {xs : List V} {ts : List T} {g : List Addr} {y : V} {d : D} (hu : Rd H a u) (q : DH t u ks xs) (r : RpTs K F H xs ts g) (ry : RpD K H y d) (hk : keyFits t d = true) :
    ∃ o, DGet H a y o ∧ ((∃ v w g', o = some v ∧ dGet ks ts d = some w ∧ RpT K F H v w g' ∧ (∀ c, g'.count c ≤ g.count c) ∧ dHas ks d = true) ∨ (o = none ∧ dGet ks ts d = none ∧ dHas ks d = false)) := by
  cases q with
  | k kvs hok nd =>
    have hk : d.kyB = true := hk
    obtain ⟨k, rfl, rfl, _⟩ := key_of1 ry hk
    refine ⟨_, .inl ⟨kvs, k, hu, rfl, rfl⟩, ?_⟩
    rcases dget_emb eqD_key1 k r with ⟨v, w, g', h1, h2, h3, h4, h5⟩ | ⟨h1, h2, h3⟩
    · exact .inl ⟨v, w, g', h1, h2, h3, h4, h5⟩
    · exact .inr ⟨h1, h2, h3⟩
  | t kvs hok nd =>
    cases d with
    | tup ds =>
      have hk : ds.all D.kyB = true := hk
      cases ry with
      | tup hb rs =>
        obtain ⟨k, rfl, rfl, _⟩ := keys_of1 rs hk
        refine ⟨_, .inr ⟨kvs, k, _, hu, rfl, hb, rfl⟩, ?_⟩
        rcases dget_emb (emb := fun k : List Key => D.tup (k.map keyD1)) eqD_keys k r with ⟨v, w, g', h1, h2, h3, h4, h5⟩ | ⟨h1, h2, h3⟩
        · exact .inl ⟨v, w, g', h1, h2, h3, h4, h5⟩
        · exact .inr ⟨h1, h2, h3⟩
    | _ => cases hk
section
variable {G : Glob}
/-- no call without arguments but of a class: super is none -/
theorem attr_of {N sc b m e} {n : Str} (h : chkE N sc b m e = true) : ∀ env w, attributeBase e n env w = w := by
  intro env w
  cases e with
  | Call fn as kw pos =>
    cases fn with
    | Name id p =>
      cases as with
      | cons _ _ => rfl
      | nil =>
        cases kw with
        | cons _ _ => rfl
        | nil =>
          cases m with
          | new c as =>
            simp only [chkE, Bool.and_eq_true] at h
            exact abase_call h.1.1.2
          | _ => simp [chkE, chkName, isGl] at h
    | _ => rfl
  | _ => rfl
theorem star_any {N sc b} {env : PySem.Env} {m : Es} {es : List Expr} (h : chkEs N sc b m es = true) : ∀ (e : Expr) (r : List Expr), es = e :: r → starEach (e :: r) env = (false, eval e env) :: starEach r env := by
  rintro e r rfl
  obtain ⟨_, _, _, _, e3⟩ := chkEs_split h
  exact star_of e3
theorem ok_cme {cn mn : String} {o : E} {m : Es} (ho : Ok G o) (hm : OkEs G m) : Ok G (.cme cn mn o m) := by
  have sh : ∀ {N sc b'} {e : Expr}, chkE N sc b' (.cme cn mn o m) e = true → ∃ x ap ys cp, e = .Call (.Attribute x (Str.ofString mn) ap) ys [] cp ∧ ap.endLine = cp.line ∧ ys.length < 29 ∧ (cn, mn) ∈ b'.mts ∧ chkE N sc b' o x = true ∧ chkEs N sc b' m ys = true := by
    intro N sc b' e c
    unfold chkE at c
    split at c
    · simp only [Bool.and_eq_true, decide_eq_true_eq, List.contains_iff_mem] at c
      obtain ⟨⟨⟨⟨⟨c1, c2⟩, c3⟩, c4⟩, c5⟩, c6⟩ := c
      subst c1
      exact ⟨_, _, _, _, rfl, c2, c3, c4, c5, c6⟩
    · cases c
  have pe : ∀ X W b' e, Gd X G W b' → chkE X.N X.env.scope b' (.cme cn mn o m) e = true → PE X e (TE' X.K G W (.cme cn mn o m)) := by
    intro X W b' e g c
    obtain ⟨x, ap, ys, cp, rfl, c1, c2, c3, c4, c5⟩ := sh c
    obtain ⟨f, k, hme, ⟨fd, ps, f2, f3, f4⟩, f5, hcl⟩ := g.mts _ c3
    obtain ⟨st1, _⟩ := form_of (env := X.env) (pos := cp) c5
    have tree := meth_tree (o := x) (m := Str.ofString mn) (apos := ap) (pos := cp) (args := ys) (env := X.env) (attr_of c4 _ _) c1 c2 st1
    have key : PE X (.Call (.Attribute x (Str.ofString mn) ap) ys [] cp) (tMethS (clsA X.K cn) (Str.ofString mn) (spM X.K G [] (cn ++ "." ++ mn)) (WE W) (TE' X.K G W o) (TA' X.K G W m)) := by
      have hmA := hm X W b' ys g c5
      have hoA := ho.pe X W b' x g c4
      cases ys with
      | nil =>
        have := pe_methS0 (E := WE W) hoA hcl hme f4 f5 f3 (fun σ => passAt g.tk σ) tree
        refine PE.imp this fun σ H Q h => ?_
        obtain ⟨B, F, Γ, tmp, rel, P⟩ := h
        refine ⟨B, F, Γ, tmp, rel, P.imp ?_⟩
        rintro v H1 ⟨a, dx, fs, rfl, h1, h2, h3⟩
        refine ⟨a, dx, fs, rfl, h1, h2, ?_⟩
        cases m with
        | nil =>
          obtain ⟨B2, F2, Γ2, tmp2, rel2, P2⟩ := h3
          exact P2 [] F2 H1 [] (by simpa using rel2) .nil Sub.refl SubF.refl
        | cons _ _ => simp [chkEs] at c5
      | cons y ys =>
        exact pe_methS (E := WE W) hoA hcl hme f4 f5 f3 (fun σ => passAt g.tk σ) hmA (star_any c5 _ _ rfl) (plain_of (chkEs_split c5).choose_spec.choose_spec.2.1) tree
    refine PE.imp key fun σ H Q h => ?_
    obtain ⟨B, F, Γ, tmp, rel, P⟩ := h
    refine ⟨B, F, Γ, tmp, rel, (P.bind (rep := rT X.K) (fp := [])).imp ?_⟩
    rintro xv H1 ⟨tx, Γ1, F1, fa, rel1, ra, sH1, sF1, P1⟩
    have rel1 : Rel X.K B F1 H1 σ Γ1 (fa ++ tmp) := rel1
    cases eo : objQ tx with
    | none => simp only [eo] at P1; exact P1.elim
    | some p =>
      obtain ⟨c', ns, us⟩ := p
      simp only [eo] at P1
      split at P1
      · rename_i hcc
        simp only [Bool.and_eq_true, beq_iff_eq, Bool.not_eq_true'] at hcc
        obtain ⟨rfl, hno⟩ := hcc
        obtain ⟨a, dx, fs, g1, rfl, hc, hh, hn, rs, cg⟩ := objQ_ok eo rel1.hs ra
        refine ⟨a, dx, fs, rfl, hh, lookup_no hn hno, B, F1, Γ1, fa ++ tmp, rel1, (Post.bind (rep := rTs X.K) (fp := fa) P1).imp ?_⟩
        rintro xs H2 ⟨ts, Γ2, F2, fb, rel2, rb, sH2, sF2, P2⟩
        have ra2 := ra.grow sF2 sH2
        exact call_spM (fa := fa ++ fb) (ts := tx :: ts) (rel2.less fun c => by simp only [List.count_append]; omega) (.cons ra2 rb) P2
      · exact P1.elim
  refine ⟨pe, fun X W b' e g c => ?_, pw_no fun N sc b op vs pos => rfl⟩
  obtain ⟨x, ap, ys, cp, rfl, _⟩ := sh c
  exact tB_of (pe X W b' _ g c) fun _ => rfl
theorem ok_fld {a : E} {f : String} (ha : Ok G a) : Ok G (.fld a f) := by
  have sh : ∀ {N sc b'} {e : Expr}, chkE N sc b' (.fld a f) e = true → ∃ x pos, e = .Attribute x (Str.ofString f) pos ∧ chkE N sc b' a x = true := by
    intro N sc b' e c
    unfold chkE at c
    split at c
    · simp only [Bool.and_eq_true, decide_eq_true_eq] at c
      obtain ⟨c1, c2⟩ := c
      subst c1
      exact ⟨_, _, rfl, c2⟩
    · cases c
  have pe : ∀ X W b' e, Gd X G W b' → chkE X.N X.env.scope b' (.fld a f) e = true → PE X e (TE' X.K G W (.fld a f)) := by
    intro X W b' e g c
    obtain ⟨x, pos, rfl, c1⟩ := sh c
    refine PE.imp (pe_fld (ha.pe X W b' x g c1) (attr_of c1 _ _)) fun σ H Q h => ?_
    refine one (rep := rT X.K) (r := fun x H (Q : VK) => ∃ a C dx fs v, x = V.ref a ∧ H a = some (.ins C dx fs) ∧ Cls X.K C ∧ NoAttr X.K C (Str.ofString f) ∧ fs.lookup (Str.ofString f) = some v ∧ Q v H) (fun B F H σ Γ tmp fa x ta Q rel ra P => ?_) σ H Q h
    unfold fldT at P
    cases eo : objQ ta with
    | none => simp only [eo] at P; exact P.elim
    | some p =>
      obtain ⟨c', ns, us⟩ := p
      simp only [eo, Option.bind_some] at P
      obtain ⟨a, dx, fs, g1, rfl, hc, hh, hn, rs, cg⟩ := objQ_ok eo rel.hs ra
      cases ef : ((ns.zip us).find? fun q => q.1 == f).map Prod.snd with
      | none => rw [ef] at P; exact P.elim
      | some t =>
        rw [ef] at P
        obtain ⟨hf, v, g2, h1, h2, h3⟩ := fld_ok hn rs ef
        exact ⟨a, _, dx, fs, v, rfl, hh, hc.cls, hc.no f hf, h1, P v F H g2 (rel.less fun c => by have := cg c; have := h3 c; simp only [List.count_append]; omega) h2 Sub.refl SubF.refl⟩
  refine ⟨pe, fun X W b' e g c => ?_, pw_no fun N sc b op vs pos => rfl⟩
  obtain ⟨x, pos, rfl, _⟩ := sh c
  exact tB_of (pe X W b' _ g c) fun _ => rfl
theorem noSl_of {N sc b m e} (h : chkE N sc b m e = true) : NoSl e := by
  cases e with
  | Slice a c d p => cases m <;> cases h
  | _ => exact fun _ _ => rfl
theorem ok_dix {a i : E} (ha : Ok G a) (hi : Ok G i) : Ok G (.dix a i) := by
  have sh : ∀ {N sc b'} {e : Expr}, chkE N sc b' (.dix a i) e = true → ∃ x y pos, e = .Subscript x y pos ∧ chkE N sc b' a x = true ∧ chkE N sc b' i y = true := by
    intro N sc b' e c
    unfold chkE at c
    split at c
    · rw [Bool.and_eq_true] at c
      exact ⟨_, _, _, rfl, c.1, c.2⟩
    · cases c
  have pe : ∀ X W b' e, Gd X G W b' → chkE X.N X.env.scope b' (.dix a i) e = true → PE X e (TE' X.K G W (.dix a i)) := by
    intro X W b' e g c
    obtain ⟨x, y, pos, rfl, c1, c2⟩ := sh c
    refine PE.imp (pe_dget (by have := g.hu; omega) (ha.pe X W b' x g c1) (hi.pe X W b' y g c2) (noSl_of c2)) fun σ H Q h => ?_
    refine two (r := fun x y H (Q : VK) => ∃ a v, x = V.ref a ∧ DGet H a y (some v) ∧ Q v H) (f := fun x y Γ => R.op (dixT x y) Γ) (fun B F H σ Γ tmp fa fb x y ta tb Q rel ra rb P => ?_) σ H Q h
    unfold dixT at P
    cases eo : dicQ ta with
    | none => simp only [eo] at P; exact P.elim
    | some p =>
      obtain ⟨t, ks, us⟩ := p
      simp only [eo, Option.bind_some] at P
      split at P
      · rename_i hk
        obtain ⟨a, u, xs, g1, rfl, hu, q, rs, cg⟩ := dicQ_ok eo rel.hs ra
        obtain ⟨o, dg, h⟩ := dict_at hu q rs (rel.rd rb) hk
        rcases h with ⟨v, w, g2, rfl, h2, h3, h4, _⟩ | ⟨rfl, h2, _⟩
        · simp only [h2] at P
          exact ⟨a, v, rfl, dg, P v F H g2 (rel.less fun c => by have := cg c; have := h4 c; simp only [List.count_append]; omega) h3 Sub.refl SubF.refl⟩
        · simp only [h2] at P; exact P.elim
      · exact P.elim
  refine ⟨pe, fun X W b' e g c => ?_, pw_no fun N sc b op vs pos => rfl⟩
  obtain ⟨x, y, pos, rfl, c1, c2⟩ := sh c
  exact tB_of (pe X W b' _ g c) fun _ => rfl
theorem ok_din {n : Bool} {k d : E} (hk : Ok G k) (hd : Ok G d) : Ok G (.din n k d) := by
  have sh : ∀ {N sc b'} {e : Expr}, chkE N sc b' (.din n k d) e = true → ∃ x y pos, e = .Compare x [if n then CmpOp.NotIn else CmpOp.In] [y] pos ∧ chkE N sc b' k x = true ∧ chkE N sc b' d y = true := by
    intro N sc b' e c
    unfold chkE at c
    split at c
    · simp only [Bool.and_eq_true, decide_eq_true_eq] at c
      obtain ⟨⟨c1, c2⟩, c3⟩ := c
      subst c1
      exact ⟨_, _, _, rfl, c2, c3⟩
    · cases c
  have rd : ∀ {K : W.Frag} {W : WX} σ H Q, TE' K G W (.din n k d) σ H Q → TE' K G W k σ H fun y H1 => TE' K G W d σ H1 fun x H2 => ∃ a o, x = V.ref a ∧ DGet H2 a y o ∧ Q (.bl (if n then !o.isSome else o.isSome)) H2 := fun {K W} σ H Q h =>
    two (r := fun y x H (Q : VK) => ∃ a o, x = V.ref a ∧ DGet H a y o ∧ Q (.bl (if n then !o.isSome else o.isSome)) H) (f := fun y x Γ => R.op ((dinT x y).map fun c => T.v (.bl (if n then !c else c))) Γ) (fun B F H σ Γ tmp fa fb y x tb ta Q rel rb ra P => by
      unfold dinT at P
      cases eo : dicQ ta with
      | none => simp only [eo] at P; exact P.elim
      | some p =>
        obtain ⟨t, ks, us⟩ := p
        simp only [eo, Option.bind_some] at P
        cases hkf : keyFits t tb.er with
        | true =>
          simp only [hkf, if_true] at P
          obtain ⟨a, u, xs, g1, rfl, hu, q, rs, cg⟩ := dicQ_ok eo rel.hs ra
          obtain ⟨o, dg, h⟩ := dict_at hu q rs (rel.rd rb) hkf
          refine ⟨a, o, rfl, dg, ?_⟩
          have e : o.isSome = dHas ks tb.er := by
            rcases h with ⟨v, w, g2, rfl, h2, h3, h4, h5⟩ | ⟨rfl, h2, h5⟩ <;> rw [h5] <;> rfl
          rw [e]
          exact Post.flatv (Γ := Γ) (tmp := tmp) P rel (fun c => by simp only [List.count_append]; omega) (.bl _)
        | false => simp only [hkf, Bool.false_eq_true, if_false] at P; exact P.elim) σ H Q h
  have pc : ∀ X W b' x y, Gd X G W b' → chkE X.N X.env.scope b' k x = true → chkE X.N X.env.scope b' d y = true → PC X (if n then CmpOp.NotIn else CmpOp.In) x y (fun σ H Q => TE' X.K G W k σ H fun y H1 => TE' X.K G W d σ H1 fun x H2 => ∃ a o, x = V.ref a ∧ DGet H2 a y o ∧ Q (.bl (if n then !o.isSome else o.isSome)) H2) := by
    intro X W b' x y g c1 c2
    cases n with
    | true => exact pc_dnotin (by have := g.hu; omega) (hk.pe X W b' x g c1) (hd.pe X W b' y g c2)
    | false => exact pc_din (by have := g.hu; omega) (hk.pe X W b' x g c1) (hd.pe X W b' y g c2)
  refine ⟨fun X W b' e g c => ?_, fun X W b' e g c => ?_, pw_no fun N sc b op vs pos => rfl⟩
  · obtain ⟨x, y, pos, rfl, c1, c2⟩ := sh c
    exact PE.imp (pe_cmp (pc X W b' x y g c1 c2) (marks_of (chk_notSet c2))) rd
  · obtain ⟨x, y, pos, rfl, c1, c2⟩ := sh c
    exact PT.imp (pt_cmp (pc X W b' x y g c1 c2) (marks_of (chk_notSet c2))) fun σ H Q h => rd σ H _ h
theorem hide_new {H : Hp} {x dx : Addr} {o o' : HO} (hx : H x = none) (hn : dx ≠ x) : hideA (upd (upd H dx o) x o') [x] = upd H dx o := by
  funext a
  unfold hideA
  by_cases e : a = x
  · subst e
    rw [if_pos (by simp), upd_ne (Ne.symm hn), hx]
  · rw [if_neg (by simpa using e), upd_ne e]
theorem new_spM {K : W.Frag} {G : Glob} {W : WX} {B : Base} {F : FF} {H : Hp} {σ : L2.St} {Γ : Env} {tmp fa : List Addr} {f c : String} {xs : List V} {ts : List T} {Q : VK} {x dx : Addr} (hcls : Cls K (clsA K c)) (rel : Rel K B F H σ Γ (fa ++ tmp)) (ra : RpTs K F H xs ts fa)
    (P : Post K G W B F H σ tmp (rT K) (newT ts (G.cl f (.ob c [] [] :: (T.ers ts).map .v)) Γ) Q) (hx : H x = none) (hdx : H dx = none) (hn : dx ≠ x) :
    spM K G [0] f (.ref x :: xs) (upd (upd H dx (.own x)) x (.ins (clsA K c) dx [])) (fun v H2 => v = .non ∧ Q (.ref x) H2) (WE W σ) := by
  have hid := hide_new (o := .own x) (o' := .ins (clsA K c) dx []) hx hn
  have ob : ∀ F0 : FF, RpT K F0 (upd (upd H dx (.own x)) x (.ins (clsA K c) dx [])) (.ref x) (.ob c [] []) [x] := fun F0 => .ob (f := []) (fs := []) ⟨hcls, fun f hf => by cases hf⟩ upd_same rfl rfl .nil
  have fsc : ∀ a, [x].count a ≤ 1 := fun a => by rw [List.count_cons, List.count_nil]; split <;> omega
  have fsn : ∀ a ∈ [x], (upd (upd H dx (.own x)) x (.ins (clsA K c) dx [])) a ≠ none ∧ ∀ o u, (upd (upd H dx (.own x)) x (.ins (clsA K c) dx [])) a ≠ some (.frz o u) := fun a ha => by
    have := List.mem_singleton.mp ha
    subst this
    rw [upd_same]
    exact ⟨by simp, fun o u e => by cases e⟩
  have stb2 : ∀ {F0 : Hp}, Stb (upd H dx (.own x)) F0 → Stb (upd (upd H dx (.own x)) x (.ins (clsA K c) dx [])) F0 := fun {F0} s a o e st => by
    by_cases q : a = x
    · subst q; rw [upd_same] at e; cases e; cases st
    · rw [upd_ne q] at e; exact s a o e st
  unfold newT at P
  have fin : ∀ {F2 : FF} {F0 : Hp} {t' : T} (rel3 : Rel K B F2 (upd H dx (.own x)) σ Γ tmp), (∀ {F' H' fo}, Sub (upd H dx (.own x)) H' → CallEnd (upd H dx (.own x)) F0 F' H' → RpT K F' H' (.ref x) t' fo → (∀ a, fo.count a ≤ 1) → (∀ a ∈ fo, F'.f a = none ∧ (upd H dx (.own x)) a = none ∧ H' a ≠ none) → Q (.ref x) H') →
      ∀ v F' H' fp vo fo, Sub (upd H dx (.own x)) H' → CallEnd (upd H dx (.own x)) F0 F' H' → RpT K F' H' v (.v .non) fp → T.noB (.v .non) = true → pick (V.ref x :: xs) [0] = some vo → RpTs K F' H' vo [t'] fo → T.noBs [t'] = true → (∀ a, (fp ++ fo).count a ≤ 1) → (∀ a ∈ fp ++ fo, F'.f a = none ∧ (upd H dx (.own x)) a = none ∧ H' a ≠ none) → v = .non ∧ Q (.ref x) H' := by
    intro F2 F0 t' rel3 q v F' H' fp vo fo sH c rt _ ep ro _ hc hf
    have ev : vo = [.ref x] := by
      have : pick (V.ref x :: xs) [0] = some [.ref x] := rfl
      rw [this] at ep; exact (Option.some.inj ep).symm
    subst ev
    cases rt with
    | v rt =>
      cases rt
      refine ⟨rfl, ?_⟩
      cases ro with
      | cons a b =>
        cases b
        exact q sH c a (fun a => by simpa using hc a) (fun a m => hf a (by simpa using m))
  cases nb : T.noBs ts with
  | true =>
    have rd := ra.freeze rel.sub rel.nsub nb
    have rel2 := rel.freezeTmp (f1 := fa) (g := tmp) fun c => by simp only [List.count_append]; omega
    have rel3 := (rel2.alloc (p := dx) (o := .own x) hdx rfl).less (tmp' := tmp) fun c => by rw [List.count_cons]; omega
    have P2 := P.later (H1 := upd H dx (.own x)) (upd_sub hdx) (addF_sub (f := fa) rel.sub rel.nsub)
    refine ⟨_, .ob c [] [] :: (T.ers ts).map .v, [x], by rw [hid]; exact rel3.sub, stb2 rel3.stf, .cons (f := [x]) (g := []) (ob _) (toVs rd), ?_, fsc, fsn, ?_⟩
    · show ((T.ob c [] []).noB && T.noBs ((T.ers ts).map .v)) = true
      rw [noBs_v]; rfl
    · rw [hid]
      cases ec : G.cl f (.ob c [] [] :: (T.ers ts).map .v) with
      | bad => rw [ec] at P; exact P.elim
      | ret t os =>
        rw [ec] at P2
        split at P2
        · rename_i t' e
          cases e
          simp only [nb, Bool.true_or, if_true] at P2
          exact fin rel3 fun {F' H' fo} sH c rt hc hf => P2.callA rel3 sH c rt hc hf
        · rename_i e; cases e
        · exact P2.elim
      | ex y os =>
        rw [ec] at P2
        intro cv d F' H' vo fo sH c ep ro nbo hc hf hx'
        exact P2.callX rel3 sH rel3.sub rel3.stf c hx'
  | false =>
    have rd := (rel.rds ra).mono (upd_sub (o := .own x) hdx)
    have rel3 := (rel.alloc (p := dx) (o := .own x) hdx rfl).less (tmp' := tmp) fun c => by simp only [List.count_cons, List.count_append]; omega
    have P2 := P.later (H1 := upd H dx (.own x)) (upd_sub hdx) SubF.refl
    refine ⟨upd H dx (.own x), .ob c [] [] :: (T.ers ts).map .v, [x], by rw [hid]; exact Sub.refl, stb2 (fun a o e _ => e), .cons (f := [x]) (g := []) (ob _) (toVs rd), ?_, fsc, fsn, ?_⟩
    · show ((T.ob c [] []).noB && T.noBs ((T.ers ts).map .v)) = true
      rw [noBs_v]; rfl
    · rw [hid]
      cases ec : G.cl f (.ob c [] [] :: (T.ers ts).map .v) with
      | bad => rw [ec] at P; exact P.elim
      | ret t os =>
        rw [ec] at P2
        split at P2
        · rename_i t' e
          cases e
          simp only [nb, Bool.false_or] at P2
          split at P2
          · rename_i hcl
            exact fin rel3 fun {F' H' fo} sH c rt hc hf => P2.callB rel3 sH c rt hcl hc hf
          · exact P2.elim
        · rename_i e; cases e
        · exact P2.elim
      | ex y os =>
        rw [ec] at P2
        intro cv d F' H' vo fo sH c ep ro nbo hc hf hx'
        exact P2.callX rel3 sH Sub.refl (fun a o e _ => e) c hx'
theorem ok_new {cn : String} {m : Es} (hm : OkEs G m) : Ok G (.new cn m) := by
  have sh : ∀ {N sc b'} {e : Expr}, chkE N sc b' (.new cn m) e = true → ∃ p ys pos, e = .Call (.Name (Str.ofString cn) p) ys [] pos ∧ cn ∈ b'.cls ∧ glB sc (Str.ofString cn) = true ∧ (Str.ofString cn == ("__debug__" : Str)) = false ∧ chkEs N sc b' m ys = true := by
    intro N sc b' e c
    unfold chkE at c
    split at c
    · simp only [Bool.and_eq_true, decide_eq_true_eq, Bool.not_eq_true', List.contains_iff_mem] at c
      obtain ⟨⟨⟨⟨⟨c1, c2⟩, c3⟩, c3'⟩, c4⟩, c5⟩ := c
      subst c1
      exact ⟨_, _, _, rfl, c2, c3, c4, c5⟩
    · cases c
  have pe : ∀ X W b' e, Gd X G W b' → chkE X.N X.env.scope b' (.new cn m) e = true → PE X e (TE' X.K G W (.new cn m)) := by
    intro X W b' e g c
    obtain ⟨p, ys, pos, rfl, c1, c2, c3, c4⟩ := sh c
    obtain ⟨f, k, hmg, hcl, hmk, ⟨fd, ps, f2, f3, f4⟩, f5⟩ := g.cls cn c1
    have hg : Gl X (Str.ofString cn) := (of_decide_eq_true c2 : X.env.scope.names.lookup (Str.ofString cn) = some .globalImplicit)
    have key : PE X (.Call (.Name (Str.ofString cn) p) ys [] pos) (tMakeS (clsA X.K cn) (spM X.K G [0] (cn ++ ".__init__")) (WE W) (TA' X.K G W m)) := by
      cases ys with
      | nil =>
        refine PE.imp (pe_makeS0 (E := WE W) hmk f4 f5 hg hmg f3 (fun σ => passAt g.tk σ) c3) fun σ H Q h => ?_
        cases m with
        | nil =>
          obtain ⟨B2, F2, Γ2, tmp2, rel2, P2⟩ := h
          exact P2 [] F2 H [] (by simpa using rel2) .nil Sub.refl SubF.refl
        | cons _ _ => simp [chkEs] at c4
      | cons y ys => exact pe_makeS (E := WE W) hmk f4 f5 hg hmg f3 (fun σ => passAt g.tk σ) (hm X W b' (y :: ys) g c4) c3 (star_any c4 _ _ rfl) (plain_of (chkEs_split c4).choose_spec.choose_spec.2.1)
    refine PE.imp key fun σ H Q h => ?_
    obtain ⟨B, F, Γ, tmp, rel, P⟩ := h
    refine ⟨B, F, Γ, tmp, rel, (Post.bind (rep := rTs X.K) (fp := []) P).imp ?_⟩
    rintro xs H1 ⟨ts, Γ1, F1, fa, rel1, ra, sH1, sF1, P1⟩
    intro x dx hx hdx hn
    exact new_spM hcl rel1 ra P1 hx hdx hn
  refine ⟨pe, fun X W b' e g c => ?_, pw_no fun N sc b op vs pos => rfl⟩
  obtain ⟨p, ys, pos, rfl, _⟩ := sh c
  exact tB_of (pe X W b' _ g c) fun _ => rfl
def OkX (G : Glob) (m : OE) : Prop := ∀ X W b e, Gd X G W b → (match m with
  | .no => False
  | .so m => chkE X.N X.env.scope b m e = true) → PE X e (TM X.K G W (rT X.K) (evX G.cl G.con m))
theorem okx_no : OkX G .no := fun X W b e g c => c.elim
theorem okx_so {m : E} (hm : Ok G m) : OkX G (.so m) := fun X W b e g c => hm.pe X W b e g c
theorem ok_get {d k : E} {x : OE} (hd : Ok G d) (hk : Ok G k) (hx : OkX G x) : Ok G (.get d k x) := by
  have sh : ∀ {N sc b'} {e : Expr}, chkE N sc b' (.get d k x) e = true → ∃ y ap as cp, e = .Call (.Attribute y (Str.ofString "get") ap) as [] cp ∧ ap.endLine = cp.line ∧ chkE N sc b' d y = true ∧ ((x = .no ∧ ∃ z, as = [z] ∧ chkE N sc b' k z = true) ∨ ∃ z u m, x = .so m ∧ as = [z, u] ∧ chkE N sc b' k z = true ∧ chkE N sc b' m u = true) := by
    intro N sc b' e c
    unfold chkE at c
    split at c
    · simp only [Bool.and_eq_true, decide_eq_true_eq] at c
      obtain ⟨⟨⟨c1, c2⟩, c3⟩, c4⟩ := c
      subst c1
      refine ⟨_, _, _, _, rfl, c2, c3, ?_⟩
      split at c4
      · exact .inl ⟨rfl, _, rfl, c4⟩
      · rw [Bool.and_eq_true] at c4
        exact .inr ⟨_, _, _, rfl, rfl, c4.1, c4.2⟩
      · cases c4
    · cases c
  have fin : ∀ {K : W.Frag} {W : WX} {B : Base} {F1 : FF} {H1 : Hp} {σ : L2.St} {Γ3 : Env} {tmp fa fk fx : List Addr} {xv yv zv : V} {dt kt xt : T} {t : Bool} {ks : List D} {vs : List T} {Q : VK}, dicQ dt = some (t, ks, vs) → Rel K B F1 H1 σ Γ3 (fx ++ (fk ++ (fa ++ tmp))) → RpT K F1 H1 xv dt fa → RpT K F1 H1 yv kt fk → RpT K F1 H1 zv xt fx →
      Post K G W B F1 H1 σ tmp (rT K) (if keyFits t kt.er then .ok ((dGet ks vs kt.er).getD xt) Γ3 else .bad) Q → ∀ a, xv = .ref a → ∃ o, DGet H1 a yv o ∧ Q (o.getD zv) H1 := by
    intro K W B F1 H1 σ Γ3 tmp fa fk fx xv yv zv dt kt xt t ks vs Q eo rel ra rk rx P a ea
    cases hkf : keyFits t kt.er with
    | false => simp only [hkf, Bool.false_eq_true, if_false] at P; exact P.elim
    | true =>
      simp only [hkf, if_true] at P
      obtain ⟨a', u, xs, g1, e1, hu, q, rs, cg⟩ := dicQ_ok eo rel.hs ra
      rw [ea] at e1
      cases e1
      obtain ⟨o, dg, h⟩ := dict_at hu q rs (rel.rd rk) hkf
      refine ⟨o, dg, ?_⟩
      rcases h with ⟨v, w, g2, rfl, h2, h3, h4, _⟩ | ⟨rfl, h2, _⟩
      · rw [h2] at P
        exact P v F1 H1 g2 (rel.less fun c => by have := cg c; have := h4 c; simp only [List.count_append]; omega) h3 Sub.refl SubF.refl
      · rw [h2] at P
        exact P zv F1 H1 fx (rel.less fun c => by simp only [List.count_append]; omega) rx Sub.refl SubF.refl
  have isd : ∀ {K : W.Frag} {F1 : FF} {H1 : Hp} {xv : V} {dt : T} {fa : List Addr} {p}, dicQ dt = some p → Hs F1 H1 → RpT K F1 H1 xv dt fa → ∃ a, xv = .ref a ∧ IsD H1 a := by
    rintro K F1 H1 xv dt fa ⟨t, ks, vs⟩ eo hs ra
    obtain ⟨a', u, xs, g1, rfl, hu, q, rs, cg⟩ := dicQ_ok eo hs ra
    have q : DH t u ks xs := q
    refine ⟨a', rfl, ?_⟩
    cases q with
    | k kvs _ _ => exact .inl ⟨kvs, hu⟩
    | t kvs _ _ => exact .inr ⟨kvs, hu⟩
  have pe : ∀ X W b' e, Gd X G W b' → chkE X.N X.env.scope b' (.get d k x) e = true → PE X e (TE' X.K G W (.get d k x)) := by
    intro X W b' e g c
    obtain ⟨y, ap, as, cp, rfl, c1, c2, c3⟩ := sh c
    have hline : (ap.endLine == cp.line) = true := by rw [c1]; exact beq_self_eq_true _
    rcases c3 with ⟨rfl, z, rfl, c4⟩ | ⟨z, u, m, rfl, rfl, c4, c5⟩
    · have st : starEach [z] X.env = (false, eval z X.env) :: starEach [] X.env := star_of (chk_notStar c4)
      refine PE.imp (pe_dget1 (by have := g.hu; omega) (hd.pe X W b' y g c2) (hk.pe X W b' z g c4) ⟨attr_of c2 _ _, by rw [st]; rfl, hline, by rw [st]; rfl⟩) fun σ H Q h => ?_
      obtain ⟨B, F, Γ, tmp, rel, P⟩ := h
      refine ⟨B, F, Γ, tmp, rel, (P.bind (rep := rT X.K) (fp := [])).imp ?_⟩
      rintro xv H1 ⟨dt, Γ1, F1, fa, rel1, ra, sH1, sF1, P1⟩
      cases eo : dicQ dt with
      | none => simp only [eo] at P1; exact P1.elim
      | some p =>
        obtain ⟨t, ks, vs⟩ := p
        simp only [eo] at P1
        obtain ⟨a, rfl, hisd⟩ := isd eo rel1.hs ra
        refine ⟨a, rfl, hisd, B, F1, Γ1, fa ++ tmp, rel1, (P1.bind (rep := rT X.K) (fp := fa)).imp ?_⟩
        rintro yv H2 ⟨kt, Γ2, F2, fk, rel2, rk, sH2, sF2, P2⟩
        simp only [evX, R.bind] at P2
        exact fin (fx := []) eo (by simpa using rel2) (ra.grow sF2 sH2) rk (.v .non) P2 a rfl
    · have st1 : starEach [z, u] X.env = (false, eval z X.env) :: starEach [u] X.env := star_of (chk_notStar c4)
      have st2 : starEach [u] X.env = (false, eval u X.env) :: starEach [] X.env := star_of (chk_notStar c5)
      refine PE.imp (pe_dget2 (by have := g.hu; omega) (hd.pe X W b' y g c2) (hk.pe X W b' z g c4) (hx X W b' u g c5) ⟨attr_of c2 _ _, by rw [st1, st2]; rfl, hline, by rw [st1, st2]; rfl⟩) fun σ H Q h => ?_
      obtain ⟨B, F, Γ, tmp, rel, P⟩ := h
      refine ⟨B, F, Γ, tmp, rel, (P.bind (rep := rT X.K) (fp := [])).imp ?_⟩
      rintro xv H1 ⟨dt, Γ1, F1, fa, rel1, ra, sH1, sF1, P1⟩
      cases eo : dicQ dt with
      | none => simp only [eo] at P1; exact P1.elim
      | some p =>
        obtain ⟨t, ks, vs⟩ := p
        simp only [eo] at P1
        obtain ⟨a, rfl, hisd⟩ := isd eo rel1.hs ra
        refine ⟨a, rfl, hisd, B, F1, Γ1, fa ++ tmp, rel1, (P1.bind (rep := rT X.K) (fp := fa)).imp ?_⟩
        rintro yv H2 ⟨kt, Γ2, F2, fk, rel2, rk, sH2, sF2, P2⟩
        rw [← List.append_assoc] at rel2
        refine ⟨B, F2, Γ2, (fk ++ fa) ++ tmp, rel2, (P2.bind (rep := rT X.K) (fp := fk ++ fa)).imp ?_⟩
        rintro zv H3 ⟨xt, Γ3, F3, fx, rel3, rx, sH3, sF3, P3⟩
        rw [List.append_assoc] at rel3
        exact fin eo rel3 ((ra.grow sF2 sH2).grow sF3 sH3) (rk.grow sF3 sH3) rx P3 a rfl
  refine ⟨pe, fun X W b' e g c => ?_, pw_no fun N sc b op vs pos => rfl⟩
  obtain ⟨y, ap, as, cp, rfl, _⟩ := sh c
  exact tB_of (pe X W b' _ g c) fun _ => rfl
end
end Tv

namespace Tv
open PySem PySem.Spec PyProof.Rows L2

/-! ### built-ins by name -/
theorem CallR.or {X : Cx} {f : Value} {r r' : List V → Hp → VK → Prop} (a : CallR X f r) (b : CallR X f r') : CallR X f (fun xs H Q => r xs H Q ∨ r' xs H Q) := by
  intro pins s σ H xs us Q I rx h
  rcases h with h | h
  · exact a pins s σ H xs us Q I rx h
  · exact b pins s σ H xs us Q I rx h
def BF.val (f : BF) : Value := if f.ty then .type f.nm else .builtin f.nm
def rSortDI (xs : List V) (H : Hp) (Q : VK) : Prop := ∃ (a : Addr) (kvs : List (Key × V)) (ks : List Int), xs = [.ref a] ∧ Rd H a (.dK kvs) ∧ kvs.map (·.1) = ks.map Sum.inl ∧ ks.length < 64 ∧
    ∀ (ys : List Int) (p : Addr), ys.Perm ks → ys.Pairwise (· ≤ ·) → H p = none → Q (.ref p) (upd H p (.lst (ys.map V.int)))
theorem intsD_keys : ∀ {kvs : List (Key × V)} {ns : List Int}, intsD (kvs.map fun p => keyD1 p.1) = some ns → kvs.map (·.1) = ns.map Sum.inl
  | [], ns, e => by cases e; rfl
  | (k, v) :: kvs, ns, e => by
    cases k with
    | inr x => cases e
    | inl i =>
      replace e : (intsD (kvs.map fun p => keyD1 p.1)).map (fun r => i :: r) = some ns := e
      cases h : intsD (kvs.map fun p => keyD1 p.1) with
      | none => rw [h] at e; cases e
      | some r =>
        rw [h] at e
        cases e
        simp only [List.map_cons, intsD_keys h]
def rF (K : W.Frag) : BF → List V → Hp → VK → Prop
  | .len => fun xs H Q => ∃ x n, xs = [x] ∧ LenV K x H n ∧ Q (.int n) H
  | .max => fun xs H Q => (∃ i j, xs = [V.int i, V.int j] ∧ Q (.int (if j > i then j else i)) H) ∨ rMax K xs H Q
  | .min => fun xs H Q => (∃ i j, xs = [V.int i, V.int j] ∧ Q (.int (if j < i then j else i)) H) ∨ rMin K xs H Q
  | .sum => fun xs H Q => rSum K xs H Q ∨ rSumL K xs H Q
  | .sorted => fun xs H Q => (rSortedI K xs H Q ∨ rSortedPO K xs H Q) ∨ rSortDI xs H Q
  | .all => rAll K
  | .list => fun xs H Q => ∃ p ys, xs = [V.ref p] ∧ (SqL K H p ys ∨ SqT K H p ys) ∧ ∀ l, H l = none → Q (.ref l) (upd H l (.lst ys))
  | .tuple => fun xs H Q => ∃ p ys, xs = [V.ref p] ∧ ((SqL K H p ys ∧ ∀ l, H l = none → Q (.ref l) (upd H l (.tup ys))) ∨ (SqT K H p ys ∧ Q (.ref p) H))
  | .str => fun xs H Q => ∃ i, xs = [V.int i] ∧ i.natAbs.log2 < 1920 ∧ Q (.str (toString i)) H
  | .int => fun xs H Q => (∃ i, xs = [V.int i] ∧ Q (.int i) H) ∨ ∃ k, xs = [V.bl k] ∧ Q (.int (if k then 1 else 0)) H
  | .abs => fun xs H Q => ∃ i, xs = [V.int i] ∧ Q (.int (if i < 0 then -i else i)) H
theorem cr_F {X : Cx} (hc : X.calm = true) (f : BF) : CallR X f.val (rF X.K f) := by
  cases f with
  | len => exact call_len
  | max => exact CallR.or (call_max2 hc) (cr_max hc)
  | min => exact CallR.or (call_min2 hc) (cr_min hc)
  | sum => exact CallR.or (cr_sum hc) (cr_sumL hc)
  | sorted => exact CallR.or (CallR.or cr_sortedI cr_sortedPO) (call_sortedDI hc)
  | all => exact cr_all hc
  | list => exact call_list_of
  | tuple => exact call_tuple_of
  | str => exact call_str_int
  | int => exact call_int1
  | abs => exact call_abs
theorem boot_F (f : BF) : bootBuiltins (Str.ofString f.nm) = some f.val ∧ Str.ofString f.nm ≠ "__name__" ∧ (Str.ofString f.nm == ("__debug__" : Str)) = false ∧ f.nm ∈ bltNames := by
  cases f <;> exact ⟨by decide +kernel, by decide +kernel, by decide +kernel, by decide⟩
section
variable {K : W.Frag} {F : FF} {H : Hp} {x : V} {xs : List V} {t : T} {ts : List T} {f : List Addr}
theorem boolsT_ok : ∀ {xs : List V} {ts : List T} {f : List Addr} {ns : List Bool}, boolsT ts = some ns → RpTs K F H xs ts f → xs = ns.map V.bl
  | _, [], _, ns, e, .nil => by cases e; rfl
  | _, t :: ts, _, ns, e, .cons a b => by
    unfold boolsT at e
    split at e
    · rename_i e0; cases e0
    · rename_i i ts' e0
      cases e0
      cases h : boolsT ts with
      | none => rw [h] at e; cases e
      | some r =>
        rw [h] at e
        cases e
        obtain ⟨rfl, _⟩ := bl_inv a
        rw [boolsT_ok h b]; rfl
    · cases e
theorem strsT_ok : ∀ {xs : List V} {ts : List T} {f : List Addr} {ns : List (List Nat)}, strsT ts = some ns → RpTs K F H xs ts f → ∃ zs : List Str, xs = zs.map V.str ∧ zs.map (fun z => z.cps.toList) = ns ∧ ∀ s ∈ ns, okS s = true
  | _, [], _, ns, e, .nil => by cases e; exact ⟨[], rfl, rfl, fun _ h => by cases h⟩
  | _, t :: ts, _, ns, e, .cons a b => by
    unfold strsT at e
    split at e
    · rename_i e0; cases e0
    · rename_i i ts' e0
      cases e0
      cases h : strsT ts with
      | none => rw [h] at e; cases e
      | some r =>
        rw [h] at e
        cases e
        obtain ⟨z, rfl, h1, h2, _⟩ := str_inv a
        obtain ⟨zs, h3, h4, h5⟩ := strsT_ok h b
        refine ⟨z :: zs, by rw [h3]; rfl, by rw [List.map_cons, h4, h1], fun s hs => ?_⟩
        rcases List.mem_cons.mp hs with rfl | hs
        · exact h2
        · exact h5 s hs
    · cases e
end
theorem maxL_spec : ∀ (xs : List Int) (a : Int), (maxL a xs = a ∨ maxL a xs ∈ xs) ∧ a ≤ maxL a xs ∧ ∀ y ∈ xs, y ≤ maxL a xs
  | [], a => ⟨.inl rfl, Int.le_refl _, fun _ h => by cases h⟩
  | x :: xs, a => by
    have e : maxL a (x :: xs) = maxL (if x > a then x else a) xs := rfl
    rw [e]
    obtain ⟨h1, h2, h3⟩ := maxL_spec xs (if x > a then x else a)
    refine ⟨?_, ?_, fun y hy => ?_⟩
    · rcases h1 with h1 | h1
      · rw [h1]; split
        · exact .inr (by simp)
        · exact .inl rfl
      · exact .inr (List.mem_cons_of_mem _ h1)
    · split at h2 <;> split <;> omega
    · rcases List.mem_cons.mp hy with rfl | hy
      · split at h2 <;> split <;> omega
      · exact h3 y hy
theorem maxL_is {a : Int} {xs : List Int} {m : Int} (h : m ∈ a :: xs) (k : ∀ y ∈ a :: xs, y ≤ m) : m = maxL a xs := by
  obtain ⟨h1, h2, h3⟩ := maxL_spec xs a
  have l1 : m ≤ maxL a xs := by
    rcases List.mem_cons.mp h with e | h
    · omega
    · exact h3 m h
  have l2 : maxL a xs ≤ m := by
    rcases h1 with e | e
    · rw [e]; exact k a (by simp)
    · exact k _ (List.mem_cons_of_mem _ e)
  omega
theorem minL_spec : ∀ (xs : List Int) (a : Int), (minL a xs = a ∨ minL a xs ∈ xs) ∧ minL a xs ≤ a ∧ ∀ y ∈ xs, minL a xs ≤ y
  | [], a => ⟨.inl rfl, Int.le_refl _, fun _ h => by cases h⟩
  | x :: xs, a => by
    have e : minL a (x :: xs) = minL (if x < a then x else a) xs := rfl
    rw [e]
    obtain ⟨h1, h2, h3⟩ := minL_spec xs (if x < a then x else a)
    refine ⟨?_, ?_, fun y hy => ?_⟩
    · rcases h1 with h1 | h1
      · rw [h1]; split
        · exact .inr (by simp)
        · exact .inl rfl
      · exact .inr (List.mem_cons_of_mem _ h1)
    · split at h2 <;> split <;> omega
    · rcases List.mem_cons.mp hy with rfl | hy
      · split at h2 <;> split <;> omega
      · exact h3 y hy
theorem minL_is {a : Int} {xs : List Int} {m : Int} (h : m ∈ a :: xs) (k : ∀ y ∈ a :: xs, m ≤ y) : m = minL a xs := by
  obtain ⟨h1, h2, h3⟩ := minL_spec xs a
  have l1 : minL a xs ≤ m := by
    rcases List.mem_cons.mp h with e | h
    · omega
    · exact h3 m h
  have l2 : m ≤ minL a xs := by
    rcases h1 with e | e
    · rw [e]; exact k a (by simp)
    · exact k _ (List.mem_cons_of_mem _ e)
  omega
theorem rpTs_one {K : W.Frag} {F : FF} {H : Hp} {xs : List V} {t : T} {f : List Addr} (r : RpTs K F H xs [t] f) : ∃ x, xs = [x] ∧ RpT K F H x t f := by
  cases r with | cons a b => cases b with | nil => exact ⟨_, rfl, by simpa using a⟩
theorem rpTs_two {K : W.Frag} {F : FF} {H : Hp} {xs : List V} {t u : T} {f : List Addr} (r : RpTs K F H xs [t, u] f) : ∃ x y g h, xs = [x, y] ∧ RpT K F H x t g ∧ RpT K F H y u h ∧ f = g ++ h := by
  cases r with | cons a b => cases b with | cons c d => cases d with | nil => exact ⟨_, _, _, _, rfl, a, c, by simp⟩
theorem okS_show (i : Int) (h : i.natAbs.log2 < 1920) : okS (showI i) = true := by
  unfold okS showI
  simp only [Bool.and_eq_true, decide_eq_true_eq, List.all_eq_true]
  refine ⟨?_, fun c hc => ?_⟩
  · have := int_text_fits h
    rw [strLen] at this
    exact this
  · have e : (Str.ofString (toString i)).cps.toList = (toString i).toList.map Char.toNat := TL.tl_ofString _
    rw [e] at hc
    obtain ⟨ch, _, rfl⟩ := List.mem_map.mp hc
    have := ch.valid
    simp only [UInt32.isValidChar, Nat.isValidChar] at this
    show ch.val.toNat < 1114112
    omega
theorem ints_rp {K : W.Frag} {F : FF} {H : Hp} : ∀ ns : List Int, RpTs K F H (ns.map V.int) (ns.map fun i => T.v (.int i)) []
  | [] => .nil
  | n :: ns => .cons (f := []) (g := []) (.v (.int n)) (ints_rp ns)
theorem rowsT_ok {K : W.Frag} {F : FF} {H : Hp} : ∀ {cs : List V} {us : List T} {f : List Addr} {rs : List (List T)}, rowsT us = some rs → Hs F H → RpTs K F H cs us f →
    ∃ (yss : List (List V)) (g : List Addr), (∀ (i : Nat) (c : V), cs[i]? = some c → ∃ d ys, c = V.ref d ∧ yss[i]? = some ys ∧ H d = some (.lst ys)) ∧ yss.length = cs.length ∧ RpTs K F H yss.flatten rs.flatten g ∧ ∀ c, g.count c ≤ f.count c
  | _, [], _, rs, e, _, .nil => by
    cases e
    exact ⟨[], [], fun i c h => by simp at h, rfl, .nil, fun c => Nat.le_refl _⟩
  | _, t :: ts, _, rs, e, hF, .cons a b => by
    unfold rowsT at e
    split at e
    · rename_i r rs' e1 e2
      cases e
      obtain ⟨p, xs, g, rfl, hp, r1, c1⟩ := asL_ok e1 hF a
      obtain ⟨yss, g', k1, k2, k3, k4⟩ := rowsT_ok e2 hF b
      refine ⟨xs :: yss, g ++ g', fun i c h => ?_, by simp [k2], by rw [List.flatten_cons, List.flatten_cons]; exact r1.append k3, fun c => ?_⟩
      · cases i with
        | zero => simp at h; subst h; exact ⟨p, xs, rfl, rfl, hp⟩
        | succ i =>
          obtain ⟨d, ys, h1, h2, h3⟩ := k1 i c (by simpa using h)
          exact ⟨d, ys, h1, by simpa using h2, h3⟩
      · have := c1 c
        have := k4 c
        simp only [List.count_append]
        omega
    · cases e
theorem bltT_ok {K : W.Frag} {G : Glob} {W : WX} {B : Base} {F : FF} {H : Hp} {σ : L2.St} {Γ : Env} {tmp fp : List Addr} {f : BF} {xs : List V} {ts : List T} {Q : VK} (rel : Rel K B F H σ Γ (fp ++ tmp)) (ra : RpTs K F H xs ts fp)
    (P : Post K G W B F H σ tmp (rT K) (R.op (bltT f ts) Γ) Q) : rF K f xs H Q := by
  have hc : ∀ c, tmp.count c ≤ (fp ++ tmp).count c := fun c => by simp only [List.count_append]; omega
  unfold bltT at P
  split at P
  · -- len
    rename_i t
    obtain ⟨x, rfl, r⟩ := rpTs_one ra
    cases e : sizeT t with
    | none => rw [e] at P; exact P.elim
    | some n =>
      rw [e] at P
      refine ⟨x, n, rfl, ?_, Post.flatv (Γ := Γ) P rel hc (.int _)⟩
      unfold sizeT at e
      split at e
      · cases e
        obtain ⟨z, rfl, h1, h2, _⟩ := str_inv r
        exact ⟨by rw [strLen, h1, sizeLine_eq]; exact okS_le h2, by rw [strLen, h1]⟩
      · cases e2 : asQ t with
        | none => rw [e2] at e; cases e
        | some us =>
          rw [e2] at e
          cases e
          obtain ⟨p, ys, g, rfl, hq, r1, _⟩ := asQ_ok e2 rel.hs r
          rcases hq with hq | hq
          · exact .inl ⟨_, hq, r1.length.symm⟩
          · exact .inr ⟨_, hq, r1.length.symm⟩
  · obtain ⟨x, y, g, h, rfl, r1, r2, rfl⟩ := rpTs_two ra
    obtain ⟨rfl, _⟩ := int_inv r1
    obtain ⟨rfl, _⟩ := int_inv r2
    exact .inl ⟨_, _, rfl, Post.flatv (Γ := Γ) P rel hc (.int _)⟩
  · obtain ⟨x, y, g, h, rfl, r1, r2, rfl⟩ := rpTs_two ra
    obtain ⟨rfl, _⟩ := int_inv r1
    obtain ⟨rfl, _⟩ := int_inv r2
    exact .inl ⟨_, _, rfl, Post.flatv (Γ := Γ) P rel hc (.int _)⟩
  · -- max of a list
    rename_i t
    obtain ⟨x, rfl, r⟩ := rpTs_one ra
    split at P
    · rename_i a r' e
      cases e1 : lOnly t with
      | none => rw [e1] at e; cases e
      | some us =>
        rw [e1] at e
        obtain ⟨p, ys, g, rfl, hq, r1, _⟩ := lOnly_ok e1 rel.hs r
        have := intsT_ok e r1
        subst this
        refine .inr ⟨p, a :: r', rfl, hq, by simp, fun m hm hk => ?_⟩
        rw [maxL_is hm hk]
        exact Post.flatv (Γ := Γ) P rel hc (.int _)
    · exact P.elim
  · rename_i t
    obtain ⟨x, rfl, r⟩ := rpTs_one ra
    split at P
    · rename_i a r' e
      cases e1 : lOnly t with
      | none => rw [e1] at e; cases e
      | some us =>
        rw [e1] at e
        obtain ⟨p, ys, g, rfl, hq, r1, _⟩ := lOnly_ok e1 rel.hs r
        have := intsT_ok e r1
        subst this
        refine .inr ⟨p, a :: r', rfl, hq, by simp, fun m hm hk => ?_⟩
        rw [minL_is hm hk]
        exact Post.flatv (Γ := Γ) P rel hc (.int _)
    · exact P.elim
  · -- sum
    rename_i t
    obtain ⟨x, rfl, r⟩ := rpTs_one ra
    cases e1 : lOnly t with
    | none => simp only [e1, Option.bind_none, Option.map_none] at P; exact P.elim
    | some us =>
      cases e2 : intsT us with
      | none => simp only [e1, Option.bind_some, e2, Option.map_none] at P; exact P.elim
      | some ns =>
        simp only [e1, Option.bind_some, e2, Option.map_some] at P
        obtain ⟨p, ys, g, rfl, hq, r1, _⟩ := lOnly_ok e1 rel.hs r
        have := intsT_ok e2 r1
        subst this
        exact .inl ⟨p, ns, rfl, hq, Post.flatv (Γ := Γ) P rel hc (.int _)⟩
  · -- sum of rows
    rename_i t
    obtain ⟨x, y, g, h, rfl, r1, r2, rfl⟩ := rpTs_two ra
    cases e1 : lOnly t with
    | none => simp only [e1, Option.bind_none] at P; exact P.elim
    | some us =>
      cases e2 : rowsT us with
      | none => simp only [e1, Option.bind_some, e2] at P; exact P.elim
      | some rs =>
        simp only [e1, Option.bind_some, e2] at P
        split at P
        · rename_i hz
          obtain ⟨p, cs, g', rfl, hq, r1', c1⟩ := lOnly_ok e1 rel.hs r1
          obtain ⟨yss, g'', k1, k2, k3, k4⟩ := rowsT_ok e2 rel.hs r1'
          cases r2 with
          | l hb r0 =>
            cases r0
            refine .inr ⟨p, _, cs, yss, rfl, hq, hb, k1, k2, by rw [k3.length]; exact Nat.le_trans hz (by rw [sizeLine_eq]; exact Nat.le_refl _), fun e => ?_, Post.newL (Γ := Γ) P rel k3 fun c => ?_⟩
            · have hy : yss = [] := List.length_eq_zero_iff.mp (by rw [k2, e]; rfl)
              subst hy
              have hn : rs.flatten = [] := by
                have := k3.length
                exact List.length_eq_zero_iff.mp this.symm
              rw [hn] at P
              exact P (.ref _) F H [_] (rel.less fun c => by simp only [List.count_append]; omega) (.l hb .nil) Sub.refl SubF.refl
            · have := c1 c
              have := k4 c
              simp only [List.count_append]
              omega
        · exact P.elim
  · -- sorted
    rename_i t
    obtain ⟨x, rfl, r⟩ := rpTs_one ra
    cases e1 : lOnly t with
    | none =>
      simp only [e1, Option.bind_none] at P
      cases e4 : dicQ t with
      | none => rw [e4] at P; exact P.elim
      | some d =>
        obtain ⟨kd, ks, vs⟩ := d
        obtain ⟨a, u, zs, g, rfl, hr, hd, _, _⟩ := dicQ_ok e4 rel.hs r
        rw [e4] at P
        cases hd with
        | t => exact P.elim
        | k kvs hk nd =>
          simp only [sortDT] at P
          cases e5 : intsD (kvs.map fun p => keyD1 p.1) with
          | none => rw [e5] at P; exact P.elim
          | some ns =>
            rw [e5] at P
            by_cases c : ns.length < 64
            · simp only [if_pos c] at P
              refine .inr ⟨a, kvs, ns, rfl, hr, intsD_keys e5, c, fun ns' q hp hs hn => ?_⟩
              rw [sortI_is hp hs]
              exact Post.newL (Γ := Γ) P rel (fs := []) (xs := (sortI ns).map V.int) (ints_rp _) (fun c => by simpa using hc c) q hn
            · simp only [if_neg c] at P; exact P.elim
    | some us =>
      obtain ⟨p, ys, g, rfl, hq, r1, c1⟩ := lOnly_ok e1 rel.hs r
      cases e2 : intsT us with
      | some ns =>
        simp only [e1, Option.bind_some, e2] at P
        have := intsT_ok e2 r1
        subst this
        refine .inl (.inl ⟨p, ns, rfl, hq, fun ns' q hp hs hn => ?_⟩)
        rw [sortI_is hp hs]
        exact Post.newL (Γ := Γ) P rel (fs := []) (xs := (sortI ns).map V.int) (ints_rp _) (fun c => by simpa using hc c) q hn
      | none =>
        cases e3 : pairsT us with
        | none =>
          have e4 : dicQ t = none := by
            cases t with
            | v d => cases d <;> first | rfl | cases e1
            | w d => cases d <;> first | rfl | cases e1
            | b d => cases d <;> first | rfl | cases e1
            | l ts => rfl
            | tp ts => rfl
            | dc => cases e1
            | ob => rfl
          simp only [e1, Option.bind_some, e2, e3, e4] at P; exact P.elim
        | some ps =>
          simp only [e1, Option.bind_some, e2, e3] at P
          have e4 := pairsT_is e3
          subst e4
          obtain ⟨k1, k2⟩ := pairs_all rel.sub r1
          refine .inl (.inr ⟨p, ys, kH H, rfl, hq, k2, fun zs q hs hb hn => ?_⟩)
          obtain ⟨qs, g', h1, h2, h3⟩ := pairs_perm hb.perm.symm r1
          obtain ⟨m1, _⟩ := pairs_all rel.sub h1
          have hqs : qs = sortP ps := sortP_is h2 (by rw [← m1]; exact srtd_pairs hs)
          rw [hqs] at h1
          exact Post.newL (Γ := Γ) P rel h1 (fun c => by have := c1 c; have := h3 c; simp only [List.count_append]; omega) q hn
  · -- all
    rename_i t
    obtain ⟨x, rfl, r⟩ := rpTs_one ra
    cases e1 : lOnly t with
    | none => simp only [e1, Option.bind_none, Option.map_none] at P; exact P.elim
    | some us =>
      cases e2 : boolsT us with
      | none => simp only [e1, Option.bind_some, e2, Option.map_none] at P; exact P.elim
      | some ns =>
        simp only [e1, Option.bind_some, e2, Option.map_some] at P
        obtain ⟨p, ys, g, rfl, hq, r1, _⟩ := lOnly_ok e1 rel.hs r
        have := boolsT_ok e2 r1
        subst this
        exact ⟨p, ns, rfl, hq, Post.flatv (Γ := Γ) P rel hc (.bl _)⟩
  · -- list
    rename_i t
    obtain ⟨x, rfl, r⟩ := rpTs_one ra
    cases e1 : asQ t with
    | none => rw [e1] at P; exact P.elim
    | some us =>
      rw [e1] at P
      obtain ⟨p, ys, g, rfl, hq, r1, c1⟩ := asQ_ok e1 rel.hs r
      exact ⟨p, ys, rfl, hq, Post.newL (Γ := Γ) P rel r1 fun c => by have := c1 c; simp only [List.count_append]; omega⟩
  · -- tuple
    rename_i t0
    obtain ⟨x, rfl, r⟩ := rpTs_one ra
    split at P
    · cases r with
      | v rd =>
        cases rd with
        | tup h rs => exact ⟨_, _, rfl, .inr ⟨.of (rel.sub.eq h rfl), Post.flatv (Γ := Γ) P rel hc (.tup h rs)⟩⟩
    · cases r with
      | tp h rs => exact ⟨_, _, rfl, .inr ⟨.of ((rel.nsub.trans rel.sub).eq h rfl), P _ F H _ rel (.tp h rs) Sub.refl SubF.refl⟩⟩
    · cases r with
      | w rd =>
        have rd0 := rd
        cases rd with
        | tup h rs => exact ⟨_, _, rfl, .inr ⟨.of ((rel.nsub.trans rel.sub).eq h rfl), P _ F H [] (rel.less fun c => by simpa using hc c) (.w rd0) Sub.refl SubF.refl⟩⟩
    · cases e1 : lOnly t0 with
      | none => rw [e1] at P; exact P.elim
      | some us =>
        rw [e1] at P
        obtain ⟨p, ys, g, rfl, hq, r1, c1⟩ := lOnly_ok e1 rel.hs r
        exact ⟨p, ys, rfl, .inl ⟨hq, Post.newT (Γ := Γ) P rel r1 fun c => by have := c1 c; simp only [List.count_append]; omega⟩⟩
  · -- str
    obtain ⟨x, rfl, r⟩ := rpTs_one ra
    obtain ⟨rfl, _⟩ := int_inv r
    split at P
    · rename_i h
      exact ⟨_, rfl, h, Post.flatv (Γ := Γ) P rel hc (str_mk rfl (okS_show _ h))⟩
    · exact P.elim
  · obtain ⟨x, rfl, r⟩ := rpTs_one ra
    obtain ⟨rfl, _⟩ := int_inv r
    exact .inl ⟨_, rfl, Post.flatv (Γ := Γ) P rel hc (.int _)⟩
  · obtain ⟨x, rfl, r⟩ := rpTs_one ra
    obtain ⟨rfl, _⟩ := bl_inv r
    exact .inr ⟨_, rfl, Post.flatv (Γ := Γ) P rel hc (.int _)⟩
  · obtain ⟨x, rfl, r⟩ := rpTs_one ra
    obtain ⟨rfl, _⟩ := int_inv r
    exact ⟨_, rfl, Post.flatv (Γ := Γ) P rel hc (.int _)⟩
  · exact P.elim
section
variable {G : Glob}
theorem ok_blt {f : BF} {m : Es} (hm : OkEs G m) : Ok G (.blt f m) := by
  have sh : ∀ {N sc b'} {e : Expr}, chkE N sc b' (.blt f m) e = true → ∃ fn y ys pos, e = .Call fn (y :: ys) [] pos ∧ isGl sc f.nm fn = true ∧ chkEs N sc b' m (y :: ys) = true := by
    intro N sc b' e c
    unfold chkE at c
    split at c
    · rw [Bool.and_eq_true] at c
      exact ⟨_, _, _, _, rfl, c.1, c.2⟩
    · cases c
  have pe : ∀ X W b' e, Gd X G W b' → chkE X.N X.env.scope b' (.blt f m) e = true → PE X e (TE' X.K G W (.blt f m)) := by
    intro X W b' e g c
    obtain ⟨fn, y, ys, pos, rfl, c1, c2⟩ := sh c
    obtain ⟨p, rfl, hg⟩ := isGl_of c1
    have c4 : ∃ m1 ms, m = .cons m1 ms ∧ chkEs X.N X.env.scope b' ms ys = true ∧ notStar y = true := by
      cases m with
      | nil => simp [chkEs] at c2
      | cons m1 ms => simp only [chkEs, Bool.and_eq_true] at c2; exact ⟨m1, ms, rfl, c2.2, c2.1.2⟩
    obtain ⟨m1, ms, e1, e2, e3⟩ := c4
    obtain ⟨b1, b2, b3, b4⟩ := boot_F f
    have key : PE X (.Call (.Name (Str.ofString f.nm) p) (y :: ys) [] pos) (tCB (rF X.K f) (TA' X.K G W m)) := by
      have cr := cr_F g.calm f
      have ha := hm X W b' (y :: ys) g c2
      unfold BF.val at cr b1
      by_cases ht : f.ty = true
      · rw [if_pos ht] at cr b1
        exact pe_callTy cr hg (g.blt _ b4) b1 ha b2 b3 (star_of e3) (plain_of e2)
      · rw [if_neg ht] at cr b1
        exact pe_callB cr hg (g.blt _ b4) b1 ha b2 b3 (star_of e3) (plain_of e2)
    refine PE.imp key fun σ H Q h => ?_
    exact args (r := rF X.K f) (fun B F H σ Γ tmp fp xs ts Q rel ra P => bltT_ok rel ra P) σ H Q h
  refine ⟨pe, fun X W b' e g c => ?_, pw_no fun N sc b op vs pos => rfl⟩
  obtain ⟨fn, y, ys, pos, rfl, c1, c2⟩ := sh c
  exact tB_of (pe X W b' _ g c) fun _ => rfl
theorem rg_rp {K : W.Frag} {F : FF} {H : Hp} (j : Int) : RpTs K F H (rgV 0 j) ((List.range j.toNat).map fun (i : Nat) => T.v (.int (i : Int))) [] := by
  have e : rgV 0 j = ((List.range j.toNat).map fun (i : Nat) => (i : Int)).map V.int := by
    unfold rgV
    rw [Int.sub_zero, List.map_map]
    exact List.map_congr_left fun i _ => by show V.int (0 + (i : Int)) = V.int (i : Int); rw [Int.zero_add]
  have e2 : ((List.range j.toNat).map fun (i : Nat) => T.v (.int (i : Int))) = ((List.range j.toNat).map fun (i : Nat) => (i : Int)).map fun i => T.v (.int i) := by rw [List.map_map]; rfl
  rw [e, e2]
  exact ints_rp _
theorem ok_lrn {a : E} (ha : Ok G a) : Ok G (.lrn a) := by
  have sh : ∀ {N sc b'} {e : Expr}, chkE N sc b' (.lrn a) e = true → ∃ fn gn y pos pos2, e = .Call fn [.Call gn [y] [] pos2] [] pos ∧ isGl sc "list" fn = true ∧ isGl sc "range" gn = true ∧ chkE N sc b' a y = true ∧ notStar y = true := by
    intro N sc b' e c
    unfold chkE at c
    split at c
    · simp only [Bool.and_eq_true] at c
      exact ⟨_, _, _, _, _, rfl, c.1.1.1, c.1.1.2, c.1.2, c.2⟩
    · cases c
  have pe : ∀ X W b' e, Gd X G W b' → chkE X.N X.env.scope b' (.lrn a) e = true → PE X e (TE' X.K G W (.lrn a)) := by
    intro X W b' e g c
    obtain ⟨fn, gn, y, pos, pos2, rfl, c1, c2, c3, c4⟩ := sh c
    obtain ⟨p, rfl, hg⟩ := isGl_of c1
    obtain ⟨p2, rfl, hg2⟩ := isGl_of c2
    refine PE.imp (pe_listRg g.calm hg (g.blt "list" (by decide)) (prg_1 hg2 (g.blt "range" (by decide)) (ha.pe X W b' y g c3) (star_of c4))) fun σ H Q h => ?_
    refine one (r := fun x H1 Q => ∃ n, x = V.int n ∧ RgOk 0 n ∧ ∀ q, H1 q = none → Q (.ref q) (upd H1 q (.lst (rgV 0 n)))) (fun B F H σ Γ tmp fa x ta Q rel ra P => ?_) σ H Q h
    split at P
    · obtain ⟨rfl, rfl⟩ := int_inv ra
      split at P
      · rename_i hs
        rw [Bool.and_eq_true, decide_eq_true_eq] at hs
        have h12 := hs.1
        unfold small62 at h12
        obtain ⟨h1, h2⟩ := of_decide_eq_true h12
        refine ⟨_, rfl, ⟨by decide, by decide, h1, h2, ?_⟩, Post.newL (Γ := Γ) P rel (rg_rp _) fun c => by simp⟩
        have := hs.2
        rw [Int.sub_zero]
        show Int.toNat _ ≤ 16777216
        have e : LIM = 16777216 := rfl
        rw [e] at this
        omega
      · exact P.elim
    · exact P.elim
  refine ⟨pe, fun X W b' e g c => ?_, pw_no fun N sc b op vs pos => rfl⟩
  obtain ⟨fn, gn, y, pos, pos2, rfl, c1, c2, c3, c4⟩ := sh c
  exact tB_of (pe X W b' _ g c) fun _ => rfl
end
end Tv

namespace Tv
open PySem PySem.Spec PyProof.Rows L2

/-! ### isinstance -/
def D.tyn : D → String
  | .non => "NoneType" | .bl _ => "bool" | .int _ => "int" | .str _ => "str" | .lst _ => "list" | .scr _ => "list" | .tup _ => "tuple" | .ktp _ => "tuple" | .dct _ _ _ => "dict" | .obj _ _ _ => "object" | .exc _ _ _ => "object"
theorem kit_isi (K : W.Frag) (d : D) (t : Ty) (h : d.tyOk = true) : PySem.W.kitOne K (.type d.tyn) (.type t.nm) = some (d.isi t) := by
  cases d <;> first | (cases h; done) | (cases t <;> rfl)
theorem ty_seqL {K : W.Frag} {H : Hp} {a : Addr} {xs : List V} (h : SqL K H a xs) : TyX K H (.ref a) (.type "list") := by
  rcases h with (h | ⟨o, h⟩) | ⟨o, its, n, h1, h2, _⟩
  · exact .base (.lst h)
  · exact .base (.frz h)
  · exact .kList h1 h2
theorem ty_seqT {K : W.Frag} {H : Hp} {a : Addr} {xs : List V} (h : SqT K H a xs) : TyX K H (.ref a) (.type "tuple") := by
  rcases h with (h | ⟨o, h⟩) | ⟨o, its, n, h1, h2, _⟩
  · exact .base (.tup h)
  · exact .fTuple h
  · exact .kTuple h1 h2
theorem RpD.ty {K : W.Frag} {H : Hp} {x : V} {d : D} (r : RpD K H x d) (ok : d.tyOk = true) : TyX K H x (.type d.tyn) := by
  cases r with
  | non => exact .base .non
  | bl b => exact .base (.bl b)
  | int i => exact .base (.int i)
  | str z _ => exact .base (.str z)
  | lst h _ => exact .base (.lst h)
  | tup h _ => exact ty_seqT (.of h)
  | ktp h _ => exact ty_seqT h
  | scr h => exact ty_seqL h
  | dct h q r =>
    cases q with
    | k kvs _ _ =>
      rcases h with h | ⟨o, h⟩
      · exact .base (.dK h)
      · exact .fDict h
    | t kvs _ _ => cases ok
  | obj _ _ _ _ _ => cases ok
  | exc _ _ _ _ _ => cases ok
theorem boot_Ty (t : Ty) : bootBuiltins (Str.ofString t.nm) = some (.type t.nm) ∧ Str.ofString t.nm ≠ "__name__" ∧ (Str.ofString t.nm == ("__debug__" : Str)) = false ∧ t.nm ∈ bltNames := by
  cases t <;> exact ⟨by decide +kernel, by decide +kernel, by decide +kernel, by decide⟩
section
variable {G : Glob}
theorem ok_isi {a : E} {t : Ty} (ha : Ok G a) : Ok G (.isi a t) := by
  have sh : ∀ {N sc b'} {e : Expr}, chkE N sc b' (.isi a t) e = true → ∃ fn x y pos, e = .Call fn [x, y] [] pos ∧ isGl sc "isinstance" fn = true ∧ chkE N sc b' a x = true ∧ isGl sc t.nm y = true := by
    intro N sc b' e c
    unfold chkE at c
    split at c
    · simp only [Bool.and_eq_true] at c
      exact ⟨_, _, _, _, rfl, c.1.1, c.1.2, c.2⟩
    · cases c
  have pe : ∀ X W b' e, Gd X G W b' → chkE X.N X.env.scope b' (.isi a t) e = true → PE X e (TE' X.K G W (.isi a t)) := by
    intro X W b' e g c
    obtain ⟨fn, x, y, pos, rfl, c1, c2, c3⟩ := sh c
    obtain ⟨p, rfl, hg⟩ := isGl_of c1
    obtain ⟨p2, rfl, hg2⟩ := isGl_of c3
    obtain ⟨b1, b2, b3, b4⟩ := boot_Ty t
    have hx := ha.pe X W b' x g c2
    have py : PE X (.Name (Str.ofString t.nm) p2) (tC (.ty t.nm)) := pe_bltn hg2 (g.blt _ b4) b1 rfl b2 b3
    have st : starEach (x :: [Expr.Name (Str.ofString t.nm) p2]) X.env = (false, eval x X.env) :: starEach [Expr.Name (Str.ofString t.nm) p2] X.env := star_of (chk_notStar c2)
    refine PE.imp (pe_callB call_isi hg (g.blt "isinstance" (by decide)) (by decide +kernel) (pa_cons hx (pa_cons py pa_nil) st) (by decide +kernel) (by decide +kernel) st rfl) fun σ H Q h => ?_
    refine one (rep := rT X.K) (r := fun x H (Q : VK) => rIsi X.K [x, .ty t.nm] H Q) (fun B F H σ Γ tmp fa x ta Q rel ra P => ?_) σ H Q h
    cases ok : ta.er.tyOk with
    | false => simp only [ok, Bool.false_eq_true, if_false] at P; exact P.elim
    | true =>
    simp only [ok, if_true] at P
    exact ⟨x, _, _, _, _, rfl, .ty _, (rel.rd ra).ty ok, kit_isi _ _ _ ok, P.flatv rel (fun c => by simp only [List.count_append]; omega) (.bl _)⟩
  refine ⟨pe, fun X W b' e g c => ?_, pw_no fun N sc b op vs pos => rfl⟩
  obtain ⟨fn, x, y, pos, rfl, c1, c2, c3⟩ := sh c
  exact tB_of (pe X W b' _ g c) fun _ => rfl

/-! ### items, slices -/
theorem RpTs.get : ∀ {K : W.Frag} {F : FF} {H : Hp} {xs : List V} {ts : List T} {f : List Addr} (i : Nat) {t : T}, RpTs K F H xs ts f → ts[i]? = some t → ∃ x g, xs[i]? = some x ∧ RpT K F H x t g ∧ ∀ c, g.count c ≤ f.count c
  | _, _, _, _, _, _, _, _, .nil, e => by simp at e
  | _, _, _, _, _, _, 0, _, .cons (f := f) r _, e => by
    simp at e; subst e
    exact ⟨_, f, rfl, r, fun c => by rw [List.count_append]; omega⟩
  | _, _, _, _, _, _, i + 1, t, .cons _ rs, e => by
    obtain ⟨u, g, h1, h2, h3⟩ := RpTs.get i rs (t := t) (by simpa using e)
    exact ⟨u, g, by simpa using h1, h2, fun c => by rw [List.count_append]; have := h3 c; omega⟩
theorem RpTs.atI {K : W.Frag} {F : FF} {H : Hp} {xs : List V} {ts : List T} {f : List Addr} {i : Int} {t : T} (r : RpTs K F H xs ts f) (e : atI ts i = some t) : ∃ x g, L2.atI xs i = some x ∧ RpT K F H x t g ∧ ∀ c, g.count c ≤ f.count c := by
  unfold L2.atI at e ⊢
  rw [r.length]
  cases h : ixN ts.length i with
  | none => rw [h] at e; cases e
  | some j =>
    rw [h] at e
    exact r.get j e
def rIx (K : W.Frag) : R2 := fun x y H Q => rIxL K x y H Q ∨ rIxT K x y H Q ∨ rIxS x y H Q
theorem ix_any {X : Cx} : IxR X (rIx X.K) := IxR.or ix_list (IxR.or ix_tup ix_str)
theorem okS_one {s : List Nat} {c : Nat} (h : okS s = true) (m : c ∈ s) : okS [c] = true := by
  unfold okS at *
  simp only [Bool.and_eq_true, decide_eq_true_eq, List.all_eq_true] at *
  refine ⟨by rw [sizeLine_eq]; exact (by decide : 1 ≤ 16777216), fun x hx => ?_⟩
  rw [List.mem_singleton.mp hx]
  exact h.2 c m
theorem ixT_ok {K : W.Frag} {G : Glob} {W : WX} {B : Base} {F : FF} {H : Hp} {σ : L2.St} {Γ : Env} {tmp fa fb : List Addr} {x y : V} {a b : T} {Q : VK} (rel : Rel K B F H σ Γ (fb ++ (fa ++ tmp))) (ra : RpT K F H x a fa) (rb : RpT K F H y b fb)
    (P : Post K G W B F H σ tmp (rT K) (R.op (ixT a b) Γ) Q) : rIx K x y H Q := by
  have hc : ∀ c, tmp.count c ≤ (fb ++ (fa ++ tmp)).count c := fun c => by simp only [List.count_append]; omega
  unfold ixT at P
  split at P
  · rename_i s k
    obtain ⟨rfl, rfl⟩ := int_inv rb
    obtain ⟨z, rfl, h1, h2, rfl⟩ := str_inv ra
    cases e : L2.atI s k with
    | none => rw [e] at P; exact P.elim
    | some c =>
      rw [e] at P
      have hm : c ∈ s := by
        unfold L2.atI at e
        cases q : ixN s.length k with
        | none => rw [q] at e; cases e
        | some j => rw [q] at e; exact List.mem_of_getElem? e
      exact .inr (.inr ⟨z, k, c, rfl, rfl, by rw [strLen, h1, sizeLine_eq]; exact okS_le h2, by rw [h1]; exact e, Post.flatv (Γ := Γ) P rel hc (str_mk rfl (okS_one h2 hm))⟩)
  · rename_i k _
    obtain ⟨rfl, rfl⟩ := int_inv rb
    cases e : asQ a with
    | none => rw [e] at P; exact P.elim
    | some ts =>
      rw [e] at P
      cases e2 : L2.atI ts k with
      | none => simp only [Option.bind_some, e2] at P; exact P.elim
      | some t =>
        simp only [Option.bind_some, e2] at P
        obtain ⟨p, xs, g, rfl, hq, r1, c1⟩ := asQ_ok e rel.hs ra
        obtain ⟨v, g2, hv, rv, c2⟩ := r1.atI e2
        have q : Q v H := P v F H g2 (rel.less fun c => by have := c1 c; have := c2 c; simp only [List.count_append]; omega) rv Sub.refl SubF.refl
        rcases hq with hq | hq
        · exact .inl ⟨p, xs, k, v, rfl, rfl, hq, hv, q⟩
        · exact .inr (.inl ⟨p, xs, k, v, rfl, rfl, hq, hv, q⟩)
  · exact P.elim
theorem chk_slice {N sc b m a c d p} : chkE N sc b m (.Slice a c d p) = false := by cases m <;> rfl
theorem plainIx_of {N sc b m e} (h : chkE N sc b m e = true) : PlainIx e := by
  cases e with
  | Slice a c d p => rw [chk_slice] at h; cases h
  | _ => exact fun _ _ => rfl
theorem ok_ix {a i : E} (ha : Ok G a) (hi : Ok G i) : Ok G (.ix a i) := by
  have sh : ∀ {N sc b'} {e : Expr}, chkE N sc b' (.ix a i) e = true → ∃ x y pos, e = .Subscript x y pos ∧ chkE N sc b' a x = true ∧ chkE N sc b' i y = true := by
    intro N sc b' e c
    unfold chkE at c
    split at c
    · rw [Bool.and_eq_true] at c
      exact ⟨_, _, _, rfl, c.1, c.2⟩
    · cases c
  have pe : ∀ X W b' e, Gd X G W b' → chkE X.N X.env.scope b' (.ix a i) e = true → PE X e (TE' X.K G W (.ix a i)) := by
    intro X W b' e g c
    obtain ⟨x, y, pos, rfl, c1, c2⟩ := sh c
    exact PE.imp (pe_ix ix_any (ha.pe X W b' x g c1) (hi.pe X W b' y g c2) (plainIx_of c2)) fun σ H Q h => two (f := fun x y Γ => R.op (ixT x y) Γ) (fun B F H σ Γ tmp fa fb x y ta tb Q rel ra rb P => ixT_ok rel ra rb P) σ H Q h
  refine ⟨pe, fun X W b' e g c => ?_, pw_no fun N sc b op vs pos => rfl⟩
  obtain ⟨x, y, pos, rfl, c1, c2⟩ := sh c
  exact tB_of (pe X W b' _ g c) fun _ => rfl
theorem oko_no : OkO G .no := by
  intro X W b e g c
  cases e with
  | none =>
    refine PO.imp po_none fun σ H Q h => ?_
    obtain ⟨B, F, Γ, tmp, rel, P⟩ := h
    exact P none F H [] (by simpa using rel) ⟨rfl, rfl⟩ Sub.refl SubF.refl
  | some e => simp [chkO] at c
theorem oko_so {m : E} (hm : Ok G m) : OkO G (.so m) := by
  intro X W b e g c
  cases e with
  | none => simp [chkO] at c
  | some e =>
    refine PO.imp (po_some (hm.pe X W b e g (by simpa [chkO] using c))) fun σ H Q h => ?_
    refine one (β := Option Int) (rep := fun _ _ v a fp => v = a ∧ fp = []) (r := fun x H Q => ∃ i, x = V.int i ∧ Q (some i) H) (fun B F H σ Γ tmp fa x ta Q rel ra P => ?_) σ H Q h
    split at P
    · obtain ⟨rfl, rfl⟩ := int_inv ra
      exact ⟨_, rfl, P _ F H [] (by simpa using rel) ⟨rfl, rfl⟩ Sub.refl SubF.refl⟩
    · exact P.elim
theorem RpTs.take : ∀ {K : W.Frag} {F : FF} {H : Hp} (n : Nat) {xs : List V} {ts : List T} {f : List Addr}, RpTs K F H xs ts f → ∃ g, RpTs K F H (xs.take n) (ts.take n) g ∧ ∀ c, g.count c ≤ f.count c
  | _, _, _, 0, _, _, _, _ => ⟨[], by simpa using .nil, fun c => by simp⟩
  | _, _, _, n + 1, _, _, _, .nil => ⟨[], .nil, fun c => by simp⟩
  | _, _, _, n + 1, _, _, _, .cons (f := f) a b => by
    obtain ⟨g, h1, h2⟩ := RpTs.take n b
    exact ⟨f ++ g, .cons a h1, fun c => by rw [List.count_append, List.count_append]; have := h2 c; omega⟩
theorem RpTs.drop : ∀ {K : W.Frag} {F : FF} {H : Hp} (n : Nat) {xs : List V} {ts : List T} {f : List Addr}, RpTs K F H xs ts f → ∃ g, RpTs K F H (xs.drop n) (ts.drop n) g ∧ ∀ c, g.count c ≤ f.count c
  | _, _, _, 0, _, _, f, r => ⟨f, r, fun c => Nat.le_refl _⟩
  | _, _, _, n + 1, _, _, _, .nil => ⟨[], .nil, fun c => by simp⟩
  | _, _, _, n + 1, _, _, _, .cons a b => by
    obtain ⟨g, h1, h2⟩ := RpTs.drop n b
    exact ⟨g, h1, fun c => by rw [List.count_append]; have := h2 c; omega⟩
theorem RpTs.cut {K : W.Frag} {F : FF} {H : Hp} {xs : List V} {ts : List T} {f : List Addr} (r : RpTs K F H xs ts f) (lo hi : Option Int) : ∃ g, RpTs K F H (cutV xs lo hi) (cutL ts lo hi) g ∧ ∀ c, g.count c ≤ f.count c := by
  unfold cutV cutL
  rw [r.length]
  obtain ⟨g, h1, h2⟩ := r.drop (HT.sIx ts.length 0 lo)
  obtain ⟨g', h3, h4⟩ := h1.take (HT.sIx ts.length ts.length hi - HT.sIx ts.length 0 lo)
  exact ⟨g', h3, fun c => Nat.le_trans (h4 c) (h2 c)⟩
theorem RpTs.rev : ∀ {K : W.Frag} {F : FF} {H : Hp} {xs : List V} {ts : List T} {f : List Addr}, RpTs K F H xs ts f → ∃ g, RpTs K F H xs.reverse ts.reverse g ∧ ∀ c, g.count c ≤ f.count c
  | _, _, _, _, _, _, .nil => ⟨[], .nil, fun c => by simp⟩
  | _, _, _, _, _, _, .cons (f := f) a b => by
    obtain ⟨g, h1, h2⟩ := RpTs.rev b
    refine ⟨g ++ (f ++ []), ?_, fun c => by simp only [List.count_append, List.count_nil]; have := h2 c; omega⟩
    rw [List.reverse_cons, List.reverse_cons]
    exact h1.append (.cons a .nil)
theorem okS_sub {s t : List Nat} (h : okS s = true) (m : ∀ c ∈ t, c ∈ s) (hl : t.length ≤ s.length) : okS t = true := by
  unfold okS at *
  simp only [Bool.and_eq_true, decide_eq_true_eq, List.all_eq_true] at *
  exact ⟨by omega, fun x hx => h.2 x (m x hx)⟩
def rSl (K : W.Frag) : V → Option Int → Option Int → Hp → VK → Prop := fun x lo hi H Q => rSlL K x lo hi H Q ∨ rSlS x lo hi H Q
theorem sl_any {X : Cx} : SlR X (rSl X.K) := SlR.or sl_list sl_str
theorem slT_ok {K : W.Frag} {G : Glob} {W : WX} {B : Base} {F : FF} {H : Hp} {σ : L2.St} {Γ : Env} {tmp tmp2 fa : List Addr} {x : V} {a : T} {lo hi : Option Int} {Q : VK} (rel : Rel K B F H σ Γ tmp2) (hc : ∀ c, fa.count c + tmp.count c ≤ tmp2.count c) (ra : RpT K F H x a fa)
    (P : Post K G W B F H σ tmp (rT K) (R.op (slT a lo hi) Γ) Q) : rSl K x lo hi H Q := by
  unfold slT at P
  split at P
  · rename_i s
    obtain ⟨z, rfl, h1, h2, rfl⟩ := str_inv ra
    refine .inr ⟨z, rfl, by rw [strLen, h1, sizeLine_eq]; exact okS_le h2, Post.flatv (Γ := Γ) P rel (fun c => by have := hc c; omega) ?_⟩
    refine str_mk ?_ ?_
    · unfold cutS cutL
      rw [strLen, h1]
    · unfold cutL
      refine okS_sub h2 (fun c m => ?_) ?_
      · exact List.mem_of_mem_drop (List.mem_of_mem_take m)
      · rw [List.length_take, List.length_drop]; omega
  · cases e : lOnly a with
    | none => rw [e] at P; exact P.elim
    | some ts =>
      rw [e] at P
      obtain ⟨p, xs, g, rfl, hq, r1, c1⟩ := lOnly_ok e rel.hs ra
      obtain ⟨g2, r2, c2⟩ := r1.cut lo hi
      exact .inl ⟨p, xs, rfl, hq, Post.newL (Γ := Γ) P rel r2 fun c => by have := c1 c; have := c2 c; have := hc c; omega⟩
theorem ok_sl {a : E} {lo hi : OE} (ha : Ok G a) (hl : OkO G lo) (hh : OkO G hi) : Ok G (.sl a lo hi) := by
  have sh : ∀ {N sc b'} {e : Expr}, chkE N sc b' (.sl a lo hi) e = true → ∃ x l h p pos, e = .Subscript x (.Slice l h none p) pos ∧ chkE N sc b' a x = true ∧ chkO N sc b' lo l = true ∧ chkO N sc b' hi h = true := by
    intro N sc b' e c
    unfold chkE at c
    split at c
    · simp only [Bool.and_eq_true] at c
      exact ⟨_, _, _, _, _, rfl, c.1.1, c.1.2, c.2⟩
    · cases c
  have pe : ∀ X W b' e, Gd X G W b' → chkE X.N X.env.scope b' (.sl a lo hi) e = true → PE X e (TE' X.K G W (.sl a lo hi)) := by
    intro X W b' e g c
    obtain ⟨x, l, h, p, pos, rfl, c1, c2, c3⟩ := sh c
    refine PE.imp (pe_slice sl_any (ha.pe X W b' x g c1) (hl X W b' l g c2) (hh X W b' h g c3)) ?_
    rintro σ H Q ⟨B, F, Γ, tmp, rel, P⟩
    refine ⟨B, F, Γ, tmp, rel, (P.bind (rep := rT X.K) (fp := [])).imp ?_⟩
    rintro x H1 ⟨ta, Γ1, F1, fa, rel1, ra, sH1, sF1, P1⟩
    refine ⟨B, F1, Γ1, fa ++ tmp, rel1, (Post.bind (rep := fun _ _ v a fp => v = a ∧ fp = []) (fp := fa) P1).imp ?_⟩
    rintro l H2 ⟨l', Γ2, F2, fl, rel2, ⟨rfl, rfl⟩, sH2, sF2, P2⟩
    refine ⟨B, F2, Γ2, fa ++ tmp, by simpa using rel2, (Post.bind (rep := fun _ _ v a fp => v = a ∧ fp = []) (fp := fa) P2).imp ?_⟩
    rintro h H3 ⟨h', Γ3, F3, fh, rel3, ⟨rfl, rfl⟩, sH3, sF3, P3⟩
    exact slT_ok (Γ := Γ3) rel3 (fun c => by simp only [List.count_append]; omega) ((ra.grow sF2 sH2).grow sF3 sH3) P3
  refine ⟨pe, fun X W b' e g c => ?_, pw_no fun N sc b op vs pos => rfl⟩
  obtain ⟨x, l, h, p, pos, rfl, c1, c2, c3⟩ := sh c
  exact tB_of (pe X W b' _ g c) fun _ => rfl
theorem ok_rev {a : E} (ha : Ok G a) : Ok G (.rev a) := by
  have sh : ∀ {N sc b'} {e : Expr}, chkE N sc b' (.rev a) e = true → ∃ x k p1 p2 p3 pos, e = .Subscript x (.Slice none none (some (.UnaryOp .USub (.Constant (.int 1) k p1) p2)) p3) pos ∧ chkE N sc b' a x = true := by
    intro N sc b' e c
    unfold chkE at c
    split at c
    · exact ⟨_, _, _, _, _, _, rfl, c⟩
    · cases c
  have pe : ∀ X W b' e, Gd X G W b' → chkE X.N X.env.scope b' (.rev a) e = true → PE X e (TE' X.K G W (.rev a)) := by
    intro X W b' e g c
    obtain ⟨x, k, p1, p2, p3, pos, rfl, c1⟩ := sh c
    refine PE.imp (pe_revL (ha.pe X W b' x g c1)) fun σ H Q h => ?_
    refine one (rep := rT X.K) (r := fun x H (Q : VK) => ∃ a xs, x = V.ref a ∧ SqL X.K H a xs ∧ ∀ p, H p = none → Q (.ref p) (upd H p (.lst xs.reverse))) (fun B F H σ Γ tmp fa x ta Q rel ra P => ?_) σ H Q h
    unfold revT at P
    cases e : lOnly ta with
    | none => rw [e] at P; exact P.elim
    | some ts =>
      rw [e] at P
      obtain ⟨p, xs, g, rfl, hq, r1, c1⟩ := lOnly_ok e rel.hs ra
      obtain ⟨g2, r2, c2⟩ := r1.rev
      exact ⟨p, xs, rfl, hq, Post.newL (Γ := Γ) P rel r2 fun c => by have := c1 c; have := c2 c; simp only [List.count_append]; omega⟩
  refine ⟨pe, fun X W b' e g c => ?_, pw_no fun N sc b op vs pos => rfl⟩
  obtain ⟨x, k, p1, p2, p3, pos, rfl, c1⟩ := sh c
  exact tB_of (pe X W b' _ g c) fun _ => rfl
end
end Tv

namespace Tv
open PySem PySem.Spec PyProof.Rows L2

/-! ### what is walked -/
/-- frozen things -/
inductive RpF (K : W.Frag) (F : FF) : V → T → Prop
  | v {x : V} {d : D} (r : RpD K F.f x d) : RpF K F x (.v d)
  | w {x : V} {d : D} (r : RpD K F.n x d) : RpF K F x (.w d)
theorem RpF.rt {K : W.Frag} {F : FF} {x : V} {t : T} (r : RpF K F x t) (H : Hp) : RpT K F H x t [] := by
  cases r with
  | v r => exact .v r
  | w r => exact .w r
theorem RpF.noB {K : W.Frag} {F : FF} {x : V} {t : T} (r : RpF K F x t) : t.noB = true := by cases r <;> rfl
theorem RpF.mono {K : W.Frag} {F F' : FF} (h : SubF F F') {x : V} {t : T} (r : RpF K F x t) : RpF K F' x t := by
  cases r with
  | v r => exact .v (r.mono h.f)
  | w r => exact .w (r.mono h.n)
structure RpFs (K : W.Frag) (F : FF) (xs : List V) (ts : List T) : Prop where
  length : xs.length = ts.length
  getV : ∀ (i : Nat) {x : V}, xs[i]? = some x → ∃ t, ts[i]? = some t ∧ RpF K F x t
theorem RpFs.ofV {K : W.Frag} {F : FF} {xs : List V} {ds : List D} (r : RpDs K F.f xs ds) : RpFs K F xs (ds.map .v) := ⟨by rw [r.length, List.length_map], fun i x e => by
  obtain ⟨d, h1, h2⟩ := r.getV i e
  exact ⟨.v d, by rw [List.getElem?_map, h1]; rfl, .v h2⟩⟩
theorem RpFs.ofW {K : W.Frag} {F : FF} (hN : Sub F.n F.f) {xs : List V} {ds : List D} (r : RpDs K F.n xs ds) : RpFs K F xs (ds.map subW) := ⟨by rw [r.length, List.length_map], fun i x e => by
  obtain ⟨d, h1, h2⟩ := r.getV i e
  refine ⟨subW d, by rw [List.getElem?_map, h1]; rfl, ?_⟩
  unfold subW
  split
  · exact .v (h2.mono hN)
  · exact .w h2⟩
theorem RpFs.ints {K : W.Frag} {F : FF} (ns : List Int) : RpFs K F (ns.map V.int) (ns.map fun n => T.v (.int n)) := ⟨by simp, fun i x e => by
  rw [List.getElem?_map] at e
  obtain ⟨n, h1, rfl⟩ := Option.map_eq_some_iff.mp e
  exact ⟨_, by rw [List.getElem?_map, h1]; rfl, .v (.int n)⟩⟩
theorem RpFs.mono {K : W.Frag} {F F' : FF} (h : SubF F F') {xs : List V} {ts : List T} (r : RpFs K F xs ts) : RpFs K F' xs ts := ⟨r.length, fun i x e => by
  obtain ⟨t, h1, h2⟩ := r.getV i e
  exact ⟨t, h1, h2.mono h⟩⟩
def YD (K : W.Frag) (F : FF) (ts : List T) : Nat → Hp → V → Hp → Prop := fun i H x H' => ∃ t, ts[i]? = some t ∧
  ((H' = H ∧ RpF K F x t) ∨ (∃ A a b x1 x2, t = .tp [a, b] ∧ x = .ref A ∧ H A = none ∧ H' = upd H A (.tup [x1, x2]) ∧ RpF K F x1 a ∧ RpF K F x2 b) ∨ (H' = H ∧ ∃ d : D, t = .v d ∧ d.imm = true ∧ RpD K H x d))
def rI' (K : W.Frag) : FF → Hp → It → List T → List Addr → Prop := fun F H J ts fp => fp = [] ∧ Walk J ts.length (fun H => Sub F.f H) (YD K F ts)
def OkI (G : Glob) (m : I) : Prop := ∀ X W b tg e, Gd X G W b → chkI X.N X.env.scope b m tg e = true → PI X tg e (TM X.K G W (rI' X.K) (evI G.cl G.con m)) ∧ notSet e = true
def iSeq (K : W.Frag) (tl : TE) : TI := fun σ H R => tl σ H fun x H1 => (∃ a, x = V.ref a ∧ (∃ xs, SqL K H1 a xs) ∧ R (Itl K a) H1) ∨ (∃ a, x = V.ref a ∧ (∃ xs, SqT K H1 a xs) ∧ R (Itt K a) H1) ∨ (∃ z, x = V.str z ∧ R (Its z) H1)
theorem pi_seq {X : Cx} {tg l : Expr} {tl : TE} (hl : PE X l tl) : PI X tg l (iSeq X.K tl) := by
  refine ⟨fun pins s σ H R I h => ?_⟩
  refine thn (hl.run pins s σ H _ I h) fun v s1 ⟨x, H1, I1, r1, q1⟩ => ?_
  rcases q1 with ⟨a, e, ⟨xs, hq⟩, q⟩ | ⟨a, e, ⟨xs, hq⟩, q⟩ | ⟨z, e, q⟩
  · subst e
    cases r1
    obtain ⟨its, rv, p, hz⟩ := I1.list hq
    refine wpAny_pyIter_list p.isList ?_
    refine ⟨s1.heap.objs.size, [s1.heap.objs.size], _, _, H1, rfl, I1.kept (t' := s1.toks) fun b o e => Heap.get?_push_of_some _ e, turn_list a _, ⟨_, Heap.get?_push_size _ rfl, rfl, rfl⟩, fun b hb => ?_, q⟩
    have e : b = s1.heap.objs.size := by simpa using hb
    subst e
    exact I1.fpOk (Nat.le_refl _) (I1.hok.fresh (Nat.le_refl _))
  · subst e
    cases r1
    obtain ⟨its, rv, p, hz⟩ := I1.tuple hq
    refine wpAny_pyIter_tuple (show s1.heap.IsTuple a its.toArray from p) ?_
    refine ⟨s1.heap.objs.size, [s1.heap.objs.size], _, _, H1, rfl, I1.kept (t' := s1.toks) fun b o e => Heap.get?_push_of_some _ e, turn_tuple a _, ⟨_, Heap.get?_push_size _ rfl, rfl, rfl⟩, fun b hb => ?_, q⟩
    have e : b = s1.heap.objs.size := by simpa using hb
    subst e
    exact I1.fpOk (Nat.le_refl _) (I1.hok.fresh (Nat.le_refl _))
  · subst e
    obtain ⟨t, rfl⟩ := r1
    cases ha : z.cps.all (· < 128)
    · exact wpAny_pyIter_wide ha (pi_one (tk := s1.toks) I1 _ (turn_str _ z t "str_iterator" (.inr rfl)) ⟨_, Heap.get?_push_size _ rfl, rfl, rfl⟩ q)
    · exact wpAny_pyIter_ascii ha (pi_one (tk := s1.toks) I1 _ (turn_str _ z t "str_ascii_iterator" (.inl rfl)) ⟨_, Heap.get?_push_size _ rfl, rfl, rfl⟩ q)
section
variable {K : W.Frag} {F : FF}
theorem walkD_list {a : Addr} {xs : List V} {ts : List T} (h : SqL K F.f a xs) (r : RpFs K F xs ts) : Walk (Itl K a) ts.length (fun H => Sub F.f H) (YD K F ts) := by
  rw [← r.length]
  refine (walk_list (K := K) (a := a) (xs := xs)).mono (fun H s => s.sqL h) ?_
  rintro i H x H' hi _ ⟨rfl, hx⟩
  obtain ⟨d, h1, h2⟩ := r.getV i hx
  exact ⟨d, h1, .inl ⟨rfl, h2⟩⟩
theorem walkD_tup {a : Addr} {xs : List V} {ts : List T} (h : SqT K F.f a xs) (r : RpFs K F xs ts) : Walk (Itt K a) ts.length (fun H => Sub F.f H) (YD K F ts) := by
  rw [← r.length]
  refine (walk_tup (K := K) (a := a) (xs := xs)).mono (fun H s => s.sqT h) ?_
  rintro i H x H' hi _ ⟨rfl, hx⟩
  obtain ⟨d, h1, h2⟩ := r.getV i hx
  exact ⟨d, h1, .inl ⟨rfl, h2⟩⟩
theorem walkD_str {z : Str} (h : okS z.cps.toList = true) : Walk (Its z) (z.cps.toList.map fun c => T.v (.str [c])).length (fun H => Sub F.f H) (YD K F (z.cps.toList.map fun c => T.v (.str [c]))) := by
  have e : (z.cps.toList.map fun c => T.v (.str [c])).length = z.cps.size := by simp
  rw [e]
  refine (walk_str (z := z)).mono (fun H s => trivial) ?_
  rintro i H x H' hi _ ⟨rfl, c, hc, rfl⟩
  have hc' : z.cps.toList[i]? = some c := by rw [Array.getElem?_toList]; exact hc
  refine ⟨.v (.str [c]), by rw [List.getElem?_map, hc']; rfl, .inl ⟨rfl, .v ?_⟩⟩
  exact str_mk (z := ⟨#[c]⟩) rfl (okS_one h (List.mem_of_getElem? hc'))
theorem listT_ok {x : V} {u : T} {ts : List T} {H : Hp} {f : List Addr} (hN : Sub F.n F.f) (e : listT u = some ts) (r : RpT K F H x u f) : ∃ a xs, x = .ref a ∧ SqL K F.f a xs ∧ RpFs K F xs ts := by
  unfold listT at e
  split at e
  · cases e
    cases r with | v r => cases r with | lst h r => exact ⟨_, _, rfl, .of h, .ofV r⟩
  · cases e
    cases r with | v r => cases r with | scr h => exact ⟨_, _, rfl, h, .ints _⟩
  · cases e
    cases r with | w r => cases r with | lst h r => exact ⟨_, _, rfl, .of (hN.eq h rfl), .ofW hN r⟩
  · cases e
    cases r with | w r => cases r with | scr h => exact ⟨_, _, rfl, hN.sqL h, .ints _⟩
  · cases e
theorem walkD_rangeC (lo : Int) (n : Nat) (c : Int) : Walk (Itc lo c n) (rangeT lo n c).length (fun H => Sub F.f H) (YD K F (rangeT lo n c)) := by
  have e : (rangeT lo n c).length = n := by unfold rangeT; simp
  rw [e]
  refine (walk_rangeC (lo := lo) (c := c) (n := n)).mono (fun H s => trivial) ?_
  rintro i H x H' hi _ ⟨rfl, rfl⟩
  exact ⟨.v (.int (lo + i * c)), by unfold rangeT; simp [hi], .inl ⟨rfl, .v (.int _)⟩⟩
theorem walkD_range (lo : Int) (n : Nat) : Walk (Itr lo n) (rangeT lo n 1).length (fun H => Sub F.f H) (YD K F (rangeT lo n 1)) := by
  have e : (rangeT lo n 1).length = n := by unfold rangeT; simp
  rw [e]
  refine (walk_range (lo := lo) (n := n)).mono (fun H s => trivial) ?_
  rintro i H x H' hi _ ⟨rfl, rfl⟩
  exact ⟨.v (.int (lo + i)), by unfold rangeT; simp [hi], .inl ⟨rfl, .v (.int _)⟩⟩
theorem walkD_enum {a : Addr} {xs : List V} {ts : List T} (h : SqL K F.f a xs) (r : RpFs K F xs ts) : Walk (Ite K a) (ts.zipIdx.map fun p => T.tp [.v (.int p.2), p.1]).length (fun H => Sub F.f H) (YD K F (ts.zipIdx.map fun p => T.tp [.v (.int p.2), p.1])) := by
  have e : (ts.zipIdx.map fun p => T.tp [.v (.int p.2), p.1]).length = xs.length := by simp [r.length]
  rw [e]
  refine (walk_enum (K := K) (a := a) (xs := xs)).mono (fun H s => s.sqL h) ?_
  rintro i H v H' hi _ ⟨A, x, y, rfl, h2, h3, h4, h5⟩
  cases h4
  obtain ⟨d, h6, h7⟩ := r.getV i h5
  refine ⟨.tp [.v (.int i), d], ?_, .inr (.inl ⟨A, .v (.int i), d, .int i, y, rfl, rfl, h2, h3, .v (.int _), h7⟩)⟩
  rw [List.getElem?_map, List.getElem?_zipIdx, h6]
  simp
theorem walkD_zip {a b : Addr} {xs ys : List V} {ts us : List T} (h : SqL K F.f a xs) (h' : SqL K F.f b ys) (r : RpFs K F xs ts) (r' : RpFs K F ys us) : Walk (Itz K a b) ((ts.zip us).map fun p => T.tp [p.1, p.2]).length (fun H => Sub F.f H) (YD K F ((ts.zip us).map fun p => T.tp [p.1, p.2])) := by
  have e : ((ts.zip us).map fun p => T.tp [p.1, p.2]).length = min xs.length ys.length := by simp [r.length, r'.length]
  rw [e]
  refine (walk_zip (K := K) (a := a) (b := b) (xs := xs) (ys := ys) rfl).mono (fun H s => ⟨s.sqL h, s.sqL h'⟩) ?_
  rintro i H v H' hi _ ⟨A, x, y, rfl, h2, h3, h4, h5⟩
  obtain ⟨d, h6, h7⟩ := r.getV i h4
  obtain ⟨e', h8, h9⟩ := r'.getV i h5
  refine ⟨.tp [d, e'], ?_, .inr (.inl ⟨A, d, e', x, y, rfl, rfl, h2, h3, h7, h9⟩)⟩
  rw [List.getElem?_map, List.getElem?_zip_eq_some (z := (d, e')) |>.mpr ⟨h6, h8⟩]
  rfl
theorem walkD_rev {a : Addr} {xs : List V} {ts : List T} (h : SqL K F.f a xs) (r : RpFs K F xs ts) : Walk (Itv K a xs.length) ts.reverse.length (fun H => Sub F.f H) (YD K F ts.reverse) := by
  have e : ts.reverse.length = xs.length := by simp [r.length]
  rw [e]
  refine (walk_rev (K := K) (a := a) (xs := xs)).mono (fun H s => s.sqL h) ?_
  rintro i H x H' hi _ ⟨rfl, hx⟩
  obtain ⟨d, h1, h2⟩ := r.getV _ hx
  refine ⟨d, ?_, .inl ⟨rfl, h2⟩⟩
  rw [List.getElem?_reverse (by rw [← r.length]; exact hi), ← r.length]
  exact h1
theorem keyD1_ok {K : W.Frag} {F : Hp} {k : Key} (h : keyOk k = true) : RpD K F (kV k) (keyD1 k) := by
  cases k with
  | inl i => exact .int i
  | inr x => exact .str x h
theorem keyD1s_ok {K : W.Frag} {F : Hp} : ∀ {k : List Key}, k.all keyOk = true → RpDs K F (k.map kV) (k.map keyD1)
  | [], _ => .nil
  | k :: ks, h => by
    rw [List.all_cons, Bool.and_eq_true] at h
    exact .cons (keyD1_ok h.1) (keyD1s_ok h.2)
theorem keyD1s_imm : ∀ (k : List Key), D.imms (k.map keyD1) = true
  | [] => rfl
  | k :: ks => by
    simp only [List.map_cons, D.imms, Bool.and_eq_true]
    exact ⟨by cases k <;> rfl, keyD1s_imm ks⟩
theorem walkD_keys {d : Addr} {o : Obj} {kvs : List (Key × V)} (h : F.f d = some (.frz o (.dK kvs))) (ok : (kvs.all fun p => keyOk p.1) = true) : Walk (Itk d o kvs) ((kvs.map fun p => keyD1 p.1).map T.v).length (fun H => Sub F.f H) (YD K F ((kvs.map fun p => keyD1 p.1).map T.v)) := by
  have e : ((kvs.map fun p => keyD1 p.1).map T.v).length = kvs.length := by simp
  rw [e]
  refine (walk_keys (d := d) (o := o) (kvs := kvs)).mono (fun H s => s.eq h rfl) ?_
  rintro i H x H' hi _ ⟨rfl, k, v, hk, rfl⟩
  refine ⟨.v (keyD1 k), by simp [hk], .inl ⟨rfl, .v (keyD1_ok ?_)⟩⟩
  exact List.all_eq_true.mp ok (k, v) (List.mem_of_getElem? hk)
theorem walkD_keysT {d : Addr} {o : Obj} {kvs : List (List Key × V)} (h : F.f d = some (.frz o (.dT kvs))) (ok : (kvs.all fun p => p.1.all keyOk) = true) : Walk (Itkt d o kvs) ((kvs.map fun p => D.tup (p.1.map keyD1)).map T.v).length (fun H => Sub F.f H) (YD K F ((kvs.map fun p => D.tup (p.1.map keyD1)).map T.v)) := by
  have e : ((kvs.map fun p => D.tup (p.1.map keyD1)).map T.v).length = kvs.length := by simp
  rw [e]
  refine (walk_keysT (d := d) (o := o) (kvs := kvs)).mono (fun H s => s.eq h rfl) ?_
  rintro i H x H' hi _ ⟨rfl, k, v, q, hk, rfl, hq⟩
  refine ⟨.v (.tup (k.map keyD1)), by simp [hk], .inr (.inr ⟨rfl, _, rfl, keyD1s_imm k, .tup hq (keyD1s_ok ?_)⟩)⟩
  exact List.all_eq_true.mp ok (k, v) (List.mem_of_getElem? hk)
theorem walkD_values {d : Addr} {o : Obj} {kvs : List (Key × V)} {ts : List T} (h : F.f d = some (.frz o (.dK kvs))) (r : RpFs K F (kvs.map Prod.snd) ts) : Walk (Itd d o kvs) ts.length (fun H => Sub F.f H) (YD K F ts) := by
  have e : ts.length = kvs.length := by rw [← r.length, List.length_map]
  rw [e]
  refine (walk_values (d := d) (o := o) (kvs := kvs)).mono (fun H s => s.eq h rfl) ?_
  rintro i H x H' hi _ ⟨rfl, k, hk⟩
  obtain ⟨t, h1, h2⟩ := r.getV i (x := x) (by simp [hk])
  exact ⟨t, h1, .inl ⟨rfl, h2⟩⟩
theorem walkD_items {d : Addr} {o : Obj} {kvs : List (Key × V)} {ts : List T} (h : F.f d = some (.frz o (.dK kvs))) (ok : (kvs.all fun p => keyOk p.1) = true) (r : RpFs K F (kvs.map Prod.snd) ts) :
    Walk (Iti d o kvs) (((kvs.map fun p => keyD1 p.1).zip ts).map fun p => T.tp [.v p.1, p.2]).length (fun H => Sub F.f H) (YD K F (((kvs.map fun p => keyD1 p.1).zip ts).map fun p => T.tp [.v p.1, p.2])) := by
  have e0 : ts.length = kvs.length := by rw [← r.length, List.length_map]
  have e : (((kvs.map fun p => keyD1 p.1).zip ts).map fun p => T.tp [.v p.1, p.2]).length = kvs.length := by simp [e0]
  rw [e]
  refine (walk_items (d := d) (o := o) (kvs := kvs)).mono (fun H s => s.eq h rfl) ?_
  rintro i H v H' hi _ ⟨A, x, y, rfl, h2, h3, h4, h5⟩
  obtain ⟨⟨k, w⟩, hk⟩ : ∃ p, kvs[i]? = some p := ⟨kvs[i], List.getElem?_eq_getElem hi⟩
  simp only [hk, Option.map_some] at h4 h5
  cases h4; cases h5
  obtain ⟨t, h6, h7⟩ := r.getV i (x := y) (by simp [hk])
  refine ⟨.tp [.v (keyD1 k), t], ?_, .inr (.inl ⟨A, .v (keyD1 k), t, kV k, y, rfl, rfl, h2, h3, .v (keyD1_ok ?_), h7⟩)⟩
  · rw [List.getElem?_map, List.getElem?_zip_eq_some (z := (keyD1 k, t)) |>.mpr ⟨by simp [hk], h6⟩]
    rfl
  · exact List.all_eq_true.mp ok (k, y) (List.mem_of_getElem? hk)
end
theorem isDic_mut {u : HO} (h : isDic u = true) : Mut (some u) := by
  cases u <;> first | (cases h; done) | trivial
/-- a dict told, then locked for good -/
def tLk (td : TE) : TE := fun σ H Q => td σ H fun x H1 => ∃ d u, x = V.ref d ∧ isDic u = true ∧ ((∃ o, H1 d = some (.frz o u) ∧ Q x H1) ∨ (H1 d = some u ∧ ∀ od, Q x (upd H1 d (.frz od u))))
theorem pe_lk {X : Cx} {e : Expr} {td : TE} (h : PE X e td) : PE X e (tLk td) := by
  refine ⟨fun pins s σ H Q I hw => ?_⟩
  refine thn (h.run pins s σ H _ I hw) fun v s1 ⟨x, H1, I1, r, d, u, ex, du, q⟩ => ?_
  rcases q with ⟨o, _, q⟩ | ⟨hd, q⟩
  · exact ⟨x, H1, I1, r, q⟩
  · obtain ⟨od, I2⟩ := I1.lock hd (isDic_mut du)
    exact ⟨x, _, I2, r, q od⟩
theorem dlk {K : W.Frag} {B : Base} {F : FF} {H : Hp} {σ : L2.St} {Γ : Env} {tmp fa : List Addr} {x : V} {ta : T} {t : Bool} {ks : List D} {ts : List T} {Qi : V → Hp → Prop} (e : ta.fz.bind dicQ = some (t, ks, ts)) (rel : Rel K B F H σ Γ (fa ++ tmp)) (ra : RpT K F H x ta fa)
    (q : ∀ d u o xs F' H', x = .ref d → DH t u ks xs → SubF F F' → Sub H H' → F'.f d = some (.frz o u) → H' d = some (.frz o u) → Rel K B F' H' σ Γ tmp → RpFs K F' xs ts → Qi x H') :
    ∃ d u, x = V.ref d ∧ isDic u = true ∧ ((∃ o, H d = some (.frz o u) ∧ Qi x H) ∨ (H d = some u ∧ ∀ od, Qi x (upd H d (.frz od u)))) := by
  cases e1 : ta.fz with
  | none => rw [e1] at e; cases e
  | some v =>
    rw [e1, Option.bind_some] at e
    have rd := (fz_ok e1 rel ra).1
    have rel2 := rel.freezeTmp (f1 := fa) (g := tmp) fun c => by simp only [List.count_append]; omega
    have sF := addF_sub (f := fa) rel.sub rel.nsub
    have nb := (fz_ok e1 rel ra).2
    obtain ⟨d, u, xs, rfl, hu, dh, rs⟩ : ∃ d u xs, x = .ref d ∧ Rd (F.addF H fa).f d u ∧ DH t u ks xs ∧ RpFs K (F.addF H fa) xs ts := by
      unfold dicQ at e
      split at e
      · cases e
        cases rd with | v rd => cases rd with | dct h q r => exact ⟨_, _, _, rfl, h, q, .ofV r⟩
      · cases e
        cases rd with | w rd => cases rd with | dct h q r => exact ⟨_, _, _, rfl, rel2.nsub.rd h, q, .ofW rel2.nsub r⟩
      · cases nb
      · have := fz_fp e1 rd
        cases rd
      · cases e
    have lk : ∀ o, (H d = some (.frz o u) ∨ H d = some u) → Qi (.ref d) (upd H d (.frz o u)) := fun o ho => by
      obtain ⟨F', s1, s2, s3, s4⟩ := rel2.lock dh.dic hu o ho
      exact q d u o xs F' _ rfl dh (sF.trans s1) s4 s2 upd_same s3 (rs.mono s1)
    refine ⟨d, u, rfl, dh.dic, ?_⟩
    rcases rel2.sub.rd hu with h | ⟨o, h⟩
    · exact .inr ⟨h, fun od => lk od (.inr h)⟩
    · refine .inl ⟨o, h, ?_⟩
      have := lk o (.inl h)
      have e : upd H d (.frz o u) = H := funext fun a => by
        by_cases z : a = d
        · subst z; rw [upd_same, h]
        · rw [upd_ne z]
      rw [e] at this
      exact this
section
variable {G : Glob}
theorem Post.walk {K : W.Frag} {W : WX} {B : Base} {F F' : FF} {H H' : Hp} {σ : L2.St} {Γ : Env} {tmp : List Addr} {ts : List T} {R : It → Hp → Prop} {J : It} (P : Post K G W B F H σ tmp (rI' K) (.ok ts Γ) R) (rel : Rel K B F' H' σ Γ tmp) (w : Walk J ts.length (fun H => Sub F'.f H) (YD K F' ts)) (hH : Sub H H') (hF : SubF F F') : R J H' :=
  P J F' H' [] (by simpa using rel) ⟨rfl, w⟩ hH hF
theorem oki_seq {m : E} (hm : Ok G m) : OkI G (.seq m) := by
  intro X W b tg e g c
  simp only [chkI, Bool.and_eq_true] at c
  refine ⟨PI.imp (pi_seq (hm.pe X W b e g c.1)) fun σ H R h => ?_, c.2⟩
  refine one (β := It) (rep := rI' X.K) (r := fun x H1 R => (∃ a, x = V.ref a ∧ (∃ xs, SqL X.K H1 a xs) ∧ R (Itl X.K a) H1) ∨ (∃ a, x = V.ref a ∧ (∃ xs, SqT X.K H1 a xs) ∧ R (Itt X.K a) H1) ∨ (∃ z, x = V.str z ∧ R (Its z) H1)) (fun B F H σ Γ tmp fa x ta Q rel ra P => ?_) σ H R h
  cases e1 : ta.fz with
  | none => simp only [e1, Option.bind_none] at P; exact P.elim
  | some u =>
    cases e2 : itemsT u with
    | none => simp only [e1, Option.bind_some, e2] at P; exact P.elim
    | some ts =>
      simp only [e1, Option.bind_some, e2] at P
      have rd := (fz_ok e1 rel ra).1
      have rel2 := rel.freezeTmp (f1 := fa) (g := tmp) fun c => by simp only [List.count_append]; omega
      have sF := addF_sub (f := fa) rel.sub rel.nsub
      have P' : Post X.K G W B F H σ tmp (rI' X.K) (.ok ts Γ) Q := P
      unfold itemsT at e2
      split at e2
      · cases e2
        cases rd with | v rd => cases rd with | lst h r => exact .inl ⟨_, rfl, ⟨_, .of (rel2.sub.eq h rfl)⟩, P'.walk rel2 (walkD_list (.of h) (.ofV r)) Sub.refl sF⟩
      · cases e2
        cases rd with | v rd => cases rd with | tup h r => exact .inr (.inl ⟨_, rfl, ⟨_, .of (rel2.sub.eq h rfl)⟩, P'.walk rel2 (walkD_tup (.of h) (.ofV r)) Sub.refl sF⟩)
      · cases e2
        cases rd with | v rd => cases rd with | scr h => exact .inl ⟨_, rfl, ⟨_, rel2.sub.sqL h⟩, P'.walk rel2 (walkD_list h (.ints _)) Sub.refl sF⟩
      · cases e2
        cases rd with | v rd => cases rd with | str z h => exact .inr (.inr ⟨z, rfl, P'.walk rel2 (walkD_str h) Sub.refl sF⟩)
      · cases e2
        cases rd with | w rd => cases rd with | lst h r => exact .inl ⟨_, rfl, ⟨_, .of ((rel2.nsub.trans rel2.sub).eq h rfl)⟩, P'.walk rel2 (walkD_list (.of (rel2.nsub.eq h rfl)) (.ofW rel2.nsub r)) Sub.refl sF⟩
      · cases e2
        cases rd with | w rd => cases rd with | tup h r => exact .inr (.inl ⟨_, rfl, ⟨_, .of ((rel2.nsub.trans rel2.sub).eq h rfl)⟩, P'.walk rel2 (walkD_tup (.of (rel2.nsub.eq h rfl)) (.ofW rel2.nsub r)) Sub.refl sF⟩)
      · cases e2
        cases rd with | w rd => cases rd with | scr h => exact .inl ⟨_, rfl, ⟨_, (rel2.nsub.trans rel2.sub).sqL h⟩, P'.walk rel2 (walkD_list (rel2.nsub.sqL h) (.ints _)) Sub.refl sF⟩
      · cases e2
/-- one argument's list, by a rule over argument lists -/
theorem arg1 {X : Cx} {W : WX} {b : CP} {m : E} {e : Expr} (hm : Ok G m) (g : Gd X G W b) (c : chkE X.N X.env.scope b m e = true) : PA X [e] (tCons (TE' X.K G W m) tNil) := pa_cons (hm.pe X W b e g c) pa_nil (star_of (chk_notStar c))
theorem small62_of {i : Int} (h : small62 i = true) : -(2 ^ 62) ≤ i ∧ i < 2 ^ 62 := of_decide_eq_true h
theorem oki_rng1 {m : E} (hm : Ok G m) : OkI G (.rng1 m) := by
  intro X W b tg e g c
  unfold chkI at c
  split at c
  · simp only [Bool.and_eq_true] at c
    obtain ⟨p, rfl, hg⟩ := isGl_of c.1.1
    refine ⟨PI.imp (pi_range1 hg (g.blt "range" (by decide)) (arg1 hm g c.1.2) (star_of c.2)) fun σ H R h => ?_, rfl⟩
    refine one (β := It) (rep := rI' X.K) (r := fun x H1 R => ∃ j : Int, [x] = [V.int j] ∧ -(2 ^ 62) ≤ j ∧ j < 2 ^ 62 ∧ R (Itr 0 j.toNat) H1) (fun B F H σ Γ tmp fa x ta Q rel ra P => ?_) σ H R h
    split at P
    · obtain ⟨rfl, rfl⟩ := int_inv ra
      split at P
      · rename_i hs
        rw [Bool.and_eq_true] at hs
        obtain ⟨h1, h2⟩ := small62_of hs.1
        exact ⟨_, rfl, h1, h2, P.walk (by simpa using rel) (walkD_range 0 _) Sub.refl SubF.refl⟩
      · exact P.elim
    · exact P.elim
  · cases c
theorem oki_rng2 {m n : E} (hm : Ok G m) (hn : Ok G n) : OkI G (.rng2 m n) := by
  intro X W b tg e g c
  unfold chkI at c
  split at c
  · simp only [Bool.and_eq_true] at c
    obtain ⟨⟨⟨⟨c1, c2⟩, c3⟩, c4⟩, c5⟩ := c
    obtain ⟨p, rfl, hg⟩ := isGl_of c1
    refine ⟨PI.imp (pi_range2 hg (g.blt "range" (by decide)) (pa_cons (hm.pe X W b _ g c2) (arg1 hn g c3) (star_of c4)) ((star_of c4).trans (by rw [star_of c5]; rfl)) (star_of c5)) ?_, rfl⟩
    rintro σ H R ⟨B, F, Γ, tmp, rel, P⟩
    refine ⟨B, F, Γ, tmp, rel, (P.bind (rep := rT X.K) (fp := [])).imp ?_⟩
    rintro x H1 ⟨ta, Γ1, F1, fa, rel1, ra, sH1, sF1, P1⟩
    refine ⟨B, F1, Γ1, fa ++ tmp, rel1, (P1.bind (rep := rT X.K) (fp := fa)).imp ?_⟩
    rintro y H2 ⟨tb, Γ2, F2, fb, rel2, rb, sH2, sF2, P2⟩
    split at P2
    · have ra := ra.grow sF2 sH2
      obtain ⟨rfl, rfl⟩ := int_inv ra
      obtain ⟨rfl, rfl⟩ := int_inv rb
      split at P2
      · rename_i hs
        simp only [Bool.and_eq_true] at hs
        obtain ⟨h1, h2⟩ := small62_of hs.1.1
        obtain ⟨h3, h4⟩ := small62_of hs.1.2
        exact ⟨_, _, rfl, ⟨h1, h2, h3, h4⟩, P2.walk (by simpa using rel2) (walkD_range _ _) Sub.refl SubF.refl⟩
      · exact P2.elim
    · exact P2.elim
  · cases c
theorem rgN_ok (a b c : Int) : Builtin.Range.rangeSize a b c = (rgN a b c : Int) := rangeSize_toNat a b c
theorem oki_rng3 {m n k : E} (hm : Ok G m) (hn : Ok G n) (hk : Ok G k) : OkI G (.rng3 m n k) := by
  intro X W b tg e g c
  unfold chkI at c
  split at c
  · simp only [Bool.and_eq_true] at c
    obtain ⟨⟨⟨⟨⟨⟨c1, c2⟩, c3⟩, c4⟩, c5⟩, c6⟩, c7⟩ := c
    obtain ⟨p, rfl, hg⟩ := isGl_of c1
    refine ⟨PI.imp (pi_range3 hg (g.blt "range" (by decide)) (pa_cons (hm.pe X W b _ g c2) (pa_cons (hn.pe X W b _ g c3) (arg1 hk g c4) (star_of c6)) (star_of c5)) (star_of c5) (by rw [star_of c6, star_of c7]; rfl)) ?_, rfl⟩
    rintro σ H R ⟨B, F, Γ, tmp, rel, P⟩
    refine ⟨B, F, Γ, tmp, rel, (P.bind (rep := rT X.K) (fp := [])).imp ?_⟩
    rintro x H1 ⟨ta, Γ1, F1, fa, rel1, ra, sH1, sF1, P1⟩
    refine ⟨B, F1, Γ1, fa ++ tmp, rel1, (P1.bind (rep := rT X.K) (fp := fa)).imp ?_⟩
    rintro y H2 ⟨tb, Γ2, F2, fb, rel2, rb, sH2, sF2, P2⟩
    rw [← List.append_assoc] at rel2
    refine ⟨B, F2, Γ2, (fb ++ fa) ++ tmp, rel2, (P2.bind (rep := rT X.K) (fp := fb ++ fa)).imp ?_⟩
    rintro z H3 ⟨tc, Γ3, F3, fc, rel3, rc, sH3, sF3, P3⟩
    split at P3
    · have ra := (ra.grow sF2 sH2).grow sF3 sH3
      have rb := rb.grow sF3 sH3
      obtain ⟨rfl, rfl⟩ := int_inv ra
      obtain ⟨rfl, rfl⟩ := int_inv rb
      obtain ⟨rfl, rfl⟩ := int_inv rc
      split at P3
      · rename_i hs
        simp only [Bool.and_eq_true, decide_eq_true_eq] at hs
        obtain ⟨⟨h1, h2, h3, h4⟩, h5⟩ := hs
        exact ⟨_, _, _, _, rfl, ⟨h2, by omega, h1, rgN_ok _ _ _⟩, P3.walk (by simpa using rel3) (walkD_rangeC _ _ _) Sub.refl SubF.refl⟩
      · exact P3.elim
    · exact P3.elim
  · cases c
theorem tuple_of {t : Expr} (h : isTuple t = true) : ∃ es k pos, t = .Tuple es k pos := by
  cases t with
  | Tuple es k pos => exact ⟨_, _, _, rfl⟩
  | _ => cases h
theorem fzl_ok {K : W.Frag} {B : Base} {F : FF} {H : Hp} {σ : L2.St} {Γ : Env} {tmp : List Addr} {x : V} {t : T} {f : List Addr} {ts : List T} (e : t.fz.bind listT = some ts) (rel : Rel K B F H σ Γ tmp) (r : RpT K F H x t f) : ∃ a xs, x = .ref a ∧ SqL K (F.addF H f).f a xs ∧ RpFs K (F.addF H f) xs ts := by
  cases e1 : t.fz with
  | none => rw [e1] at e; cases e
  | some d =>
    rw [e1] at e
    refine listT_ok (Sub.of fun a o q => ?_) e (fz_ok e1 rel r).1
    have q : addH F.n H f a = some o := q
    show addH F.f H f a = some o
    unfold addH at q ⊢
    split at q
    · rename_i m; rw [if_pos m]; exact q
    · rename_i m; rw [if_neg m]; exact rel.subn a o q
theorem oki_enum {m : E} (hm : Ok G m) : OkI G (.enum m) := by
  intro X W b tg e g c
  unfold chkI at c
  split at c
  · simp only [Bool.and_eq_true] at c
    obtain ⟨⟨⟨c1, c2⟩, c3⟩, c4⟩ := c
    obtain ⟨p, rfl, hg⟩ := isGl_of c1
    obtain ⟨es, k, pos, rfl⟩ := tuple_of c4
    refine ⟨PI.imp (pi_enum hg (g.blt "enumerate" (by decide)) (arg1 hm g c2) (star_of c3)) fun σ H R h => ?_, rfl⟩
    refine one (β := It) (rep := rI' X.K) (r := fun x H1 R => ∃ a xs, [x] = [V.ref a] ∧ SqL X.K H1 a xs ∧ R (Ite X.K a) H1) (fun B F H σ Γ tmp fa x ta Q rel ra P => ?_) σ H R h
    split at P
    · rename_i ds e1
      obtain ⟨a, xs, rfl, h1, h2⟩ := fzl_ok e1 rel ra
      have rel2 := rel.freezeTmp (f1 := fa) (g := tmp) fun c => by simp only [List.count_append]; omega
      exact ⟨a, xs, rfl, rel2.sub.sqL h1, P.walk rel2 (walkD_enum h1 h2) Sub.refl (addF_sub rel.sub rel.nsub)⟩
    · exact P.elim
  · cases c
theorem oki_rvd {m : E} (hm : Ok G m) : OkI G (.rvd m) := by
  intro X W b tg e g c
  unfold chkI at c
  split at c
  · simp only [Bool.and_eq_true] at c
    obtain ⟨⟨c1, c2⟩, c3⟩ := c
    obtain ⟨p, rfl, hg⟩ := isGl_of c1
    refine ⟨PI.imp (pi_reversed hg (g.blt "reversed" (by decide)) (arg1 hm g c2) (star_of c3)) fun σ H R h => ?_, rfl⟩
    refine one (β := It) (rep := rI' X.K) (r := fun x H1 R => ∃ a xs, [x] = [V.ref a] ∧ SqL X.K H1 a xs ∧ R (Itv X.K a xs.length) H1) (fun B F H σ Γ tmp fa x ta Q rel ra P => ?_) σ H R h
    split at P
    · rename_i ds e1
      obtain ⟨a, xs, rfl, h1, h2⟩ := fzl_ok e1 rel ra
      have rel2 := rel.freezeTmp (f1 := fa) (g := tmp) fun c => by simp only [List.count_append]; omega
      exact ⟨a, xs, rfl, rel2.sub.sqL h1, P.walk rel2 (walkD_rev h1 h2) Sub.refl (addF_sub rel.sub rel.nsub)⟩
    · exact P.elim
  · cases c
theorem oki_zip {m n : E} (hm : Ok G m) (hn : Ok G n) : OkI G (.zip m n) := by
  intro X W b tg e g c
  unfold chkI at c
  split at c
  · simp only [Bool.and_eq_true] at c
    obtain ⟨⟨⟨⟨⟨c1, c2⟩, c3⟩, c4⟩, c5⟩, c6⟩ := c
    obtain ⟨p, rfl, hg⟩ := isGl_of c1
    obtain ⟨es, k, pos, rfl⟩ := tuple_of c6
    refine ⟨PI.imp (pi_zip hg (g.blt "zip" (by decide)) (pa_cons (hm.pe X W b _ g c2) (arg1 hn g c3) (star_of c4)) (star_of c4) (by rw [star_of c5]; rfl)) ?_, rfl⟩
    rintro σ H R ⟨B, F, Γ, tmp, rel, P⟩
    refine ⟨B, F, Γ, tmp, rel, (P.bind (rep := rT X.K) (fp := [])).imp ?_⟩
    rintro x H1 ⟨ta, Γ1, F1, fa, rel1, ra, sH1, sF1, P1⟩
    refine ⟨B, F1, Γ1, fa ++ tmp, rel1, (P1.bind (rep := rT X.K) (fp := fa)).imp ?_⟩
    rintro y H2 ⟨tb, Γ2, F2, fb, rel2, rb, sH2, sF2, P2⟩
    split at P2
    · rename_i ds es' e1 e2
      obtain ⟨a, xs, rfl, h1, h2⟩ := fzl_ok e1 rel2 (ra.grow sF2 sH2)
      obtain ⟨a', ys, rfl, h3, h4⟩ := fzl_ok e2 rel2 rb
      have rel3 := rel2.freezeTmp (f1 := fb ++ fa) (g := tmp) fun c => by simp only [List.count_append]; omega
      have s1 : SubF (F2.addF H2 fa) (F2.addF H2 (fb ++ fa)) := addF_more rel2.sub rel2.nsub fun a ha => by simp [ha]
      have s2 : SubF (F2.addF H2 fb) (F2.addF H2 (fb ++ fa)) := addF_more rel2.sub rel2.nsub fun a ha => by simp [ha]
      exact ⟨a, a', xs, ys, rfl, (s1.f.trans rel3.sub).sqL h1, (s2.f.trans rel3.sub).sqL h3, P2.walk rel3 (walkD_zip (s1.f.sqL h1) (s2.f.sqL h3) (h2.mono s1) (h4.mono s2)) Sub.refl (addF_sub rel2.sub rel2.nsub)⟩
    · exact P2.elim
  · cases c
theorem oki_keys {m : E} (hm : Ok G m) : OkI G (.keys m) := by
  intro X W b tg e g c
  simp only [chkI, Bool.and_eq_true] at c
  refine ⟨PI.imp (pi_keys (pe_lk (hm.pe X W b e g c.1))) fun σ H R h => ?_, c.2⟩
  refine one (β := It) (rep := rI' X.K) (r := fun x H1 R => ∃ d u, x = V.ref d ∧ isDic u = true ∧ ((∃ o, H1 d = some (.frz o u) ∧ (∃ d o, x = V.ref d ∧ ((∃ kvs, H1 d = some (.frz o (.dK kvs)) ∧ R (Itk d o kvs) H1) ∨ ∃ kvs, H1 d = some (.frz o (.dT kvs)) ∧ R (Itkt d o kvs) H1))) ∨ (H1 d = some u ∧ ∀ od, (∃ d' o, x = V.ref d' ∧ ((∃ kvs, upd H1 d (.frz od u) d' = some (.frz o (.dK kvs)) ∧ R (Itk d' o kvs) (upd H1 d (.frz od u))) ∨ ∃ kvs, upd H1 d (.frz od u) d' = some (.frz o (.dT kvs)) ∧ R (Itkt d' o kvs) (upd H1 d (.frz od u))))))) (fun B F H σ Γ tmp fa x ta Q rel ra P => ?_) σ H R h
  split at P
  · rename_i t ks ts e1
    refine dlk (Qi := fun x H1 => ∃ d o, x = V.ref d ∧ ((∃ kvs, H1 d = some (.frz o (.dK kvs)) ∧ Q (Itk d o kvs) H1) ∨ ∃ kvs, H1 d = some (.frz o (.dT kvs)) ∧ Q (Itkt d o kvs) H1)) e1 rel ra fun d u o xs F' H' ex dh sF sH hF hH r' rs => ?_
    cases dh with
    | k kvs ok nd => exact ⟨d, o, ex, .inl ⟨kvs, hH, P.walk r' (walkD_keys hF ok) sH sF⟩⟩
    | t kvs ok nd => exact ⟨d, o, ex, .inr ⟨kvs, hH, P.walk r' (walkD_keysT hF ok) sH sF⟩⟩
  · exact P.elim
/-- an outcome that says nothing of a dict with tuple keys -/
theorem oki_d3 {m : E} {X : Cx} {W : WX} {I : Addr → Obj → List (Key × V) → It} {f : List D → List T → List T}
    (w : ∀ {F : FF} {d o kvs ts}, F.f d = some (.frz o (.dK kvs)) → (kvs.all fun p : Key × V => keyOk p.1) = true → RpFs X.K F (kvs.map Prod.snd) ts → Walk (I d o kvs) (f (kvs.map fun p => keyD1 p.1) ts).length (fun H => Sub F.f H) (YD X.K F (f (kvs.map fun p => keyD1 p.1) ts))) :
    ∀ σ H R, TM X.K G W (rI' X.K) (fun Γ => (evE G.cl G.con m Γ).bind fun t Γ1 => match t.fz.bind dicQ with
    | some (false, ks, ts) => .ok (f ks ts) Γ1
    | _ => .bad) σ H R → tLk (TE' X.K G W m) σ H fun x H1 => ∃ d o kvs, x = V.ref d ∧ H1 d = some (.frz o (.dK kvs)) ∧ R (I d o kvs) H1 := by
  intro σ H R h
  refine one (β := It) (rep := rI' X.K) (r := fun x H1 R => ∃ d u, x = V.ref d ∧ isDic u = true ∧ ((∃ o, H1 d = some (.frz o u) ∧ (∃ d o kvs, x = V.ref d ∧ H1 d = some (.frz o (.dK kvs)) ∧ R (I d o kvs) H1)) ∨ (H1 d = some u ∧ ∀ od, (∃ d' o kvs, x = V.ref d' ∧ upd H1 d (.frz od u) d' = some (.frz o (.dK kvs)) ∧ R (I d' o kvs) (upd H1 d (.frz od u)))))) (fun B F H σ Γ tmp fa x ta Q rel ra P => ?_) σ H R h
  split at P
  · rename_i ks ts e1
    refine dlk (Qi := fun x H1 => ∃ d o kvs, x = V.ref d ∧ H1 d = some (.frz o (.dK kvs)) ∧ Q (I d o kvs) H1) e1 rel ra fun d u o xs F' H' ex dh sF sH hF hH r' rs => ?_
    cases dh with
    | k kvs ok nd => exact ⟨d, o, kvs, ex, hH, P.walk r' (w hF ok rs) sH sF⟩
  · exact P.elim
theorem oki_keysM {m : E} (hm : Ok G m) : OkI G (.keysM m) := by
  intro X W b tg e g c
  unfold chkI at c
  split at c
  · simp only [Bool.and_eq_true, decide_eq_true_eq] at c
    obtain ⟨⟨c1, c2⟩, c3⟩ := c
    subst c1
    refine ⟨PI.imp (pi_keysM (pe_lk (hm.pe X W b _ g c3)) (attr_of c3 _ _) (by rw [c2]; exact beq_self_eq_true _)) fun σ H R h => ?_, rfl⟩
    exact oki_d3 (m := m) (I := Itk) (f := fun ks ts => ks.map T.v) (fun h ok r => walkD_keys h ok) σ H R h
  · cases c
theorem oki_dvals {m : E} (hm : Ok G m) : OkI G (.dvals m) := by
  intro X W b tg e g c
  unfold chkI at c
  split at c
  · simp only [Bool.and_eq_true, decide_eq_true_eq] at c
    obtain ⟨⟨c1, c2⟩, c3⟩ := c
    subst c1
    refine ⟨PI.imp (pi_values (pe_lk (hm.pe X W b _ g c3)) (attr_of c3 _ _) (by rw [c2]; exact beq_self_eq_true _)) fun σ H R h => ?_, rfl⟩
    exact oki_d3 (m := m) (I := Itd) (f := fun ks ts => ts) (fun h ok r => walkD_values h r) σ H R h
  · cases c
theorem oki_ditems {m : E} (hm : Ok G m) : OkI G (.ditems m) := by
  intro X W b tg e g c
  unfold chkI at c
  split at c
  · simp only [Bool.and_eq_true, decide_eq_true_eq] at c
    obtain ⟨⟨⟨c1, c2⟩, c3⟩, c4⟩ := c
    subst c1
    obtain ⟨es, k, pos, rfl⟩ := tuple_of c4
    refine ⟨PI.imp (pi_items (pe_lk (hm.pe X W b _ g c3)) (attr_of c3 _ _) (by rw [c2]; exact beq_self_eq_true _)) fun σ H R h => ?_, rfl⟩
    exact oki_d3 (m := m) (I := Iti) (f := fun ks ts => (ks.zip ts).map fun (p : D × T) => T.tp [T.v p.1, p.2]) (fun h ok r => walkD_items h ok r) σ H R h
  · cases c

/-! ### methods -/
def rM (K : W.Frag) : MF → V → List V → Hp → VK → Prop
  | .join => fun x xs H Q => ∃ a p, ∃ ys : List Str, x = .str a ∧ xs = [.ref p] ∧ (SqL K H p (ys.map V.str) ∨ SqT K H p (ys.map V.str)) ∧ (ys.map (·.length)).sum + ys.length * a.length ≤ 16777216 ∧ Q (.str (Txt.join a ys)) H
  | .find => fun x xs H Q => ∃ a b, x = .str a ∧ xs = [.str b] ∧ Q (.int (Txt.find a b)) H
  | .count => fun x xs H Q => ∃ p ys z, x = .ref p ∧ xs = [z] ∧ SqL K H p ys ∧ flatV z = true ∧ ys.all flatV = true ∧ Q (.int ((ys.filter fun y => eqV y z).length : Nat)) H
  | .index => rIndex K
def MF.ty : MF → String
  | .join => "str" | .find => "str" | .count => "list" | .index => "list"
def MF.id : MF → String
  | .join => "str.join" | .find => "str.find" | .count => "list.count" | .index => "list.index"
theorem countP_eqU {x : V} : ∀ {xs : List V} {us : List Value}, Vals xs us → xs.all flatV = true → us.countP (eqU x) = (xs.filter fun y => eqV y x).length
  | _, _, .nil, _ => rfl
  | y :: xs, u :: us, .cons r t, f => by
    rw [List.all_cons, Bool.and_eq_true] at f
    rw [List.countP_cons, List.filter_cons, eqU_of r f.1, countP_eqU t f.2]
    split <;> simp
theorem mt_cntF {X : Cx} : MtR X "list.count" (rM X.K .count) := by
  intro pins s σ H x xs v us Q I rx rxs h
  obtain ⟨p, ys, z, rfl, rfl, hs, fz, fs, q⟩ := h
  cases rx
  obtain ⟨u, rfl, ru⟩ := rxs.one
  obtain ⟨its, rv, ⟨⟨cls, dd, data, sl⟩, n, ho, hc, hdn, hd⟩, hlen⟩ := I.list hs
  simp only at hc hd
  subst hc hd
  refine call_meets PySem.F.slot_list_count ⟨_, ho, rfl⟩ PySem.F.entry_list_count (PySem.F.args_list_count_2 _ _)
    (SeqAt.list_countAt p its.toArray n dd sl u (eqU z)) ⟨ho, fun y hy => mem_eqAt ru fz rv fs y (by simpa using hy), ?_⟩
  have ec : its.toArray.toList.countP (eqU z) = (ys.filter fun y => eqV y z).length := countP_eqU rv fs
  refine ⟨.int ((ys.filter fun y => eqV y z).length : Nat), H, I.tok _, ⟨s.toks, ?_⟩, q⟩
  show Value.int ((its.toArray.toList.countP (eqU z) : Nat) : Int) s.toks = _
  rw [ec]
theorem filt_of {K : W.Frag} {F : FF} {H : Hp} (hF : Hs F H) {x : V} {d : D} (r : RpD K H x d) (h : d.flat = true) : ∀ {ys : List V} {ts : List T} {f : List Addr}, RpTs K F H ys ts f → (ts.all fun t => t.er.flat) = true →
    ys.all flatV = true ∧ (ys.filter fun y => eqV y x).length = (ts.filter fun t => eqD t.er d).length
  | _, _, _, .nil, _ => ⟨rfl, rfl⟩
  | _, _, _, .cons a b, e => by
    rw [List.all_cons, Bool.and_eq_true] at e
    have q := a.read hF.sub hF.nsub
    obtain ⟨h1, h2⟩ := filt_of hF r h b e.2
    refine ⟨by rw [List.all_cons, flatV_of q e.1, h1]; rfl, ?_⟩
    rw [List.filter_cons, List.filter_cons, eqV_of q r e.1 h]
    split
    · rw [List.length_cons, List.length_cons, h2]
    · exact h2
theorem joinL_ok {a : List Nat} (ha : okS a = true) : ∀ {ss : List (List Nat)}, (∀ s ∈ ss, okS s = true) → (TL.joinL a ss).length ≤ (ss.map List.length).sum + ss.length * a.length ∧ ∀ c ∈ TL.joinL a ss, c < 0x110000
  | [], _ => ⟨by simp [TL.joinL], fun c h => by simp [TL.joinL] at h⟩
  | [s], h => by
    have := h s (by simp)
    unfold okS at this
    simp only [Bool.and_eq_true, decide_eq_true_eq, List.all_eq_true] at this
    exact ⟨by simp [TL.joinL], fun c hc => this.2 c (by simpa [TL.joinL] using hc)⟩
  | s :: s' :: r, h => by
    obtain ⟨h1, h2⟩ := joinL_ok ha (ss := s' :: r) fun x hx => h x (List.mem_cons_of_mem _ hx)
    have hs := h s (by simp)
    unfold okS at hs ha
    simp only [Bool.and_eq_true, decide_eq_true_eq, List.all_eq_true] at hs ha
    refine ⟨?_, fun c hc => ?_⟩
    · simp only [TL.joinL, List.length_append, List.map_cons, List.sum_cons, List.length_cons, Nat.add_mul, Nat.one_mul] at h1 ⊢
      omega
    · simp only [TL.joinL, List.mem_append] at hc
      rcases hc with hc | hc | hc
      · exact hs.2 c hc
      · exact ha.2 c hc
      · exact h2 c hc
theorem methT_ok {K : W.Frag} {W : WX} {B : Base} {F : FF} {H : Hp} {σ : L2.St} {Γ : Env} {tmp fa fb : List Addr} {m : MF} {x y : V} {a b : T} {Q : VK} (rel : Rel K B F H σ Γ (fb ++ (fa ++ tmp))) (ra : RpT K F H x a fa) (rb : RpT K F H y b fb)
    (P : Post K G W B F H σ tmp (rT K) (R.op (methT m a b) Γ) Q) (ix : Post K G W B F H σ tmp (rT K) (R.op (methT .index a b) Γ) Q → rIndex K x [y] H Q) : rM K m x [y] H Q := by
  have hc : ∀ c, tmp.count c ≤ (fb ++ (fa ++ tmp)).count c := fun c => by simp only [List.count_append]; omega
  cases m with
  | join =>
    simp only [methT] at P
    split at P
    · rename_i s t
      obtain ⟨z, rfl, h1, h2, rfl⟩ := str_inv ra
      split at P
      · rename_i ss e
        split at P
        · rename_i hl
          cases e1 : asQ b with
          | none => rw [e1] at e; cases e
          | some ts =>
            rw [e1] at e
            obtain ⟨p, xs, g, rfl, hq, r1, _⟩ := asQ_ok e1 rel.hs rb
            obtain ⟨zs, rfl, h3, h4⟩ := strsT_ok e r1
            have e5 : zs.map (·.length) = ss.map List.length := by
              rw [← h3, List.map_map]
              exact List.map_congr_left fun z _ => strLen z
            have e6 : zs.length = ss.length := by rw [← h3, List.length_map]
            obtain ⟨j1, j2⟩ := joinL_ok h2 h4
            refine ⟨z, p, zs, rfl, rfl, hq, by rw [e5, e6, strLen, h1]; exact hl, Post.flatv (Γ := Γ) P rel hc (str_mk ?_ ?_)⟩
            · rw [TL.join_eq]
              show TL.tl (Str.join z zs) = _
              rw [TL.tl_join, ← h1, ← h3]
            · unfold okS
              simp only [Bool.and_eq_true, decide_eq_true_eq, List.all_eq_true]
              exact ⟨by rw [sizeLine_eq]; exact Nat.le_trans j1 hl, j2⟩
        · exact P.elim
      · exact P.elim
    · exact P.elim
  | find =>
    simp only [methT] at P
    split at P
    · obtain ⟨z, rfl, h1, h2, rfl⟩ := str_inv ra
      obtain ⟨z', rfl, h3, h4, rfl⟩ := str_inv rb
      refine ⟨z, z', rfl, rfl, ?_⟩
      have e1 : z = ⟨(z.cps.toList).toArray⟩ := by simp
      have e2 : z' = ⟨(z'.cps.toList).toArray⟩ := by simp
      have : Txt.find z z' = findS z.cps.toList z'.cps.toList := by unfold findS; rw [← e1, ← e2]
      rw [this, h1, h3]
      exact Post.flatv (Γ := Γ) P rel hc (.int _)
    · exact P.elim
  | count =>
    simp only [methT] at P
    split at P
    · rename_i ts e
      split at P
      · rename_i hf
        rw [Bool.and_eq_true] at hf
        obtain ⟨p, xs, g, rfl, hq, r1, _⟩ := lOnly_ok e rel.hs ra
        have rd := rb.read rel.sub rel.nsub
        obtain ⟨h1, h2⟩ := filt_of rel.hs rd hf.1 r1 hf.2
        exact ⟨p, xs, y, rfl, rfl, hq, flatV_of rd hf.1, h1, by rw [h2]; exact Post.flatv (Γ := Γ) P rel hc (.int _)⟩
      · exact P.elim
    · exact P.elim
  | index => exact ix P
theorem at_of {K : W.Frag} {F : FF} {H : Hp} (hF : Hs F H) {x : V} {d : D} (r : RpD K H x d) (h : d.flat = true) : ∀ {ys : List V} {ts : List T} {f : List Addr}, RpTs K F H ys ts f → (ts.all fun t => t.er.flat) = true →
    ys.all flatV = true ∧ ∀ (i : Nat) (t : T), ts[i]? = some t → ∃ z, ys[i]? = some z ∧ eqV z x = eqD t.er d
  | _, _, _, .nil, _ => ⟨rfl, fun i t e => by simp at e⟩
  | _, _, _, .cons a b, e => by
    rw [List.all_cons, Bool.and_eq_true] at e
    have q := a.read hF.sub hF.nsub
    obtain ⟨h1, h2⟩ := at_of hF r h b e.2
    refine ⟨by rw [List.all_cons, flatV_of q e.1, h1]; rfl, fun i t et => ?_⟩
    cases i with
    | zero => simp at et; subst et; exact ⟨_, rfl, eqV_of q r e.1 h⟩
    | succ i => obtain ⟨z, h3, h4⟩ := h2 i t (by simpa using et); exact ⟨z, by simpa using h3, h4⟩
theorem indexT_ok {K : W.Frag} {G : Glob} {W : WX} {B : Base} {F : FF} {H : Hp} {σ : L2.St} {Γ : Env} {tmp fa fb : List Addr} {x y : V} {a b : T} {Q : VK} (rel : Rel K B F H σ Γ (fb ++ (fa ++ tmp))) (ra : RpT K F H x a fa) (rb : RpT K F H y b fb)
    (P : Post K G W B F H σ tmp (rT K) (R.op (methT .index a b) Γ) Q) : rIndex K x [y] H Q := by
  have hc : ∀ c, tmp.count c ≤ (fb ++ (fa ++ tmp)).count c := fun c => by simp only [List.count_append]; omega
  simp only [methT] at P
  split at P
  · rename_i ts e
    split at P
    · rename_i hf
      rw [Bool.and_eq_true] at hf
      obtain ⟨p, xs, g, rfl, hq, r1, _⟩ := lOnly_ok e rel.hs ra
      have rd := rel.rd rb
      obtain ⟨h1, h2⟩ := at_of rel.hs rd hf.1 r1 hf.2
      cases ei : ts.findIdx? fun t => eqD t.er b.er with
      | none => rw [ei] at P; exact P.elim
      | some j =>
        rw [ei] at P
        obtain ⟨hj, hp, hn⟩ := List.findIdx?_eq_some_iff_getElem.mp ei
        obtain ⟨z, k1, k2⟩ := h2 j ts[j] (List.getElem?_eq_getElem hj)
        refine ⟨p, xs, y, j, z, rfl, rfl, hq, flatV_of rd hf.1, h1, k1, by rw [k2]; exact hp, fun m z' hm hz => ?_, Post.flatv (Γ := Γ) P rel hc (.int _)⟩
        obtain ⟨z2, k3, k4⟩ := h2 m ts[m] (List.getElem?_eq_getElem (by omega))
        rw [hz] at k3; cases k3
        rw [k4]
        have := hn m hm
        simpa using this
    · exact P.elim
  · exact P.elim
theorem bm_M {X : Cx} (m : MF) {o e : Expr} {to : TE} {t : TA} {apos cpos : Pos} (ho : PE X o to) (ha : PA X [e] t) (hb : attributeBase o (Str.ofString m.nm) X.env (eval o X.env) = eval o X.env) (hl : (apos.endLine == cpos.line) = true)
    (hs : starEach (e :: []) X.env = (false, eval e X.env) :: starEach [] X.env) : PE X (.Call (.Attribute o (Str.ofString m.nm) apos) [e] [] cpos) (tBM X.K m.ty (rM X.K m) to t) := by
  have hf : ((backTo cpos (starEach (e :: []) X.env)).all (fun x => !x.1) && (backToKw cpos (keywordEach [] X.env)).all (fun x => x.1.isSome)
      && decide ((e :: []).length + ([] : List Keyword).length + (if ([] : List Keyword).isEmpty then 0 else 1) < 30)) = true := by
    rw [hs]; rfl
  cases m with
  | join => exact pe_bm PySem.F.plainAttrs_str PySem.F.slot_str_join PySem.F.type_str_join mt_join ho ha hb hf hl hs rfl
  | find => exact pe_bm PySem.F.plainAttrs_str PySem.F.slot_str_find PySem.F.type_str_find mt_find ho ha hb hf hl hs rfl
  | count => exact pe_bm PySem.F.plainAttrs_list PySem.F.slot_list_count PySem.F.type_list_count mt_cntF ho ha hb hf hl hs rfl
  | index => exact pe_bm PySem.F.plainAttrs_list PySem.F.slot_list_index PySem.F.type_list_index mt_index ho ha hb hf hl hs rfl
theorem base_of {X : Cx} {o : Expr} {n : Str} (h : ∀ env w, attributeBase o n env w = w) : attributeBase o n X.env (eval o X.env) = eval o X.env := h _ _
theorem ok_meth {m : MF} {a b : E} (ha : Ok G a) (hb : Ok G b) : Ok G (.meth m a b) := by
  have sh : ∀ {N sc b'} {e : Expr}, chkE N sc b' (.meth m a b) e = true → ∃ x ap y cp, e = .Call (.Attribute x (Str.ofString m.nm) ap) [y] [] cp ∧ ap.endLine = cp.line ∧ chkE N sc b' a x = true ∧ chkE N sc b' b y = true := by
    intro N sc b' e c
    unfold chkE at c
    split at c
    · simp only [Bool.and_eq_true, decide_eq_true_eq] at c
      obtain ⟨⟨⟨c1, c2⟩, c3⟩, c4⟩ := c
      subst c1
      exact ⟨_, _, _, _, rfl, c2, c3, c4⟩
    · cases c
  have pe : ∀ X W b' e, Gd X G W b' → chkE X.N X.env.scope b' (.meth m a b) e = true → PE X e (TE' X.K G W (.meth m a b)) := by
    intro X W b' e g c
    obtain ⟨x, ap, y, cp, rfl, c1, c2, c3⟩ := sh c
    refine PE.imp (bm_M m (ha.pe X W b' x g c2) (arg1 hb g c3) (attr_of c2 _ _) (by rw [c1]; exact beq_self_eq_true _) (star_of (chk_notStar c3))) ?_
    rintro σ H Q ⟨B, F, Γ, tmp, rel, P⟩
    refine ⟨B, F, Γ, tmp, rel, (P.bind (rep := rT X.K) (fp := [])).imp ?_⟩
    rintro x H1 ⟨ta, Γ1, F1, fa, rel1, ra, sH1, sF1, P1⟩
    split at P1
    · rename_i ht
      refine ⟨?_, B, F1, Γ1, fa ++ tmp, rel1, (P1.bind (rep := rT X.K) (fp := fa)).imp ?_⟩
      · cases m with
        | join =>
          simp only [mTy] at ht
          split at ht
          · obtain ⟨z, rfl, _⟩ := str_inv ra; exact rfl
          · cases ht
        | find =>
          simp only [mTy] at ht
          split at ht
          · obtain ⟨z, rfl, _⟩ := str_inv ra; exact rfl
          · cases ht
        | count =>
          simp only [mTy] at ht
          cases e : lOnly ta with
          | none => rw [e] at ht; cases ht
          | some ts =>
            obtain ⟨p, xs, g, rfl, hq, r1, _⟩ := lOnly_ok e rel1.hs ra
            exact .inl ⟨rfl, _, hq⟩
        | index =>
          simp only [mTy] at ht
          cases e : lOnly ta with
          | none => rw [e] at ht; cases ht
          | some ts =>
            obtain ⟨p, xs, g, rfl, hq, r1, _⟩ := lOnly_ok e rel1.hs ra
            exact .inl ⟨rfl, _, hq⟩
      · rintro y H2 ⟨tb, Γ2, F2, fb, rel2, rb, sH2, sF2, P2⟩
        exact methT_ok (Γ := Γ2) rel2 (ra.grow sF2 sH2) rb P2 (fun P => indexT_ok (Γ := Γ2) rel2 (ra.grow sF2 sH2) rb P)
    · exact P1.elim
  refine ⟨pe, fun X W b' e g c => ?_, pw_no fun N sc b op vs pos => rfl⟩
  obtain ⟨x, ap, y, cp, rfl, c1, c2, c3⟩ := sh c
  exact tB_of (pe X W b' _ g c) fun _ => rfl
end
end Tv

namespace Tv
open PySem PySem.Spec PyProof.Rows L2

/-! ### targets -/
def gNames : List Nat → TGs
  | [] => gNil
  | i :: is => gCons (gName i) (gNames is)
def gTg (K : W.Frag) : Tg → TG
  | .nm i => gName i
  | .tp is => gTup K is.length (gNames is)
theorem stB_loc {sc : Scope} {b : CP} {x : Str} (h : stB sc b x = true) : Loc sc x := by
  unfold stB at h
  simp only [Bool.or_eq_true, Bool.and_eq_true, decide_eq_true_eq] at h
  rcases h with h | h
  · exact .inl h
  · exact .inr h.2
section
variable {G : Glob} {X : Cx} {W : WX} {b : CP}
theorem stB_fn (g : Gd X G W b) {x : Str} (h : stB X.env.scope b x = true) : X.fn x = true ∨ X.env.scope.names.lookup x = some .local := by
  unfold stB at h
  simp only [Bool.or_eq_true, Bool.and_eq_true, decide_eq_true_eq, Bool.not_eq_true'] at h
  rcases h with h | h
  · exact .inr h
  · exact .inl (g.st h.1 x)
theorem pg_st (g : Gd X G W b) {i : Nat} {e : Expr} (h : chkSt X.N X.env.scope b i e = true) : ∃ x pos, e = .Name x pos ∧ PG X e (gName i) := by
  unfold chkSt at h
  split at h
  · simp only [Bool.and_eq_true, decide_eq_true_eq] at h
    exact ⟨_, _, rfl, pg_name g.nd h.1 (stB_loc h.2) (stB_fn g h.2)⟩
  · cases h
theorem pg_sts (g : Gd X G W b) : ∀ {is : List Nat} {es : List Expr}, chkSts X.N X.env.scope b is es = true → PGs X es (gNames is) ∧ es.length = is.length ∧ (assignEach es X.env).length = is.length ∧ (assignEach es X.env).findIdx? (·.1) = none
  | [], [], _ => ⟨pgs_nil, rfl, rfl, rfl⟩
  | [], _ :: _, h => by simp [chkSts] at h
  | _ :: _, [], h => by simp [chkSts] at h
  | i :: is, e :: es, h => by
    simp only [chkSts, Bool.and_eq_true] at h
    obtain ⟨x, pos, rfl, p⟩ := pg_st g h.1
    obtain ⟨q, l, l2, f⟩ := pg_sts g h.2
    refine ⟨pgs_cons p q, by simp [l], ?_, ?_⟩
    · show ((false, _) :: assignEach es X.env).length = _
      simp [l2]
    · show ((false, _) :: assignEach es X.env).findIdx? (·.1) = none
      rw [List.findIdx?_cons]
      simp [f]
theorem pg_tg (g : Gd X G W b) {tg : Tg} {e : Expr} (h : chkTg X.N X.env.scope b tg e = true) : PG X e (gTg X.K tg) := by
  cases tg with
  | nm i => obtain ⟨x, pos, rfl, p⟩ := pg_st g (show chkSt X.N X.env.scope b i e = true from h); exact p
  | tp is =>
    simp only [chkTg] at h
    split at h
    · obtain ⟨q, l, l2, f⟩ := pg_sts g h
      exact pg_tup g.calm q l2 f
    · cases h
end
theorem wipe_len (σ : L2.St) (vs : List Nat) : (wipe σ vs).length = σ.length := wipe_length σ vs
theorem wipe_set_in {σ : L2.St} {i : Nat} {o : Option V} : ∀ {vs : List Nat}, (i ∈ vs → wipe (σ.set i o) vs = wipe σ vs) ∧ (i ∉ vs → wipe (σ.set i o) vs = (wipe σ vs).set i o)
  | [] => ⟨fun h => (by simp at h), fun _ => rfl⟩
  | v :: vs => by
    obtain ⟨h1, h2⟩ := wipe_set_in (σ := σ) (i := i) (o := o) (vs := vs)
    refine ⟨fun h => ?_, fun h => ?_⟩
    · unfold wipe
      by_cases m : i ∈ vs
      · rw [h1 m]
      · have e : i = v := (List.mem_cons.mp h).resolve_right m
        subst e
        rw [h2 m, List.set_set]
    · unfold wipe
      simp only [List.mem_cons, not_or] at h
      rw [h2 h.2, List.set_comm _ _ (fun e => h.1 e)]
theorem wipe_get {σ : L2.St} {v : Nat} : ∀ {vs : List Nat}, v ∉ vs → (wipe σ vs)[v]? = σ[v]?
  | [], _ => rfl
  | u :: us, h => by
    simp only [List.mem_cons, not_or] at h
    show ((wipe σ us).set u none)[v]? = _
    rw [List.getElem?_set_ne (Ne.symm h.1)]
    exact wipe_get h.2
theorem wipe_cons {σ : L2.St} {v : Nat} {vs : List Nat} : wipe σ (v :: vs) = (wipe σ vs).set v none := rfl
theorem wipe_idem {σ : L2.St} {vs : List Nat} : wipe (wipe σ vs) vs = wipe σ vs := by
  have key : ∀ (us vs : List Nat), (∀ u ∈ us, u ∈ vs) → wipe (wipe σ us) vs = wipe σ vs := by
    intro us
    induction us with
    | nil => intro vs _; rfl
    | cons u us ih =>
      intro vs h
      rw [wipe_cons, (wipe_set_in (σ := wipe σ us) (i := u) (o := none) (vs := vs)).1 (h u (by simp))]
      exact ih vs fun x hx => h x (by simp [hx])
  exact key vs vs fun _ h => h
section
variable {K : W.Frag} {B : Base} {F : FF} {H : Hp} {σ : L2.St} {Γ Γ' : Env} {tmp : List Addr}
theorem Rel.storeV {x : V} {d : D} (r : Rel K B F H σ Γ tmp) (h : RpD K F.f x d) {i : Nat} (hi : i < Γ.length) : Rel K B F H (σ.set i (some x)) (Γ.set i (some (.v d))) tmp :=
  Rel.store (f1 := []) r (.v h) rfl hi
theorem setSlots_ok : ∀ {is : List Nat} {ts : List T} {xs : List V} {f : List Addr} {σ : L2.St} {Γ Γ' : Env} {Q : L2.St → Hp → Prop}, setSlots Γ is ts = some Γ' → Rel K B F H σ Γ (f ++ tmp) → RpTs K F H xs ts f → T.noBs ts = true →
    (∀ σ', Rel K B F H σ' Γ' tmp → (∀ vs : List Nat, (∀ i ∈ is, i ∈ vs) → wipe σ' vs = wipe σ vs) → Q σ' H) → gNames is xs σ H Q ∧ xs.length = is.length
  | [], [], _, _, _, _, _, _, e, r, .nil, _, q => by
    cases e
    exact ⟨⟨rfl, q _ r fun _ _ => rfl⟩, rfl⟩
  | [], _ :: _, _, _, _, _, _, _, e, _, _, _, _ => by cases e
  | _ :: _, [], _, _, _, _, _, _, e, _, _, _, _ => by cases e
  | i :: is, d :: ds, _, _, σ, Γ, Γ', Q, e, r, h, nb, q => by
    cases h with
    | @cons x xs _ _ f1 g1 a b =>
    unfold setSlots at e
    simp only [T.noBs, Bool.and_eq_true] at nb
    split at e
    · rename_i hi
      have r2 := Rel.store (f1 := f1) (tmp := g1 ++ tmp) (by rw [← List.append_assoc]; exact r) a nb.1 hi
      obtain ⟨h1, h2⟩ := setSlots_ok e r2 b nb.2 fun σ' r' w => q σ' r' fun vs hv => by
        rw [w vs fun j hj => hv j (by simp [hj]), (wipe_set_in (vs := vs)).1 (hv i (by simp))]
      exact ⟨⟨x, xs, rfl, h1⟩, by simp [h2]⟩
    · cases e
theorem tupT_ok {t : T} {ts : List T} {x : V} {f : List Addr} (e : tupT t = some ts) (hF : Hs F H) (h : RpT K F H x t f) : ∃ a xs, x = .ref a ∧ SqT K H a xs ∧ RpTs K F H xs ts f ∧ (t.noB = true → T.noBs ts = true) := by
  unfold tupT at e
  split at e
  · cases e
    cases h with | v r => cases r with | tup h r => exact ⟨_, _, rfl, .of (hF.sub.eq h rfl), r.toV, fun _ => noBs_v _⟩
  · cases e
    cases h with | w r => cases r with | tup h r =>
      refine ⟨_, _, rfl, .of ((hF.nsub.trans hF.sub).eq h rfl), r.toW hF.nsub, fun _ => ?_⟩
      rw [noBs_all, List.all_map, List.all_eq_true]
      intro d _
      show (subW d).noB = true
      unfold subW; split <;> rfl
  · cases e
    cases h with | tp h r => exact ⟨_, _, rfl, .of ((hF.nsub.trans hF.sub).eq h rfl), r, fun n => by simpa [T.noB] using n⟩
  · cases e
theorem bindTg_ok {tg : Tg} {t : T} {x : V} {f : List Addr} {Q : L2.St → Hp → Prop} (e : bindTg tg t Γ = some Γ') (r : Rel K B F H σ Γ (f ++ tmp)) (h : RpT K F H x t f) (nb : t.noB = true)
    (q : ∀ σ', Rel K B F H σ' Γ' tmp → (∀ vs : List Nat, (∀ i ∈ tg.slots, i ∈ vs) → wipe σ' vs = wipe σ vs) → Q σ' H) : gTg K tg x σ H Q := by
  cases tg with
  | nm i =>
    simp only [bindTg] at e
    split at e
    · rename_i hi
      cases e
      exact q _ (r.store h nb hi) fun vs hv => (wipe_set_in (vs := vs)).1 (hv i (by simp [Tg.slots]))
    · cases e
  | tp is =>
    simp only [bindTg] at e
    obtain ⟨ts, e1, e2⟩ := Option.bind_eq_some_iff.mp e
    obtain ⟨a, xs, rfl, hs, rs, nb2⟩ := tupT_ok e1 r.hs h
    obtain ⟨h1, h2⟩ := setSlots_ok e2 r rs (nb2 nb) fun σ' r' w => q σ' r' w
    exact ⟨_, _, rfl, hs, h2, h1⟩
/-- an item that a walk gives -/
theorem YD_ok {F0 : FF} {ts : List T} {i : Nat} {x : V} {H' : Hp} (y : YD K F0 ts i H x H') (r : Rel K B F H σ Γ tmp) (hF : SubF F0 F) :
    ∃ t F', ts[i]? = some t ∧ Rel K B F' H' σ Γ tmp ∧ RpT K F' H' x t [] ∧ t.noB = true ∧ SubF F F' ∧ Sub H H' := by
  obtain ⟨t, ht, h⟩ := y
  rcases h with ⟨rfl, h⟩ | ⟨A, a, b, x1, x2, rfl, rfl, h2, rfl, h4, h5⟩ | ⟨rfl, d, rfl, di, h⟩
  · exact ⟨t, F, ht, r, (h.mono hF).rt _, h.noB, SubF.refl, Sub.refl⟩
  · obtain ⟨r1, s1⟩ := r.allocS (o := .tup [x1, x2]) h2 rfl
    refine ⟨_, _, ht, r1, .tp (show upd F.n A (.tup [x1, x2]) A = _ from upd_same) (.cons (f := []) (g := []) ((h4.mono (hF.trans s1)).rt _) (.cons (f := []) (g := []) ((h5.mono (hF.trans s1)).rt _) .nil)), ?_, s1, upd_sub h2⟩
    simp [T.noB, T.noBs, h4.noB, h5.noB]
  · exact ⟨_, F, ht, r, .v (r.im h di), rfl, SubF.refl, Sub.refl⟩
theorem Rel.wipe : ∀ (vs : List Nat), Rel K B F H σ Γ tmp → Rel K B F H (L2.wipe σ vs) (wipeE Γ vs) tmp
  | [], r => r
  | v :: vs, r => (Rel.wipe vs r).forget v none
theorem set_back {σ : L2.St} {v : Nat} {o : Option V} (h : σ[v]? = some o) : (σ.set v none).set v o = σ := by
  rw [List.set_set]
  have hi : v < σ.length := (List.getElem?_eq_some_iff.mp h).1
  apply List.ext_getElem?
  intro j
  by_cases hj : v = j
  · subst hj; rw [List.getElem?_set_self hi, h]
  · rw [List.getElem?_set_ne hj]
theorem keepV_F {o : Option (Option T)} {t : T} (h : keepV o = some t) : o = some (some t) ∧ isF t = true := by
  unfold keepV at h
  split at h
  · cases h; exact ⟨rfl, rfl⟩
  · cases h; exact ⟨rfl, rfl⟩
  · cases h
theorem Rel.unwipe {Γ1 : Env} : ∀ (vs : List Nat) {Γ : Env} {σ : L2.St}, vs.Nodup → Rel K B F H (L2.wipe σ vs) Γ tmp → (∀ (v : Nat) (t : T), keepV (Γ1[v]?) = some t → ∃ x, σ[v]? = some (some x) ∧ RpT K F H x t []) → Rel K B F H σ (restE Γ1 Γ vs) tmp
  | [], _, _, _, r, _ => r
  | v :: vs, Γ, σ, nd, r, h => by
    unfold restE
    rw [wipe_cons] at r
    rw [List.nodup_cons] at nd
    refine Rel.unwipe vs nd.2 ?_ h
    cases e : σ[v]? with
    | none =>
      have hl : (L2.wipe σ vs).length ≤ v := by rw [wipe_len]; exact List.getElem?_eq_none_iff.mp e
      have hl2 : Γ.length ≤ v := by rw [← r.length, List.length_set]; exact hl
      rw [List.set_eq_of_length_le hl] at r
      rw [List.set_eq_of_length_le hl2]
      exact r
    | some o =>
      have ew : (L2.wipe σ vs)[v]? = some o := by rw [wipe_get nd.1]; exact e
      have r1 := r.forget v o
      rw [set_back ew] at r1
      cases ek : keepV (Γ1[v]?) with
      | none => exact r1
      | some t =>
        obtain ⟨x, hx, rx⟩ := h v t ek
        rw [e] at hx
        cases hx
        have nb : t.noB = true := by
          have := (keepV_F ek).2
          cases t <;> first | rfl | cases this
        have := r1.putBack (f1 := []) (tmp := tmp) rx nb ew
        rw [List.set_set] at this
        exact this
end

/-! ### comprehensions -/
def CkC (N : List Str) (sc : Scope) (b : CP) : OE → List Expr → Prop
  | .no, [] => True
  | .so k, [y] => chkE N sc b k y = true
  | _, _ => False
def OkC (G : Glob) (m : OE) : Prop := ∀ X W b es, Gd X G W b → CkC X.N X.env.scope b m es → PTs X es (TM X.K G W (fun _ _ v a fp => v = a ∧ fp = []) (evC G.cl G.con m))
section
variable {G : Glob}
theorem PTs.imp {X : Cx} {e : List Expr} {t t' : TT} (h : PTs X e t) (i : ∀ σ H Q, t' σ H Q → t σ H Q) : PTs X e t' := ⟨fun pins s σ H Q I q => h.run pins s σ H Q I (i σ H Q q)⟩
theorem okc_no : OkC G .no := by
  intro X W b es g c
  cases es with
  | nil =>
    refine PTs.imp pts_nil fun σ H Q h => ?_
    obtain ⟨B, F, Γ, tmp, rel, P⟩ := h
    exact P true F H [] (by simpa using rel) ⟨rfl, rfl⟩ Sub.refl SubF.refl
  | cons e es => exact c.elim
theorem okc_so {m : E} (hm : Ok G m) : OkC G (.so m) := by
  intro X W b es g c
  cases es with
  | nil => exact c.elim
  | cons e es =>
    cases es with
    | cons _ _ => exact c.elim
    | nil =>
      refine PTs.imp (pts_one (hm.pt X W b e g c)) fun σ H Q h => ?_
      refine one (β := Bool) (rep := fun _ _ v a fp => v = a ∧ fp = []) (r := fun x H Q => ∃ c, x = V.bl c ∧ Q c H) (fun B F H σ Γ tmp fa x ta Q rel ra P => ?_) σ H Q h
      split at P
      · obtain ⟨rfl, rfl⟩ := bl_inv ra
        exact ⟨_, rfl, P _ F H [] (by simpa using rel) ⟨rfl, rfl⟩ Sub.refl SubF.refl⟩
      · exact P.elim
/-- within a comprehension nothing is let out -/
def W0 : WX := fun _ _ _ _ => False
theorem Gd.blk {X : Cx} {W : WX} {b : CP} (g : Gd X G W b) (s : Shared) (H : Hp) (scope : Scope) (C : Addr) (cl : List (Str × Addr)) (fp : List Addr) : Gd (X.blk s H scope (compEnvC scope cl C X.env) fp) G W0 ⟨true, b.fns, b.cls, b.mts, b.ats, b.io⟩ where
  nd := g.nd
  calm := g.calm
  own := PassesOwn.never
  tk := takes0
  hu := g.hu
  st := fun h => by cases h
  con := g.con
  blt := g.blt
  fn := g.fn
  cls := g.cls
  mts := g.mts
  ats := g.ats
  pin := g.pin
/-- a step's outcome, seen from a wish for nothing -/
theorem Post.w0 {α β : Type} {K : W.Frag} {B : Base} {F : FF} {H : Hp} {σ : L2.St} {tmp : List Addr} {rep : FF → Hp → β → α → List Addr → Prop} {r : R α} {Q : β → Hp → Prop} (hb : r ≠ .bad) (he : ∀ x Γ, r ≠ .ex x Γ)
    (h : ∀ a Γ, r = .ok a Γ → ∀ v F' H' fp, Rel K B F' H' σ Γ (fp ++ tmp) → rep F' H' v a fp → Sub H H' → SubF F F' → Q v H') : Post K G W0 B F H σ tmp rep r Q := by
  cases r with
  | bad => exact hb rfl
  | ok a Γ => exact h a Γ rfl
  | ex x Γ => exact absurd rfl (he x Γ)
end
end Tv

namespace Tv
open PySem PySem.Spec PyProof.Rows L2

theorem noBs_append {ts us : List T} : T.noBs (ts ++ us) = (T.noBs ts && T.noBs us) := by
  rw [noBs_all, noBs_all, noBs_all, List.all_append]
theorem ownP_2 {N : List Str} {own : List Nat} (h : (ownP N own).map (·.2) = own) : (ownP N own).map (fun x => x.2) = own := h
section
variable {G : Glob}
theorem lc_read {K : W.Frag} {W : WX} {own : List Nat} {tg : Tg} {it : I} {c : OE} {e : E} (nd : own.Nodup) (hs : ∀ i ∈ tg.slots, i ∈ own) :
    ∀ σ H Q, TE' K G W (.lc own tg it c e) σ H Q → tLc (TM K G W (rI' K) (evI G.cl G.con it)) (gTg K tg) (TM K G W0 (fun _ _ v a fp => v = a ∧ fp = []) (evC G.cl G.con c)) (TE' K G W0 e) own σ H Q := by
  rintro σ H Q ⟨B, F, Γ, tmp, rel, P⟩
  refine ⟨B, F, Γ, tmp, rel, (Post.bind (rep := rI' K) (fp := []) P).imp ?_⟩
  rintro J H1 ⟨ds, Γ1, F1, fp1, rel1, ⟨rfl, wk⟩, sH1, sF1, P1⟩
  have rel1 : Rel K B F1 H1 σ Γ1 tmp := by simpa using rel1
  split at P1
  case isFalse => exact P1.elim
  rename_i hlen
  intro D hD
  -- a turn
  generalize hstep : (fun d Γ2 => match bindTg tg d Γ2 with
      | none => R.bad
      | some Γ3 => (evC G.cl G.con c Γ3).bind fun b Γ4 => match b with
        | false => R.ok none (wipeE Γ4 own)
        | true => (evE G.cl G.con e Γ4).bind fun t Γ5 => if t.noB = true then R.ok (some t) (wipeE Γ5 own) else R.bad) = step at P1
  refine lc_it wk (fun i H => ∃ F Γ ts xs fs, Rel K B F H (wipe σ own) Γ (D :: (fs ++ tmp)) ∧ H D = some (.lst xs) ∧ RpTs K F H xs ts fs ∧ ts.length ≤ i ∧ T.noBs ts = true ∧ SubF F1 F ∧ Sub H1 H ∧
    Post K G W B F1 H1 σ tmp (rT K) ((lcL step (ds.drop i) Γ ts).bind fun ts Γ6 => .ok (.l ts) (restE Γ1 Γ6 own)) Q) ?_ ?_ ?_ ?_
  · exact ⟨F1, wipeE Γ1 own, [], [], [], by simpa using (rel1.wipe own).alloc hD rfl, upd_same, .nil, Nat.le_refl _, rfl, SubF.refl, upd_sub hD, P1⟩
  · rintro i H' hi ⟨F2, Γ2, ts, xs, fs, r2, h2, rp, hl, nb, sF, sH, P2⟩
    exact sF.f.trans r2.sub
  · rintro i x H2 H3 hi ⟨F2, Γ2, ts, xs, fs, r2, h2, rp, hl, nb, sF, sH, P2⟩ y
    obtain ⟨d, F3, hd, r3, rdx, rnb, sF3, sH3⟩ := YD_ok y r2 sF
    have ed : ds.drop i = d :: ds.drop (i + 1) := by
      rw [List.drop_eq_getElem_cons hi]
      rw [List.getElem?_eq_getElem hi] at hd
      rw [Option.some.inj hd]
    rw [ed] at P2
    simp only [lcL] at P2
    have es := congrFun (congrFun hstep.symm d) Γ2
    cases eb : bindTg tg d Γ2 with
    | none =>
      have e3 : step d Γ2 = .bad := by rw [es, eb]
      rw [e3] at P2; exact P2.elim
    | some Γ3 =>
      refine bindTg_ok (f := []) eb (by simpa using r3) rdx rnb fun σ2 r4 w4 => ?_
      have w4 : wipe σ2 own = wipe σ own := by rw [w4 own hs, wipe_idem]
      refine ⟨w4, ⟨B, F3, Γ3, _, r4, Post.w0 (fun q => ?_) (fun x Γx q => ?_) ?_⟩⟩
      · have e3 : step d Γ2 = .bad := by rw [es, eb]; simp only [q]; rfl
        rw [e3] at P2; exact P2
      · have e3 : step d Γ2 = .ex x Γx := by rw [es, eb]; simp only [q]; rfl
        rw [e3] at P2; exact P2
      · rintro b Γ4 q v F4 H4 fp r4' ⟨rfl, rfl⟩ sH4 sF4
        have hD3 : H4 D = some (.lst xs) := (sH3.trans sH4).eq h2 rfl
        cases v with
        | false =>
          have e3 : step d Γ2 = .ok none (wipeE Γ4 own) := by rw [es, eb]; simp only [q]; rfl
          rw [e3] at P2
          rw [if_neg Bool.false_ne_true]
          have r5 : Rel K B F4 H4 σ2 Γ4 (D :: (fs ++ tmp)) := by simpa using r4'
          have r6 := r5.wipe own
          rw [w4] at r6
          exact ⟨F4, wipeE Γ4 own, ts, xs, fs, r6, hD3, (rp.grow (sF3.trans sF4) (sH3.trans sH4)), by omega, nb, (sF.trans sF3).trans sF4, (sH.trans sH3).trans sH4, P2⟩
        | true =>
          rw [if_pos rfl]
          have r5 : Rel K B F4 H4 σ2 Γ4 (D :: (fs ++ tmp)) := by simpa using r4'
          refine ⟨B, F4, Γ4, _, r5, Post.w0 (fun q5 => ?_) (fun x Γx q5 => ?_) ?_⟩
          · have e3 : step d Γ2 = .bad := by rw [es, eb]; simp only [q, R.bind, q5]
            rw [e3] at P2; exact P2
          · have e3 : step d Γ2 = .ex x Γx := by rw [es, eb]; simp only [q, R.bind, q5]
            rw [e3] at P2; exact P2
          · intro t Γ5 q5 v5 F5 H5 fp5 r7 rt5 sH5 sF5
            cases hnb : t.noB with
            | false =>
              have e3 : step d Γ2 = .bad := by rw [es, eb]; simp only [q, R.bind, q5, hnb]; rfl
              rw [e3] at P2; exact P2.elim
            | true =>
              have e3 : step d Γ2 = .ok (some t) (wipeE Γ5 own) := by rw [es, eb]; simp only [q, R.bind, q5, hnb]; rfl
              rw [e3] at P2
              have hD5 : H5 D = some (.lst xs) := sH5.eq hD3 rfl
              have rp5 := rp.grow ((sF3.trans sF4).trans sF5) ((sH3.trans sH4).trans sH5)
              refine ⟨xs, hD5, by rw [rp.length, sizeLine_eq]; exact Nat.lt_of_lt_of_le (Nat.lt_of_le_of_lt hl hi) hlen, ?_⟩
              have cnt : ∀ a, (fp5 ++ (D :: (fs ++ tmp))).count a ≤ 1 := r7.cnt
              have n1 : D ∉ fs := fun m => by
                have q := cnt D
                have := List.count_pos_iff.mpr m
                rw [List.count_append, List.count_cons_self, List.count_append] at q; omega
              have n2 : D ∉ fp5 := fun m => by
                have q := cnt D
                have := List.count_pos_iff.mpr m
                rw [List.count_append, List.count_cons_self, List.count_append] at q; omega
              have r8 := (r7.wipe own).mut (a := D) (o := .lst (xs ++ [v5])) (by simp) rfl
              rw [w4] at r8
              have fr : RpTs K F5 (upd H5 D (.lst (xs ++ [v5]))) (xs ++ [v5]) (ts ++ [t]) (fs ++ (fp5 ++ [])) :=
                (rp5.frame SubF.refl nb fun a ha => upd_ne (by rintro rfl; exact n1 ha)).append (.cons (rt5.frame SubF.refl hnb fun a ha => upd_ne (by rintro rfl; exact n2 ha)) .nil)
              have sHu : Sub H1 (upd H5 D (.lst (xs ++ [v5]))) := fun a o ha => by
                rw [upd_ne fun q => by subst q; rw [hD] at ha; cases ha]
                exact (((sH.trans sH3).trans sH4).trans sH5) a o ha
              refine ⟨F5, wipeE Γ5 own, ts ++ [t], xs ++ [v5], fs ++ (fp5 ++ []), r8.less fun a => ?_, upd_same, fr, by simp; omega, by rw [noBs_append, nb]; simp [T.noBs, hnb], ((sF.trans sF3).trans sF4).trans sF5, sHu, P2⟩
              simp only [List.count_append, List.count_cons, List.count_nil]; omega
  · rintro H2 ⟨F2, Γ2, ts, xs, fs, r2, h2, rp, hl, nb, sF, sH, P2⟩
    rw [List.drop_length] at P2
    refine P2 (.ref D) F2 H2 (D :: fs) ?_ (.l h2 rp) sH sF
    refine Rel.unwipe own nd r2 fun v d hk => ?_
    obtain ⟨this, hf⟩ := keepV_F hk
    obtain ⟨x, f, hx, rt, _⟩ := rel1.get this
    have hf0 : f = [] := by cases rt <;> first | rfl | cases hf
    subst hf0
    exact ⟨x, hx, rt.grow sF sH⟩
theorem blk_scope {X : Cx} {s : Shared} {H : Hp} {scope : Scope} {C : Addr} {cl : List (Str × Addr)} {fp : List Addr} : (X.blk s H scope (compEnvC scope cl C X.env) fp).env.scope = relS scope X.env.scope := rfl
theorem chk_lc {N sc b own tg it c m} {e : Expr} (h : chkE N sc b (.lc own tg it c m) e = true) : ∃ x t iter ifs scope pos, e = .ListComp x [⟨t, iter, ifs, 0⟩] scope pos ∧ chkI N sc b it t iter = true ∧ own.Nodup ∧ blkC N sc scope (ownP N own) = true ∧ (ownP N own).map (·.2) = own ∧
    chkTg N (relS scope sc) ⟨true, b.fns, b.cls, b.mts, b.ats, b.io⟩ tg t = true ∧ (∀ i ∈ tg.slots, i ∈ own) ∧ CkC N (relS scope sc) ⟨true, b.fns, b.cls, b.mts, b.ats, b.io⟩ c ifs ∧ chkE N (relS scope sc) ⟨true, b.fns, b.cls, b.mts, b.ats, b.io⟩ m x = true := by
  unfold chkE at h
  split at h
  · rename_i x t iter ifs scope pos
    simp only [Bool.and_eq_true, decide_eq_true_eq, List.all_eq_true, List.contains_iff_mem] at h
    obtain ⟨⟨⟨⟨⟨⟨⟨h1, h2⟩, h3⟩, h4⟩, h5⟩, h6⟩, h7⟩, h8⟩ := h
    refine ⟨_, _, _, _, _, _, rfl, h1, h2, h3, h4, h5, h6, ?_, h8⟩
    cases c with
    | no => cases ifs with
      | nil => trivial
      | cons _ _ => cases h7
    | so k => cases ifs with
      | nil => cases h7
      | cons y r => cases r with
        | nil => exact h7
        | cons _ _ => cases h7
  · cases h
/-- the parts of a comprehension -/
structure LcP (G : Glob) (X : Cx) (W : WX) (own : List Nat) (tg : Tg) (it : I) (c : OE) (m : E) (x t iter : Expr) (ifs : List Expr) (scope : Scope) : Prop where
  hi : PI X t iter (TM X.K G W (rI' X.K) (evI G.cl G.con it))
  ok : BlkOk X.N X.env.scope scope (ownP X.N own)
  hg : ∀ (s : Shared) (H : Hp) (C : Addr) (cl : List (Str × Addr)) (fp : List Addr), PG (X.blk s H scope (compEnvC scope cl C X.env) fp) t (gTg X.K tg)
  ht : ∀ (s : Shared) (H : Hp) (C : Addr) (cl : List (Str × Addr)) (fp : List Addr), PTs (X.blk s H scope (compEnvC scope cl C X.env) fp) ifs (TM X.K G W0 (fun _ _ v a fp => v = a ∧ fp = []) (evC G.cl G.con c))
  he : ∀ (s : Shared) (H : Hp) (C : Addr) (cl : List (Str × Addr)) (fp : List Addr), PE (X.blk s H scope (compEnvC scope cl C X.env) fp) x (TE' X.K G W0 m)
  hs : ∀ env v, foldedSetIterable iter env v = pure v
theorem lc_parts {own : List Nat} {tg : Tg} {it : I} {c : OE} {m : E} (hi : OkI G it) (hc : OkC G c) (hm : Ok G m) {X : Cx} {W : WX} {b : CP} (g : Gd X G W b) {x t iter : Expr} {ifs : List Expr} {scope : Scope} (h1 : chkI X.N X.env.scope b it t iter = true)
    (h3 : blkC X.N X.env.scope scope (ownP X.N own) = true) (h5 : chkTg X.N (relS scope X.env.scope) ⟨true, b.fns, b.cls, b.mts, b.ats, b.io⟩ tg t = true)
    (h7 : CkC X.N (relS scope X.env.scope) ⟨true, b.fns, b.cls, b.mts, b.ats, b.io⟩ c ifs) (h8 : chkE X.N (relS scope X.env.scope) ⟨true, b.fns, b.cls, b.mts, b.ats, b.io⟩ m x = true) : LcP G X W own tg it c m x t iter ifs scope where
  hi := (hi X W b t iter g h1).1
  ok := blkOk_by h3
  hg := fun s H C cl fp => pg_tg (X := X.blk s H scope (compEnvC scope cl C X.env) fp) (g.blk s H scope C cl fp) h5
  ht := fun s H C cl fp => hc (X.blk s H scope (compEnvC scope cl C X.env) fp) W0 _ ifs (g.blk s H scope C cl fp) h7
  he := fun s H C cl fp => hm.pe (X.blk s H scope (compEnvC scope cl C X.env) fp) W0 _ x (g.blk s H scope C cl fp) h8
  hs := fun env v => by
    have := (hi X W b t iter g h1).2
    cases iter with
    | Set a k p => cases this
    | _ => rfl
theorem ok_lc {own : List Nat} {tg : Tg} {it : I} {c : OE} {m : E} (hi : OkI G it) (hc : OkC G c) (hm : Ok G m) : Ok G (.lc own tg it c m) := by
  have pe : ∀ X W b' e, Gd X G W b' → chkE X.N X.env.scope b' (.lc own tg it c m) e = true → PE X e (TE' X.K G W (.lc own tg it c m)) := by
    intro X W b' e g ch
    obtain ⟨x, t, iter, ifs, scope, pos, rfl, h1, h2, h3, h4, h5, h6, h7, h8⟩ := chk_lc ch
    have L := lc_parts hi hc hm g h1 h3 h5 h7 h8
    refine PE.imp (pe_lc g.calm g.nd L.hi L.ok L.hg L.ht L.he (L.hs _)) fun σ H Q h => ?_
    have := lc_read h2 h6 σ H Q h
    rw [h4]
    exact this
  refine ⟨pe, fun X W b' e g ch => ?_, pw_no fun N sc b op vs pos => rfl⟩
  obtain ⟨x, t, iter, ifs, scope, pos, rfl, _⟩ := chk_lc ch
  exact tB_of (pe X W b' _ g ch) fun _ => rfl
end

/-! ### all of them -/
mutual
theorem snd (G : Glob) : ∀ m : E, Ok G m
  | .var i => ok_var i
  | .frz i => ok_frz i
  | .mov i => ok_mov i
  | .int i => ok_int i
  | .str s => ok_str s
  | .non => ok_non
  | .bl b => ok_bl b
  | .glb x => ok_glb x
  | .bin o a b => ok_bin (snd G a) (snd G b)
  | .neg a => ok_neg (snd G a)
  | .not a => ok_not (snd G a)
  | .cmp o a b => ok_cmp (snd G a) (snd G b)
  | .isN a => ok_isN (snd G a)
  | .notN a => ok_notN (snd G a)
  | .cmp2 o p a b c => ok_cmp2 (snd G a) (snd G b) (snd G c)
  | .and a b => ok_and (snd G a) (snd G b)
  | .or a b => ok_or (snd G a) (snd G b)
  | .call f as => ok_call (sndEs G as)
  | .cme c m o as => ok_cme (snd G o) (sndEs G as)
  | .new c as => ok_new (sndEs G as)
  | .get d k x => ok_get (snd G d) (snd G k) (sndX G x)
  | .dix a i => ok_dix (snd G a) (snd G i)
  | .din n k d => ok_din (snd G k) (snd G d)
  | .fld a f => ok_fld (snd G a)
  | .lrn a => ok_lrn (snd G a)
  | .blt f as => ok_blt (sndEs G as)
  | .meth m a b => ok_meth (snd G a) (snd G b)
  | .isi a t => ok_isi (snd G a)
  | .ix a i => ok_ix (snd G a) (snd G i)
  | .sl a lo hi => ok_sl (snd G a) (sndO G lo) (sndO G hi)
  | .rev a => ok_rev (snd G a)
  | .lst es => ok_lst (sndEs G es)
  | .tup es => ok_tup (sndEs G es)
  | .dic0 _ => ok_dic0
  | .lc own tg it c e => ok_lc (sndI G it) (sndC G c) (snd G e)
theorem sndO (G : Glob) : ∀ m : OE, OkO G m
  | .no => oko_no
  | .so e => oko_so (snd G e)
theorem sndX (G : Glob) : ∀ m : OE, OkX G m
  | .no => okx_no
  | .so e => okx_so (snd G e)
theorem sndC (G : Glob) : ∀ m : OE, OkC G m
  | .no => okc_no
  | .so e => okc_so (snd G e)
theorem sndEs (G : Glob) : ∀ m : Es, OkEs G m
  | .nil => ok_nil
  | .cons e es => ok_cons (snd G e) (sndEs G es)
theorem sndI (G : Glob) : ∀ m : I, OkI G m
  | .seq e => oki_seq (snd G e)
  | .rng1 a => oki_rng1 (snd G a)
  | .rng2 a b => oki_rng2 (snd G a) (snd G b)
  | .rng3 a b c => oki_rng3 (snd G a) (snd G b) (snd G c)
  | .enum e => oki_enum (snd G e)
  | .zip a b => oki_zip (snd G a) (snd G b)
  | .rvd a => oki_rvd (snd G a)
  | .keys a => oki_keys (snd G a)
  | .keysM a => oki_keysM (snd G a)
  | .dvals a => oki_dvals (snd G a)
  | .ditems a => oki_ditems (snd G a)
end
end Tv

namespace Tv
open PySem PySem.Spec PyProof.Rows L2

/-! ### the small statements beside the text's -/
def compScope : Expr → Option Scope
  | .ListComp _ _ s _ | .SetComp _ _ s _ | .DictComp _ _ _ s _ => some s
  | _ => none
def notComp (e : Expr) : Bool := (compScope e).isNone
def swB (v : Expr) (y : Str) (py : Pos) (env : PySem.Env) : Bool := match compScope v with
  | some s => env.blockKind == .function && env.kindOf y == some .local && py.line == v.pos.line && !(s.names.any fun (n, k) => n == y && (k == .local || k == .cell))
  | none => false
theorem sw_name {v : Expr} {y : Str} {py : Pos} {l : Nat} {env : PySem.Env} : swapsWith v (some (.Name y py)) l env = pure (swB v y py env) := by
  cases v <;> rfl
theorem sw_none {v : Expr} {l : Nat} {env : PySem.Env} (h : notComp v = true) : swapsWith v none l env = pure false := by
  cases v <;> first | rfl | (exact absurd h (by decide)) | cases h
theorem sw_sub {v o i : Expr} {p : Pos} {l : Nat} {env : PySem.Env} : swapsWithSole [.Subscript o i p] v l env = pure false := by
  cases v <;> rfl
theorem sw_att {v o : Expr} {n : Str} {p : Pos} {l : Nat} {env : PySem.Env} : swapsWith v (some (.Attribute o n p)) l env = pure false := by
  cases v <;> rfl
theorem sw_tup {v : Expr} {es k} {p : Pos} {l : Nat} {env : PySem.Env} : swapsWithSole [.Tuple es k p] v l env = pure false := by
  cases v <;> rfl
theorem swst_sub {v o i : Expr} {p : Pos} {env : PySem.Env} : swappedStores [.Subscript o i p] v env = pure none := by
  cases v <;> rfl
theorem swst_tup {v : Expr} {es k} {p : Pos} {env : PySem.Env} (h : isTuple v = false) : swappedStores [.Tuple es k p] v env = pure none := by
  cases v <;> first | rfl | cases h

def chkPl (N : List Str) (sc : Scope) (b : CP) : Pl → Expr → Bool
  | .nm i, e => chkName N sc i e
  | .ix p m, e => match e with
    | .Subscript o k _ => chkPl N sc b p o && chkE N sc b m k
    | _ => false
  | .fl p f, e => match e with
    | .Attribute o n _ => decide (n = Str.ofString f) && chkPl N sc b p o
    | _ => false
def MO.nm : MO → String
  | .append => "append" | .extend => "extend" | .reverse => "reverse" | .clear => "clear" | .insert => "insert"
def MO.args : MO → Nat
  | .append => 1 | .extend => 1 | .reverse => 0 | .clear => 0 | .insert => 2
/-- the slots that a statement itself fills -/
def S.own : S → List Nat
  | .set i _ => [i]
  | .setF i _ => [i]
  | .setT is _ => is
  | .augV i _ _ => [i]
  | .pop i _ _ => [i]
  | .for tg _ _ => tg.slots
  | _ => []
mutual
def chkS (N : List Str) (sc : Scope) (b : CP) : S → Stmt → Bool
  | .set i e, st => match st with
    | .Assign [.Name y py] v _ => chkSt N sc b i (.Name y py) && chkE N sc b e v
    | _ => false
  | .setF i e, st => match st with
    | .Assign [.Name y py] v _ => chkSt N sc b i (.Name y py) && chkE N sc b e v
    | _ => false
  | .setT is e, st => match st with
    | .Assign [.Tuple es _ _] v _ => chkSts N sc b is es && chkE N sc b e v && !isTuple v
    | _ => false
  | .sto p ix e, st => match st with
    | .Assign [.Subscript o k _] v _ => chkPl N sc b p o && chkE N sc b ix k && chkE N sc b e v
    | _ => false
  | .dsto p ix e, st => match st with
    | .Assign [.Subscript o k _] v _ => chkPl N sc b p o && chkE N sc b ix k && chkE N sc b e v
    | _ => false
  | .stf c p f e, st => match st with
    | .Assign [.Attribute o n _] v _ => decide (n = Str.ofString f) && b.ats.contains (c, f) && chkPl N sc b p o && chkE N sc b e v
    | _ => false
  | .augV i o e, st => match st with
    | .AugAssign (.Name y py) op v _ => chkSt N sc b i (.Name y py) && chkE N sc b e v && decide (op = o.op)
    | _ => false
  | .augS i o ix e, st => match st with
    | .AugAssign (.Subscript x k _) op v _ => chkName N sc i x && chkE N sc b ix k && chkE N sc b e v && decide (op = o.op)
    | _ => false
  | .mut m p as, st => match st with
    | .Expr (.Call (.Attribute x n ap) ys [] cp) _ => decide (n = Str.ofString m.nm) && decide (ap.endLine = cp.line) && decide (ys.length = m.args) && chkPl N sc b p x && chkEs N sc b as ys
    | _ => false
  | .pop i p as, st => match st with
    | .Assign [.Name y py] (.Call (.Attribute x n ap) ys [] cp) _ => decide (n = Str.ofString "pop") && decide (ap.endLine = cp.line) && decide (ys.length ≤ 1) && chkSt N sc b i (.Name y py) && chkPl N sc b p x && chkEs N sc b as ys
    | _ => false
  | .ex e, st => match st with
    | .Expr v _ => chkE N sc b e v && notComp v
    | _ => false
  | .ife c x y, st => match st with
    | .If v s1 s2 _ => chkE N sc b c v && chkSs N sc b x s1 && chkSs N sc b y s2
    | _ => false
  | .for tg it body, st => match st with
    | .For t v s1 [] _ => chkTg N sc b tg t && chkI N sc b it t v && chkSs N sc b body s1
    | _ => false
  | .whl _ c body, st => match st with
    | .While v s1 [] _ => chkE N sc b c v && chkSs N sc b body s1
    | _ => false
  | .ret _ e, st => match st with
    | .Return (some v) _ => chkE N sc b e v
    | _ => false
  | .retN _, st => match st with
    | .Return none _ => true
    | _ => false
  | .pass, st => match st with
    | .Pass _ => true
    | .Expr (.Constant (.str _) _ _) _ => true
    | _ => false
  | .brk, st => match st with
    | .Break _ => true
    | _ => false
  | .cnt, st => match st with
    | .Continue _ => true
    | _ => false
  | .dead, _ => true
def chkSs (N : List Str) (sc : Scope) (b : CP) : Ss → List Stmt → Bool
  | .nil, xs => match xs with
    | [] => true
    | _ => false
  | .cons s ss, xs => match xs with
    | x :: xs => (s.own.all fun i => !b.io.contains i) && (chkS N sc b s x && chkSs N sc b ss xs)
    | [] => false
  | .kill _ ss, xs => chkSs N sc b ss xs
end

/-! ### the wishes -/
/-- the slots that stand all through the def -/
def Pin (G : Glob) (σ : L2.St) : Prop := ∀ p ∈ G.pin, σ[p.1]? = some (some p.2)
def FreeOf (G : Glob) (is : List Nat) : Prop := ∀ i ∈ is, ∀ p ∈ G.pin, p.1 ≠ i
theorem Pin.set {G : Glob} {σ : L2.St} (h : Pin G σ) {i : Nat} {o : Option V} (hi : FreeOf G [i]) : Pin G (σ.set i o) := fun p hp => by
  rw [List.getElem?_set_ne (Ne.symm (hi i (by simp) p hp))]; exact h p hp
theorem Pin.wiped {G : Glob} {σ σ' : L2.St} (h : Pin G σ) {is : List Nat} (hi : FreeOf G is) (hw : ∀ vs : List Nat, (∀ i ∈ is, i ∈ vs) → wipe σ' vs = wipe σ vs) : Pin G σ' := fun p hp => by
  have n : p.1 ∉ is := fun m => hi p.1 m p hp rfl
  rw [← wipe_get (σ := σ') n, hw is (fun _ h => h), wipe_get n]
  exact h p hp
def PostS (K : W.Frag) (G : Glob) (W : WX) (B : Base) (F : FF) (r : SR) (D : Ends) : Prop :=
  match r with
  | .bad => False
  | .nx Γ => ∀ σ F' H', Rel K B F' H' σ Γ [] → Pin G σ → SubF F F' → D.nx σ H'
  | .bk Γ => ∀ σ F' H', Rel K B F' H' σ Γ [] → Pin G σ → SubF F F' → D.bk σ H'
  | .ct Γ => ∀ σ F' H', Rel K B F' H' σ Γ [] → Pin G σ → SubF F F' → D.ct σ H'
  | .rt t Γ => ∀ v σ F' H' fp, Rel K B F' H' σ Γ fp → Pin G σ → RpT K F' H' v t fp → t.noB = true → SubF F F' → D.rt v H'
  | .ex x Γ => ∀ c d σ F' H', Rel K B F' H' σ Γ [] → Pin G σ → SubF F F' → G.exr x c d F' H' → W c d σ H'
/-- X0: the heap ahead of the def; what was locked then is none of this def's own things -/
def NoFz (X0 : Hp) (B : Base) : Prop := ∀ a o u, X0 a = some (.frz o u) → B.H0 a ≠ none
def Std (X0 : Hp) (G : Glob) (B : Base) (σ : L2.St) : Prop := NoFz X0 B ∧ Pin G σ
def TMS (K : W.Frag) (X0 : Hp) (G : Glob) (W : WX) (ev : Env → SR) : TS := fun D σ H => ∃ B F Γ, Std X0 G B σ ∧ Rel K B F H σ Γ [] ∧ PostS K G W B F (ev Γ) D
section
variable {K : W.Frag} {G : Glob} {W : WX} {B : Base} {F F1 : FF} {H H1 : Hp} {σ : L2.St} {Γ : Env} {r : SR} {D D' : Ends}
theorem PostS.later (P : PostS K G W B F r D) (hF : SubF F F1) : PostS K G W B F1 r D := by
  cases r with
  | bad => exact P
  | nx Γ => exact fun σ F' H' a p b => P σ F' H' a p (hF.trans b)
  | bk Γ => exact fun σ F' H' a p b => P σ F' H' a p (hF.trans b)
  | ct Γ => exact fun σ F' H' a p b => P σ F' H' a p (hF.trans b)
  | rt t Γ => exact fun v σ F' H' fp a p b c d => P v σ F' H' fp a p b c (hF.trans d)
  | ex x Γ => exact fun c d σ F' H' a p b e => P c d σ F' H' a p (hF.trans b) e
theorem PostS.lift {e : R T} {f : T → Env → SR} (P : PostS K G W B F (liftE e f) D) (hp : Pin G σ) :
    Post K G W B F H σ [] (rT K) e (fun v H' => ∃ t Γ' F' fp, Rel K B F' H' σ Γ' fp ∧ RpT K F' H' v t fp ∧ Sub H H' ∧ SubF F F' ∧ PostS K G W B F' (f t Γ') D) := by
  cases e with
  | bad => exact P
  | ok a Γ => exact fun v F' H' fp h1 h2 h3 h4 => ⟨a, Γ, F', fp, by simpa using h1, h2, h3, h4, P.later h4⟩
  | ex x Γ => exact fun c d F' H' h1 h2 h3 h4 => P c d σ F' H' h1 hp h3 h4
/-- with something in hand -/
theorem PostS.liftT {tmp : List Addr} {e : R T} {f : T → Env → SR} (P : PostS K G W B F (liftE e f) D) (hp : Pin G σ) :
    Post K G W B F H σ tmp (rT K) e (fun v H' => ∃ t Γ' F' fp, Rel K B F' H' σ Γ' (fp ++ tmp) ∧ RpT K F' H' v t fp ∧ Sub H H' ∧ SubF F F' ∧ PostS K G W B F' (f t Γ') D) := by
  cases e with
  | bad => exact P
  | ok a Γ => exact fun v F' H' fp h1 h2 h3 h4 => ⟨a, Γ, F', fp, h1, h2, h3, h4, P.later h4⟩
  | ex x Γ => exact fun c d F' H' h1 h2 h3 h4 => P c d σ F' H' (h1.less fun a => by simp) hp h3 h4
theorem PostS.liftI {α β : Type} {rep : FF → Hp → β → α → List Addr → Prop} {tmp : List Addr} {e : R α} {f : α → Env → SR} (P : PostS K G W B F (Tv.liftI e f) D) (hp : Pin G σ) :
    Post K G W B F H σ tmp rep e (fun J H' => ∃ a Γ' F' fp, Rel K B F' H' σ Γ' (fp ++ tmp) ∧ rep F' H' J a fp ∧ Sub H H' ∧ SubF F F' ∧ PostS K G W B F' (f a Γ') D) := by
  cases e with
  | bad => exact P
  | ok a Γ => exact fun v F' H' fp h1 h2 h3 h4 => ⟨a, Γ, F', fp, h1, h2, h3, h4, P.later h4⟩
  | ex x Γ => exact fun c d F' H' h1 h2 h3 h4 => P c d σ F' H' (h1.less fun a => by simp) hp h3 h4
end

/-! ### places -/
def navV (H : Hp) : V → List PK → Option V
  | x, [] => some x
  | .ref a, .n k :: p => match H a with
    | some (.lst xs) => (match xs[k]? with
      | some y => navV H y p
      | none => none)
    | some (.tup xs) => (match xs[k]? with
      | some y => navV H y p
      | none => none)
    | _ => none
  | .ref a, .f s :: p => match H a with
    | some (.ins _ _ fs) => (match fs.lookup (Str.ofString s) with
      | some y => navV H y p
      | none => none)
    | _ => none
  | _, _ => none
theorem nav_mono {H H' : Hp} (h : Sub H H') : ∀ {p : List PK} {x y : V}, navV H x p = some y → navV H' x p = some y
  | [], x, y, e => by cases x <;> exact e
  | .n k :: p, x, y, e => by
    cases x with
    | ref a =>
      simp only [navV] at e ⊢
      split at e
      · rename_i xs eh
        rw [h.eq eh rfl]
        dsimp only
        split at e
        · rename_i z ez
          exact nav_mono h e
        · cases e
      · rename_i xs eh
        rw [h.eq eh rfl]
        dsimp only
        split at e
        · rename_i z ez
          exact nav_mono h e
        · cases e
      · cases e
    | _ => cases e
  | .f s :: p, x, y, e => by
    cases x with
    | ref a =>
      simp only [navV] at e ⊢
      split at e
      · rename_i C dx fs eh
        rw [h.eq eh rfl]
        dsimp only
        split at e
        · rename_i z ez
          exact nav_mono h e
        · cases e
      · cases e
    | _ => cases e
theorem nav_nil {H : Hp} {x : V} : navV H x [] = some x := by cases x <;> rfl
theorem nav_snoc {H : Hp} : ∀ {p : List PK} {x y z : V} {k : PK}, navV H x p = some y → navV H y [k] = some z → navV H x (p ++ [k]) = some z
  | [], x, y, z, k, e, h => by rw [nav_nil] at e; cases e; exact h
  | .n j :: p, x, y, z, k, e, h => by
    cases x with
    | ref a =>
      simp only [navV, List.cons_append] at e ⊢
      split at e
      · rename_i xs eh
        split at e
        · rename_i w ew
          exact nav_snoc e h
        · cases e
      · rename_i xs eh
        split at e
        · rename_i w ew
          exact nav_snoc e h
        · cases e
      · cases e
    | _ => cases e
  | .f s :: p, x, y, z, k, e, h => by
    cases x with
    | ref a =>
      simp only [navV, List.cons_append] at e ⊢
      split at e
      · rename_i C dx fs eh
        split at e
        · rename_i w ew
          exact nav_snoc e h
        · cases e
      · cases e
    | _ => cases e
theorem lookup_ix {s : String} : ∀ {fs : List (Str × V)} {ns : List String} {k : Nat}, fs.map Prod.fst = ns.map Str.ofString → fIx ns s = some k → fs.lookup (Str.ofString s) = (fs.map Prod.snd)[k]?
  | [], ns, k, e, h => by
    cases ns with
    | nil => simp [fIx] at h
    | cons _ _ => simp at e
  | (x, y) :: fs, ns, k, e, h => by
    cases ns with
    | nil => simp at e
    | cons n ns =>
      simp only [List.map_cons, List.cons.injEq] at e
      obtain ⟨rfl, e⟩ := e
      unfold fIx at h
      rw [List.findIdx?_cons] at h
      rw [List.lookup_cons]
      by_cases c : n = s
      · subst c
        simp at h
        subst h
        simp
      · have c1 : (n == s) = false := beq_eq_false_iff_ne.mpr c
        have c2 : (Str.ofString s == Str.ofString n) = false := beq_eq_false_iff_ne.mpr fun q => c (ofString_inj q).symm
        simp only [c1, Bool.false_eq_true, if_false] at h
        obtain ⟨j, hj, rfl⟩ := Option.map_eq_some_iff.mp h
        rw [c2]
        simp only [List.map_cons, List.getElem?_cons_succ]
        exact lookup_ix e hj
theorem noBs_get {ts : List T} {n : Nat} {t : T} (h : T.noBs ts = true) (h2 : ts[n]? = some t) : t.noB = true := by
  rw [noBs_all, List.all_eq_true] at h
  exact h _ (List.mem_of_getElem? h2)
theorem noBs_set {ts : List T} {n : Nat} {t : T} (h : T.noBs ts = true) (h2 : t.noB = true) : T.noBs (ts.set n t) = true := by
  rw [noBs_all, List.all_eq_true] at h ⊢
  intro u hu
  rcases List.mem_or_eq_of_mem_set hu with hu | hu
  · exact h u hu
  · rw [hu]; exact h2
section
variable {K : W.Frag} {F : FF} {H : Hp}
/-- one item: seen alone, and another thing in its place -/
theorem RpTs.at : ∀ {xs : List V} {ts : List T} {g : List Addr} (n : Nat) {t : T}, RpTs K F H xs ts g → ts[n]? = some t → ∃ (x : V) (f0 g0 : List Addr), xs[n]? = some x ∧ RpT K F H x t f0 ∧ (∀ c : Addr, f0.count c + g0.count c = g.count c) ∧
    ∀ {H' : Hp} {u : T} {fu : List Addr}, RpT K F H' x u fu → (∀ a ∈ g0, H' a = H a) → T.noBs ts = true → ∃ g' : List Addr, RpTs K F H' xs (ts.set n u) g' ∧ ∀ c, g'.count c ≤ fu.count c + g0.count c
  | _, _, _, _, _, .nil, e => by simp at e
  | _, _, _, 0, t, .cons (x := x) (f := f) (g := g) a b, e => by
    simp at e; subst e
    refine ⟨x, f, g, rfl, a, fun c => by simp only [List.count_append], fun {H' u fu} h k nb => ⟨fu ++ g, .cons h (b.frame SubF.refl (by simp [T.noBs] at nb; exact nb.2) k), fun c => by simp only [List.count_append]; omega⟩⟩
  | _, _, _, n + 1, t, .cons (x := x0) (f := f) (g := g) a b, e => by
    obtain ⟨x, f0, g0, h1, h2, h3, h4⟩ := RpTs.at n (t := t) b (by simpa using e)
    refine ⟨x, f0, f ++ g0, by simpa using h1, h2, fun c => by have := h3 c; simp only [List.count_append]; omega, fun {H' u fu} h k nb => ?_⟩
    simp [T.noBs] at nb
    obtain ⟨g', q1, q2⟩ := h4 h (fun a ha => k a (by simp [ha])) nb.2
    exact ⟨f ++ g', .cons (a.frame SubF.refl nb.1 fun a ha => k a (by simp [ha])) q1, fun c => by have := q2 c; simp only [List.count_append]; omega⟩
theorem RpTs.set : ∀ {xs : List V} {ts : List T} {g ft : List Addr} (n : Nat) {x : V} {t : T}, RpTs K F H xs ts g → RpT K F H x t ft → ∃ g', RpTs K F H (xs.set n x) (ts.set n t) g' ∧ ∀ c, g'.count c ≤ g.count c + ft.count c
  | _, _, _, ft, _, _, _, .nil, _ => ⟨[], .nil, fun c => by simp⟩
  | _, _, _, ft, 0, _, _, .cons (f := f) (g := g) a b, h => ⟨ft ++ g, .cons h b, fun c => by simp only [List.count_append]; omega⟩
  | _, _, _, ft, n + 1, _, _, .cons (f := f) (g := g) a b, h => by
    obtain ⟨g', h1, h2⟩ := RpTs.set n b h
    exact ⟨f ++ g', .cons a h1, fun c => by have := h2 c; simp only [List.count_append]; omega⟩
/-- the thing at a path: seen alone, and another one in its place -/
theorem RpT.lens (hF : Hs F H) : ∀ {p : List PK} {x : V} {t u : T} {f : List Addr}, RpT K F H x t f → getP t p = some u → t.noB = true → ∃ (y : V) (fu g : List Addr), navV H x p = some y ∧ RpT K F H y u fu ∧ (∀ c : Addr, fu.count c + g.count c = f.count c) ∧ u.noB = true ∧
    ∀ {H' : Hp} {u' : T} {fu' : List Addr}, RpT K F H' y u' fu' → u'.noB = true → (∀ a ∈ g, H' a = H a) → ∃ f' : List Addr, RpT K F H' x (setP t p u') f' ∧ (setP t p u').noB = true ∧ ∀ c, f'.count c ≤ fu'.count c + g.count c
  | [], x, t, u, f, r, e, nb => by
    have e : t = u := by cases t <;> exact Option.some.inj e
    subst e
    refine ⟨x, f, [], nav_nil, r, fun c => by simp, nb, fun {H' u' fu'} r' nb' _ => ⟨fu', ?_, ?_, fun c => by simp⟩⟩
    · cases t <;> exact r'
    · cases t <;> exact nb'
  | .n k :: p, x, t, u, f, r, e, nb => by
    cases r with
    | @l a xs ts f0 h r =>
      simp only [getP] at e
      split at e
      · rename_i t' et
        have nbs : T.noBs ts = true := by simpa [T.noB] using nb
        obtain ⟨x', f1, g1, h1, h2, h3, h4⟩ := r.at k et
        obtain ⟨y, fu, g, k1, k2, k3, k4, k5⟩ := RpT.lens hF h2 e (noBs_get nbs et)
        refine ⟨y, fu, a :: (g1 ++ g), ?_, k2, fun c => ?_, k4, fun {H' u' fu'} r' nb' kk => ?_⟩
        · simp only [navV, h, h1]; exact k1
        · have := h3 c; have := k3 c; simp only [List.count_cons, List.count_append]; omega
        · obtain ⟨f', q1, q2, q3⟩ := k5 r' nb' fun b hb => kk b (by simp [hb])
          obtain ⟨g', q4, q5⟩ := h4 q1 (fun b hb => kk b (by simp [hb])) nbs
          refine ⟨a :: g', ?_, ?_, fun c => ?_⟩
          · simp only [setP, et]; exact .l ((kk a (by simp)).trans h) q4
          · simp only [setP, et, T.noB]; exact noBs_set nbs q2
          · have := q3 c; have := q5 c; simp only [List.count_cons, List.count_append]; omega
      · cases e
    | @tp a xs ts f0 h r =>
      simp only [getP] at e
      split at e
      · rename_i t' et
        have nbs : T.noBs ts = true := by simpa [T.noB] using nb
        obtain ⟨x', f1, g1, h1, h2, h3, h4⟩ := r.at k et
        obtain ⟨y, fu, g, k1, k2, k3, k4, k5⟩ := RpT.lens hF h2 e (noBs_get nbs et)
        have hh : H a = some (.tup xs) := (hF.nsub.trans hF.sub).eq h rfl
        refine ⟨y, fu, g1 ++ g, ?_, k2, fun c => ?_, k4, fun {H' u' fu'} r' nb' kk => ?_⟩
        · simp only [navV, hh, h1]; exact k1
        · have := h3 c; have := k3 c; simp only [List.count_append]; omega
        · obtain ⟨f', q1, q2, q3⟩ := k5 r' nb' fun b hb => kk b (by simp [hb])
          obtain ⟨g', q4, q5⟩ := h4 q1 (fun b hb => kk b (by simp [hb])) nbs
          refine ⟨g', ?_, ?_, fun c => ?_⟩
          · simp only [setP, et]; exact .tp h q4
          · simp only [setP, et, T.noB]; exact noBs_set nbs q2
          · have := q3 c; have := q5 c; simp only [List.count_append]; omega
      · cases e
    | _ => cases e
  | .f s :: p, x, t, u, f, r, e, nb => by
    cases r with
    | @ob a dx fs c ns xs ts f0 hc h hn hx r =>
      subst hx
      simp only [getP] at e
      split at e
      · rename_i k ek
        split at e
        · rename_i t' et
          have nbs : T.noBs ts = true := by simpa [T.noB] using nb
          obtain ⟨x', f1, g1, h1, h2, h3, h4⟩ := r.at k et
          obtain ⟨y, fu, g, k1, k2, k3, k4, k5⟩ := RpT.lens hF h2 e (noBs_get nbs et)
          have hl := lookup_ix hn ek
          rw [h1] at hl
          refine ⟨y, fu, a :: (g1 ++ g), ?_, k2, fun c => ?_, k4, fun {H' u' fu'} r' nb' kk => ?_⟩
          · simp only [navV, h, hl]; exact k1
          · have := h3 c; have := k3 c; simp only [List.count_cons, List.count_append]; omega
          · obtain ⟨f', q1, q2, q3⟩ := k5 r' nb' fun b hb => kk b (by simp [hb])
            obtain ⟨g', q4, q5⟩ := h4 q1 (fun b hb => kk b (by simp [hb])) nbs
            refine ⟨a :: g', ?_, ?_, fun c => ?_⟩
            · simp only [setP, ek, et]; exact .ob hc ((kk a (by simp)).trans h) hn rfl q4
            · simp only [setP, ek, et, T.noB]; exact noBs_set nbs q2
            · have := q3 c; have := q5 c; simp only [List.count_cons, List.count_append]; omega
        · cases e
      · cases e
    | _ => cases e
end
/-- a thing at a place, ready to be written; ft: what is in hand -/
theorem Rel.lens {K : W.Frag} {B : Base} {F : FF} {H : Hp} {σ : L2.St} {Γ : Env} {tmp ft : List Addr} {q : Pth} {u : T} (r : Rel K B F H σ Γ (ft ++ tmp)) (e : getΓ Γ q = some u) : ∃ (x y : V) (fu : List Addr), σ[q.1]? = some (some x) ∧ navV H x q.2 = some y ∧ RpT K F H y u fu ∧ u.noB = true ∧ (∀ c : Addr, fu.count c + ft.count c ≤ 1) ∧ (∀ a ∈ fu, F.f a = none ∧ B.H0 a = none) ∧
    ∀ {a : Addr} {o : HO} {u' : T} {fu' fx : List Addr}, a ∈ fu → stab o = false → RpT K F (upd H a o) y u' fu' → u'.noB = true → (∀ c, fu'.count c + fx.count c ≤ fu.count c + ft.count c) → Rel K B F (upd H a o) σ (setΓ Γ q u') (fx ++ tmp) := by
  unfold getΓ at e
  split at e
  · rename_i t et
    obtain ⟨x, f, hv, rt, nb, r2⟩ := r.take et
    obtain ⟨y, fu, g, k1, k2, k3, k4, k5⟩ := rt.lens r.hs e nb
    obtain ⟨f0, _, _, hh⟩ := r2.env
    have cnt := r2.cnt
    refine ⟨x, y, fu, hv, k1, k2, k4, fun c => ?_, fun a ha => ?_, fun {a o u' fu' fx} ha ho r' nb' hc => ?_⟩
    · have := cnt c; have := k3 c; simp only [List.count_append] at *; omega
    · have m : a ∈ f := mem_of_count (f := fu) (by have := k3 a; omega) ha
      have := hh a (.inr (List.mem_append_left _ m))
      exact ⟨this.1, this.2.1⟩
    · have m : a ∈ f := mem_of_count (f := fu) (by have := k3 a; omega) ha
      have r3 := r2.mut (o := o) (List.mem_append_left _ m) ho
      have ng : ∀ b ∈ g, b ≠ a := fun b hb z => by
        subst z
        have e1 := List.count_pos_iff.mpr ha
        have e2 := List.count_pos_iff.mpr hb
        have := cnt b; have := k3 b; simp only [List.count_append] at *; omega
      obtain ⟨f', q1, q2, q3⟩ := k5 r' nb' fun b hb => upd_ne (ng b hb)
      have r4 := (r3.less (tmp' := f' ++ (fx ++ tmp)) fun c => by have := q3 c; have := hc c; have := k3 c; simp only [List.count_append]; omega).putBack q1 q2 hv
      rw [List.set_set] at r4
      have es : setΓ Γ q u' = Γ.set q.1 (some (setP t q.2 u')) := by unfold setΓ; rw [et]
      rw [es]; exact r4
  · cases e
def rPl (σ : L2.St) : FF → Hp → V → Pth → List Addr → Prop := fun _ H v q fp => fp = [] ∧ ∃ x, σ[q.1]? = some (some x) ∧ navV H x q.2 = some v
def TPl (K : W.Frag) (G : Glob) (W : WX) (p : Pl) : TE := fun σ H Q => TM K G W (rPl σ) (evPl G.cl G.con p) σ H Q
def OkPl (G : Glob) (p : Pl) : Prop := ∀ X W b e, Gd X G W b → chkPl X.N X.env.scope b p e = true → PE X e (TPl X.K G W p) ∧ (∀ n : Str, attributeBase e n X.env (eval e X.env) = eval e X.env)
theorem ownQ_of {o : Option T} {ts : List T} (h : ownQ o = some ts) : o = some (.l ts) ∨ o = some (.tp ts) := by
  unfold ownQ at h
  split at h
  · cases h; exact .inl rfl
  · cases h; exact .inr rfl
  · cases h
theorem ixN_len {n m : Nat} {j : Int} {k : Nat} (e : n = m) (h : ixN n j = some k) : ixN m j = some k := e ▸ h
theorem ixT1_of {n : Nat} {k : T} {m : Nat} (h : ixT1 n k = some m) : ∃ j, k = .v (.int j) ∧ ixN n j = some m := by
  unfold ixT1 at h
  split at h
  · exact ⟨_, rfl, h⟩
  · cases h
theorem atI_of {α : Type} {xs : List α} {n : Nat} {j : Int} {k : Nat} {x : α} (hl : xs.length = n) (h : ixN n j = some k) (e : xs[k]? = some x) : atI xs j = some x := by
  unfold atI
  rw [hl, h]
  exact e
theorem ixN_lt {n : Nat} {j : Int} {k : Nat} (h : ixN n j = some k) : k < n := by
  unfold ixN at h
  split at h
  · split at h
    · cases h; omega
    · cases h
  · split at h
    · cases h; omega
    · cases h
theorem int_inv' {K : W.Frag} {F : FF} {H : Hp} {x : V} {i : Int} {f : List Addr} (r : RpT K F H x (.v (.int i)) f) : x = .int i := (int_inv r).1
section
variable {G : Glob}
theorem okp_nm (i : Nat) : OkPl G (.nm i) := by
  intro X W b e g c
  obtain ⟨x, pos, rfl, p⟩ := name_of (show chkName X.N X.env.scope i e = true from c)
  refine ⟨PE.imp p fun σ H Q h => ?_, fun n => rfl⟩
  obtain ⟨B, F, Γ, tmp, rel, P⟩ := h
  simp only [evPl] at P
  split at P
  · rename_i t e
    obtain ⟨v, f, hv, rt, nb⟩ := rel.get e
    exact ⟨v, hv, P v F H [] (by simpa using rel) ⟨rfl, v, hv, nav_nil⟩ Sub.refl SubF.refl⟩
  · exact P.elim
theorem okp_ix {p : Pl} {m : E} (hp : OkPl G p) (hm : Ok G m) : OkPl G (.ix p m) := by
  intro X W b e g c
  simp only [chkPl] at c
  split at c
  · rename_i o k pos
    rw [Bool.and_eq_true] at c
    refine ⟨PE.imp (pe_ix ix_any (hp X W b o g c.1).1 (hm.pe X W b k g c.2) (plainIx_of c.2)) fun σ H Q h => ?_, fun n => rfl⟩
    obtain ⟨B, F, Γ, tmp, rel, P⟩ := h
    simp only [evPl] at P
    refine ⟨B, F, Γ, tmp, rel, (Post.bind (rep := rPl σ) (fp := []) P).imp ?_⟩
    rintro v1 H1 ⟨q, Γ1, F1, fp1, rel1, ⟨rfl, x, hx, hn1⟩, sH1, sF1, P1⟩
    split at P1
    · refine ⟨B, F1, Γ1, tmp, by simpa using rel1, (Post.bind (rep := rT X.K) (fp := []) P1).imp ?_⟩
      rintro v2 H2 ⟨kt, Γ2, F2, fk, rel2, rk, sH2, sF2, P2⟩
      split at P2
      · rename_i ts eo
        split at P2
        · rename_i n en
          obtain ⟨j, rfl, hj⟩ := ixT1_of en
          obtain rfl := int_inv' rk
          have hn2 := nav_mono sH2 hn1
          rcases ownQ_of eo with eo | eo
          · obtain ⟨x', y, fu, hx', hny, ru, nbu, _, _, _⟩ := rel2.lens (ft := fk) (by simpa using eo)
            rw [hx] at hx'; cases hx'
            rw [hn2] at hny; cases hny
            cases ru with
            | @l a xs _ f0 hh rs =>
              have hlt : n < xs.length := by rw [rs.length]; exact ixN_lt hj
              refine .inl ⟨a, xs, j, xs[n], rfl, rfl, .of hh, atI_of rs.length hj (List.getElem?_eq_getElem hlt), ?_⟩
              refine P2 xs[n] F2 H2 [] (rel2.less fun c => by simp only [List.nil_append, List.count_append]; omega) ⟨rfl, x, hx, nav_snoc hn2 ?_⟩ Sub.refl SubF.refl
              simp only [navV, hh, List.getElem?_eq_getElem hlt]
          · obtain ⟨x', y, fu, hx', hny, ru, nbu, _, _, _⟩ := rel2.lens (ft := fk) (by simpa using eo)
            rw [hx] at hx'; cases hx'
            rw [hn2] at hny; cases hny
            cases ru with
            | @tp a xs _ f0 hh rs =>
              have hh := (rel2.nsub.trans rel2.sub).eq hh rfl
              have hlt : n < xs.length := by rw [rs.length]; exact ixN_lt hj
              refine .inr (.inl ⟨a, xs, j, xs[n], rfl, rfl, .of hh, atI_of rs.length hj (List.getElem?_eq_getElem hlt), ?_⟩)
              refine P2 xs[n] F2 H2 [] (rel2.less fun c => by simp only [List.nil_append, List.count_append]; omega) ⟨rfl, x, hx, nav_snoc hn2 ?_⟩ Sub.refl SubF.refl
              simp only [navV, hh, List.getElem?_eq_getElem hlt]
        · exact P2.elim
      · exact P2.elim
    · exact P1.elim
  · cases c
theorem okp_fl {p : Pl} {f : String} (hp : OkPl G p) : OkPl G (.fl p f) := by
  intro X W b e g c
  simp only [chkPl] at c
  split at c
  · rename_i o n pos
    rw [Bool.and_eq_true, decide_eq_true_eq] at c
    obtain ⟨rfl, c⟩ := c
    obtain ⟨hpe, hba⟩ := hp X W b o g c
    refine ⟨PE.imp (pe_fld hpe (hba _)) fun σ H Q h => ?_, fun n => rfl⟩
    obtain ⟨B, F, Γ, tmp, rel, P⟩ := h
    simp only [evPl] at P
    refine ⟨B, F, Γ, tmp, rel, (Post.bind (rep := rPl σ) (fp := []) P).imp ?_⟩
    rintro v1 H1 ⟨q, Γ1, F1, fp1, rel1, ⟨rfl, x, hx, hn1⟩, sH1, sF1, P1⟩
    have rel1 : Rel X.K B F1 H1 σ Γ1 tmp := by simpa using rel1
    split at P1
    · rename_i c' ns ts eg
      split at P1
      · rename_i k ek
        obtain ⟨x', y, fu, hx', hny, ru, nbu, _, _, _⟩ := rel1.lens (ft := []) (by simpa using eg)
        rw [hx] at hx'; cases hx'
        rw [hn1] at hny; cases hny
        cases ru with
        | @ob a dx fs _ _ xs _ f0 hc hh hn hxs rs =>
          subst hxs
          have hl := lookup_ix hn ek
          have hk : k < (fs.map Prod.snd).length := by
            have h1 : k < ns.length := by
              unfold fIx at ek
              exact (List.findIdx?_eq_some_iff_getElem.mp ek).1
            have h2 : fs.length = ns.length := by
              have := congrArg List.length hn
              simpa using this
            rw [List.length_map, h2]; exact h1
          rw [List.getElem?_eq_getElem hk] at hl
          have hf : f ∈ ns := by
            unfold fIx at ek
            obtain ⟨h1, h2, _⟩ := List.findIdx?_eq_some_iff_getElem.mp ek
            have : ns[k] = f := eq_of_beq h2
            rw [← this]; exact List.getElem_mem h1
          refine ⟨a, _, dx, fs, _, rfl, hh, hc.cls, hc.no f hf, hl, ?_⟩
          refine P1 _ F1 H1 [] (by simpa using rel1) ⟨rfl, x, hx, nav_snoc hn1 ?_⟩ Sub.refl SubF.refl
          simp only [navV, hh, hl]
      · exact P1.elim
    · exact P1.elim
  · cases c
theorem sndPl (G : Glob) : ∀ p : Pl, OkPl G p
  | .nm i => okp_nm i
  | .ix p e => okp_ix (sndPl G p) (snd G e)
  | .fl p f => okp_fl (sndPl G p)
end
end Tv

namespace Tv
open PySem PySem.Spec PyProof.Rows L2

theorem putΓ_ok {K : W.Frag} {G : Glob} {W : WX} {B : Base} {F : FF} {Γ : Env} {q : Pth} {o : Option T} {D : Ends} (P : PostS K G W B F (putΓ Γ q o) D) : ∃ t, o = some t ∧ ∀ σ F' H', Rel K B F' H' σ (setΓ Γ q t) [] → Pin G σ → SubF F F' → D.nx σ H' := by
  unfold putΓ at P
  split at P
  · exact ⟨_, rfl, P⟩
  · exact P.elim
theorem putO_ok {K : W.Frag} {G : Glob} {W : WX} {B : Base} {F : FF} {Γ : Env} {i : Nat} {o : Option T} {D : Ends} (P : PostS K G W B F (putO Γ i o) D) : ∃ t, o = some t ∧ ∀ σ F' H', Rel K B F' H' σ (Γ.set i (some t)) [] → Pin G σ → SubF F F' → D.nx σ H' := by
  unfold putO at P
  split at P
  · exact ⟨_, rfl, P⟩
  · exact P.elim
theorem isLs_of {Γ : Env} {q : Pth} (h : isLs Γ q = true) : ∃ ts, getΓ Γ q = some (.l ts) := by
  unfold isLs at h
  split at h
  · rename_i ts e; exact ⟨ts, e⟩
  · cases h
theorem isDs_of {Γ : Env} {q : Pth} (h : isDs Γ q = true) : ∃ t ks ts, getΓ Γ q = some (.dc t ks ts) := by
  unfold isDs at h
  split at h
  · rename_i t ks ts e; exact ⟨t, ks, ts, e⟩
  · cases h
def OkS (G : Glob) (m : S) : Prop := ∀ X W b st, Gd X G W b → b.blk = false → chkS X.N X.env.scope b m st = true → FreeOf G m.own → PS X st (TMS X.K X.H_0 G W (evS G.cl G.con m))
def OkSs (G : Glob) (m : Ss) : Prop := ∀ X W b st, Gd X G W b → b.blk = false → chkSs X.N X.env.scope b m st = true → PSs X st (TMS X.K X.H_0 G W (evSs G.cl G.con m))
theorem PS.imp {X : Cx} {e : Stmt} {t t' : TS} (h : PS X e t) (i : ∀ D σ H, t' D σ H → t D σ H) : PS X e t' := ⟨fun pins s σ H D I q => h.run pins s σ H D I (i D σ H q)⟩
theorem PSs.imp {X : Cx} {e : List Stmt} {t t' : TS} (h : PSs X e t) (i : ∀ D σ H, t' D σ H → t D σ H) : PSs X e t' := ⟨fun pins s σ H D I q => h.run pins s σ H D I (i D σ H q)⟩
theorem chk_comp {N sc b m} {v : Expr} (c : chkE N sc b m v = true) (h : notComp v = false) : ∃ own tg it co e, m = .lc own tg it co e := by
  cases m with
  | lc own tg it co e => exact ⟨_, _, _, _, _, rfl⟩
  | _ => exfalso; cases v <;> first | (cases h; done) | (cases c; done) | (simp [notComp, compScope] at h; done) | (simp [chkE, chkName, isGl] at c; done)
theorem swB_true {v : Expr} {y : Str} {py : Pos} {env : PySem.Env} (h : swB v y py env = true) : env.kindOf y = some .local ∧ notComp v = false := by
  unfold swB at h
  unfold notComp
  split at h
  · rename_i s e
    simp only [Bool.and_eq_true, beq_iff_eq] at h
    exact ⟨h.1.1.2, by rw [e]; rfl⟩
  · cases h
section
variable {G : Glob}
theorem set_read {K : W.Frag} {X0 : Hp} {W : WX} {i : Nat} {e : E} (hp : FreeOf G [i]) : ∀ D σ H, TMS K X0 G W (evS G.cl G.con (.set i e)) D σ H → tAsg (TE' K G W e) (gName i) D σ H := by
  rintro D σ H ⟨B, F, Γ, hz, rel, P⟩
  simp only [evS] at P
  refine ⟨B, F, Γ, [], rel, (P.lift hz.2).imp ?_⟩
  rintro v H' ⟨t, Γ', F', fp, r1, rt, sH, sF, P1⟩
  split at P1
  · rename_i hc
    rw [Bool.and_eq_true, decide_eq_true_eq] at hc
    exact P1 _ F' H' (Rel.store (tmp := []) (by simpa using r1) rt hc.1 hc.2) (hz.2.set hp) SubF.refl
  · exact P1.elim
theorem oks_set0 {i : Nat} {e : E} {m : S} (hc : ∀ N sc b st, chkS N sc b m st = true → chkS N sc b (.set i e) st = true) (ho : m.own = [i]) (hr : FreeOf G [i] → ∀ (K : W.Frag) (X0 : Hp) (W : WX) D σ H, TMS K X0 G W (evS G.cl G.con m) D σ H → tAsg (TE' K G W e) (gName i) D σ H) : OkS G m := by
  intro X W b st g hb c hp
  replace c := hc _ _ _ _ c
  simp only [chkS] at c
  split at c
  · rename_i y py v pos
    rw [Bool.and_eq_true] at c
    have c1 : (decide (X.N[i]? = some y) && stB X.env.scope b y) = true := c.1
    rw [Bool.and_eq_true, decide_eq_true_eq] at c1
    cases hs : swB v y py X.env with
    | false => exact PS.imp (ps_set g.nd c1.1 (stB_loc c1.2) ((snd G e).pe X W b v g c.2) (by rw [sw_name, hs]) (stB_fn g c1.2)) (hr (ho ▸ hp) X.K X.H_0 W)
    | true =>
      obtain ⟨k1, k2⟩ := swB_true hs
      obtain ⟨own, tg, it, co, e', rfl⟩ := chk_comp c.2 k2
      obtain ⟨x, t, iter, ifs, scope, pos', rfl, h1, h2, h3, h4, h5, h6, h7, h8⟩ := chk_lc c.2
      have L := lc_parts (sndI G it) (sndC G co) (snd G e') g h1 h3 h5 h7 h8
      refine PS.imp (ps_setLc g.calm g.nd c1.1 k1 (by rw [sw_name, hs]) L.hi L.ok L.hg L.ht L.he (L.hs _)) fun D σ H h => ?_
      have := lc_read h2 h6 σ H _ (hr (ho ▸ hp) X.K X.H_0 W D σ H h)
      rw [h4]
      exact this
  · cases c
theorem oks_set {i : Nat} {e : E} : OkS G (.set i e) := oks_set0 (fun _ _ _ _ h => h) rfl fun hp K X0 W => set_read hp
theorem setF_read {K : W.Frag} {X0 : Hp} {W : WX} {i : Nat} {e : E} (hp : FreeOf G [i]) : ∀ D σ H, TMS K X0 G W (evS G.cl G.con (.setF i e)) D σ H → tAsg (TE' K G W e) (gName i) D σ H := by
  rintro D σ H ⟨B, F, Γ, hz, rel, P⟩
  simp only [evS] at P
  refine ⟨B, F, Γ, [], rel, (P.lift hz.2).imp ?_⟩
  rintro v H' ⟨t, Γ', F', fp, r1, rt, sH, sF, P1⟩
  split at P1
  · rename_i d ed
    split at P1
    · rename_i hi
      obtain ⟨rd, nb⟩ := fz_ok ed r1 rt
      have r2 := r1.freezeTmp (f1 := fp) (g := []) fun a => by simp
      exact P1 _ _ H' (Rel.store (f1 := []) (tmp := []) r2 rd nb hi) (hz.2.set hp) (addF_sub r1.sub r1.nsub)
    · exact P1.elim
  · exact P1.elim
theorem oks_setF {i : Nat} {e : E} : OkS G (.setF i e) := oks_set0 (fun _ _ _ _ h => h) rfl fun hp K X0 W => setF_read hp
theorem seqT_ok {K : W.Frag} {F : FF} {H : Hp} {x : V} {t : T} {f : List Addr} {ts : List T} (e : seqT t = some ts) (hF : Hs F H) (r : RpT K F H x t f) : ∃ a xs g, x = .ref a ∧ (SqL K H a xs ∨ SqT K H a xs) ∧ RpTs K F H xs ts g ∧ ∀ c, g.count c ≤ f.count c := by
  have : asQ t = some ts := by
    unfold seqT at e
    split at e <;> cases e <;> rfl
  exact asQ_ok this hF r
theorem oks_setT {is : List Nat} {e : E} : OkS G (.setT is e) := by
  intro X W b st g hb c hp
  simp only [chkS] at c
  split at c
  · rename_i es k p v pos
    simp only [Bool.and_eq_true, Bool.not_eq_true'] at c
    obtain ⟨⟨c1, c2⟩, c3⟩ := c
    obtain ⟨q, l, l2, f⟩ := pg_sts g c1
    have pg : PG X (.Tuple es k p) (fun v σ H Q => gTup X.K is.length (gNames is) v σ H Q ∨ gLst X.K is.length (gNames is) v σ H Q) :=
      ⟨fun pins s σ H v u Q I r h => h.elim ((pg_tup g.calm q l2 f).run pins s σ H v u Q I r) ((pg_lst g.calm q l2 f).run pins s σ H v u Q I r)⟩
    refine PS.imp (ps_asg ((snd G e).pe X W b v g c2) pg sw_tup (swst_tup c3) rfl) ?_
    rintro D σ H ⟨B, F, Γ, hz, rel, P⟩
    simp only [evS] at P
    refine ⟨B, F, Γ, [], rel, (P.lift hz.2).imp ?_⟩
    rintro v H' ⟨t, Γ', F', fp, r1, rt, sH, sF, P1⟩
    split at P1
    · rename_i ds ed
      split at P1
      · rename_i nb
        split at P1
        · rename_i Γ2 es2
          obtain ⟨a, xs, g', rfl, hq, rs, cg⟩ := seqT_ok ed r1.hs rt
          obtain ⟨q1, q2⟩ := setSlots_ok (Q := D.nx) (tmp := []) es2 (r1.less fun c => by have := cg c; simp only [List.append_nil]; exact this) rs nb fun σ' r' hw => P1 σ' _ H' r' (hz.2.wiped hp hw) SubF.refl
          rcases hq with hq | hq
          · exact .inr ⟨_, _, rfl, hq, q2, q1⟩
          · exact .inl ⟨_, _, rfl, hq, q2, q1⟩
        · exact P1.elim
      · exact P1.elim
    · exact P1.elim
  · cases c

/-! ### lists in their places -/
/-- the list at a place, ready to be written; ft: what is in hand -/
theorem Rel.lstAt {K : W.Frag} {B : Base} {F : FF} {H : Hp} {σ : L2.St} {Γ : Env} {tmp ft : List Addr} {q : Pth} {us : List T} (r : Rel K B F H σ Γ (ft ++ tmp)) (e : getΓ Γ q = some (.l us)) : ∃ (x : V) (a : Addr) (xs : List V) (f0 : List Addr), σ[q.1]? = some (some x) ∧ navV H x q.2 = some (.ref a) ∧ H a = some (.lst xs) ∧ RpTs K F H xs us f0 ∧ T.noBs us = true ∧ (∀ c : Addr, (a :: f0).count c + ft.count c ≤ 1) ∧
    ∀ {zs : List V} {ws : List T} {g' fx : List Addr}, RpTs K F H zs ws g' → T.noBs ws = true → (∀ c, g'.count c + fx.count c ≤ f0.count c + ft.count c) → Rel K B F (upd H a (.lst zs)) σ (setΓ Γ q (.l ws)) (fx ++ tmp) := by
  obtain ⟨x, y, fu, h1, h2, h3, h4, h5, h6, h7⟩ := r.lens e
  cases h3 with
  | @l a xs _ f0 hh rs =>
    refine ⟨x, a, xs, f0, h1, h2, hh, rs, by simpa [T.noB] using h4, h5, fun {zs ws g' fx} rz nz hc => ?_⟩
    have na : ∀ c ∈ g', c ≠ a := fun c m z => by
      subst z
      have e1 := List.count_pos_iff.mpr m
      have e2 := hc c
      have e3 := h5 c
      rw [List.count_cons_self] at e3
      omega
    refine h7 (a := a) (o := .lst zs) (u' := .l ws) (fu' := a :: g') (by simp) rfl (.l upd_same (rz.frame SubF.refl nz fun c hc => upd_ne (na c hc))) (by simpa [T.noB] using nz) fun c => ?_
    have := hc c
    simp only [List.count_cons]; omega
theorem Rel.dicAt {K : W.Frag} {B : Base} {F : FF} {H : Hp} {σ : L2.St} {Γ : Env} {tmp ft : List Addr} {q : Pth} {t : Bool} {ks : List D} {us : List T} (r : Rel K B F H σ Γ (ft ++ tmp)) (e : getΓ Γ q = some (.dc t ks us)) : ∃ (x : V) (a : Addr) (o : HO) (xs : List V) (f0 : List Addr), σ[q.1]? = some (some x) ∧ navV H x q.2 = some (.ref a) ∧ Rd H a o ∧ DH t o ks xs ∧ RpTs K F H xs us f0 ∧ T.noBs us = true ∧ (∀ c : Addr, (a :: f0).count c + ft.count c ≤ 1) ∧ F.f a = none ∧ B.H0 a = none ∧
    ∀ {o' : HO} {ks' : List D} {zs : List V} {ws : List T} {g' fx : List Addr}, DH t o' ks' zs → RpTs K F H zs ws g' → T.noBs ws = true → (∀ c, g'.count c + fx.count c ≤ f0.count c + ft.count c) → Rel K B F (upd H a o') σ (setΓ Γ q (.dc t ks' ws)) (fx ++ tmp) := by
  obtain ⟨x, y, fu, h1, h2, h3, h4, h5, h6, h7⟩ := r.lens e
  cases h3 with
  | @dc a _ o _ xs _ f0 hh hq rs =>
    have k := h6 a (by simp)
    refine ⟨x, a, o, xs, f0, h1, h2, hh, hq, rs, by simpa [T.noB] using h4, h5, k.1, k.2, fun {o' ks' zs ws g' fx} hd rz nz hc => ?_⟩
    have na : ∀ c ∈ g', c ≠ a := fun c m z => by
      subst z
      have e1 := List.count_pos_iff.mpr m
      have e2 := hc c
      have e3 := h5 c
      rw [List.count_cons_self] at e3
      omega
    refine h7 (a := a) (o := o') (u' := .dc t ks' ws) (fu' := a :: g') (by simp) (by cases hd <;> rfl) (.dc (.inl upd_same) hd (rz.frame SubF.refl nz fun c hc => upd_ne (na c hc))) (by simpa [T.noB] using nz) fun c => ?_
    have := hc c
    simp only [List.count_cons]; omega
theorem asg_of {N sc b m} {k : Expr} {p : Pos} (h : chkE N sc b m k = true) : ∀ (o : Expr) (env : PySem.Env) (v : Value), assign (.Subscript o k p) env v = (do
      let ov ← holding [v] (eval o env)
      let iv ← holding [v, ov] (eval k env)
      standAt p
      holding [v, ov, iv] (setItem ov iv v)
      release [v, ov, iv] []) := by
  cases k with
  | Slice a c d p => rw [chk_slice] at h; cases h
  | _ => intros; rfl
theorem augst_of {N sc b m} {k : Expr} (h : chkE N sc b m k = true) : ∀ ov iv new, augStore k ov iv new = (do holding [new, ov, iv] (setItem ov iv new); release [new, ov, iv] []; pure .next) := by
  cases k with
  | Slice a c d p => rw [chk_slice] at h; cases h
  | _ => intros; rfl

/-! ### place[i] = e -/
theorem oks_sto {p : Pl} {ix e : E} : OkS G (.sto p ix e) := by
  intro X W b st g hb c hp
  simp only [chkS] at c
  split at c
  · rename_i o k po v pos
    simp only [Bool.and_eq_true] at c
    obtain ⟨⟨c1, c2⟩, c3⟩ := c
    refine PS.imp (ps_asg ((snd G e).pe X W b v g c3) (pg_sub (sndPl G p X W b o g c1).1 ((snd G ix).pe X W b k g c2) set_list (asg_of c2 _ _)) sw_sub swst_sub rfl) ?_
    rintro D σ H ⟨B, F, Γ, hz, rel, P⟩
    simp only [evS] at P
    refine ⟨B, F, Γ, [], rel, (P.lift hz.2).imp ?_⟩
    rintro v1 H1 ⟨t, Γ1, F1, ft, r1, rt, sH1, sF1, P1⟩
    refine ⟨B, F1, Γ1, ft, r1, (P1.liftI (rep := rPl σ) hz.2).imp ?_⟩
    rintro v2 H2 ⟨q, Γ2, F2, fp2, r2, ⟨rfl, x, hx, hn⟩, sH2, sF2, P2⟩
    have r2 : Rel X.K B F2 H2 σ Γ2 ft := by simpa using r2
    split at P2
    · refine ⟨B, F2, Γ2, ft, r2, (P2.liftT hz.2).imp ?_⟩
      rintro v3 H3 ⟨tk, Γ3, F3, fk, r3, rk, sH3, sF3, P3⟩
      obtain ⟨t', e', Q⟩ := putΓ_ok P3
      unfold stoT at e'
      split at e'
      · rename_i ts es
        obtain ⟨n, h1, h2⟩ := Option.bind_eq_some_iff.mp e'
        obtain ⟨j, rfl, h3⟩ := ixT1_of h1
        split at h2
        · rename_i nb
          cases h2
          have rt2 := (rt.grow sF2 sH2).grow sF3 sH3
          obtain ⟨x', a, xs, f0, hx', hn', hh, rs, nbs, cnt, wr⟩ := Rel.lstAt (ft := ft) (tmp := []) (r3.less fun c => by simp only [List.count_append, List.count_nil]; omega) es
          rw [hx] at hx'; cases hx'
          have := nav_mono sH3 hn
          rw [this] at hn'; cases hn'
          refine ⟨a, xs, j, n, rfl, int_inv' rk, hh, ixN_len rs.length.symm h3, ?_⟩
          obtain ⟨x0, f1, g1, _, _, k3, _⟩ := rs.at n (t := ts[n]'(ixN_lt h3)) (List.getElem?_eq_getElem (ixN_lt h3))
          obtain ⟨g', q1, q2⟩ := RpTs.set n rs rt2
          exact Q _ F3 _ (by simpa using wr (fx := []) q1 (noBs_set nbs nb) fun c => by have := q2 c; simp only [List.count_nil]; omega) hz.2 SubF.refl
        · cases h2
      · cases e'
    · exact P2.elim
  · cases c
end
end Tv

namespace Tv
open PySem PySem.Spec PyProof.Rows L2

/-! ### d[k] = e -/
/-- what was locked and is none of the callers' may be unlocked -/
theorem PE.unlock {X : Cx} {e : Expr} {t : TE} (h : PE X e t) : PE X e (fun σ H Q => t σ H fun v H1 => Q v H1 ∨ ∃ a o u, H1 a = some (.frz o u) ∧ (∀ o' u', X.H_0 a ≠ some (.frz o' u')) ∧ Q v (upd H1 a u)) := by
  refine ⟨fun pins s σ H Q I q => ?_⟩
  refine thn (h.run pins s σ H _ I q) fun v s1 ⟨x, H1, I1, r, q⟩ => ?_
  rcases q with q | ⟨a, o, u, e, n, q⟩
  · exact ⟨x, H1, I1, r, q⟩
  · exact ⟨x, _, I1.unlock e n, r, q⟩
section
variable {κ : Type} [DecidableEq κ] {emb : κ → D} {K : W.Frag} {F : FF} {H : Hp}
theorem nodup_snoc {α : Type} {xs : List α} {x : α} (h : xs.Nodup) (n : x ∉ xs) : (xs ++ [x]).Nodup := by
  rw [List.nodup_append]
  refine ⟨h, by simp, fun a ha b hb => ?_⟩
  rw [List.mem_singleton] at hb
  subst hb
  exact fun e => n (e ▸ ha)
theorem dput_emb (he : ∀ a b, eqD (emb a) (emb b) = decide (a = b)) (k : κ) {y : V} {u : T} {kvs : List (κ × V)} {ts : List T} {g fu : List Addr} (nd : (kvs.map Prod.fst).Nodup) (r : RpTs K F H (kvs.map Prod.snd) ts g) (h : RpT K F H y u fu) (nbs : T.noBs ts = true) (nbu : u.noB = true) :
    (∃ g', RpTs K F H ((putK kvs k y).map Prod.snd) (dPut (kvs.map fun p => emb p.1) ts (emb k) u).2 g' ∧ ∀ c, g'.count c ≤ g.count c + fu.count c) ∧ (dPut (kvs.map fun p => emb p.1) ts (emb k) u).1 = (putK kvs k y).map (fun p => emb p.1) ∧ ((putK kvs k y).map Prod.fst).Nodup ∧
      T.noBs (dPut (kvs.map fun p => emb p.1) ts (emb k) u).2 = true ∧ ∀ (P : κ → Bool), (kvs.all fun p => P p.1) = true → P k = true → ((putK kvs k y).all fun p => P p.1) = true := by
  have hd := dhas_emb he k kvs
  unfold putK dPut
  cases c : (kvs.any fun kv => decide (kv.1 = k)) with
  | true =>
    rw [c] at hd
    rw [hd]
    simp only [if_true]
    have k1 : (kvs.map fun kv => if kv.1 = k then (kv.1, y) else kv).map Prod.fst = kvs.map Prod.fst := by
      rw [List.map_map]
      apply List.map_congr_left
      intro p _
      show (if p.1 = k then (p.1, y) else p).1 = p.1
      split <;> rfl
    refine ⟨RpTs.zipUpd he k nd r h, ?_, ?_, ?_, fun P hP hk => ?_⟩
    · have : (kvs.map fun p => emb p.1) = (kvs.map Prod.fst).map emb := by rw [List.map_map]; rfl
      rw [this, ← k1, List.map_map]; rfl
    · rw [k1]; exact nd
    · rw [noBs_all, List.all_map, List.all_eq_true]
      intro p hp
      show (if eqD p.1 (emb k) = true then u else p.2).noB = true
      split
      · exact nbu
      · rw [noBs_all, List.all_eq_true] at nbs
        exact nbs _ (List.of_mem_zip hp).2
    · rw [List.all_eq_true] at hP ⊢
      intro p hp
      obtain ⟨p0, hp0, rfl⟩ := List.mem_map.mp hp
      split
      · exact hP p0 hp0
      · exact hP p0 hp0
  | false =>
    rw [c] at hd
    rw [hd]
    simp only [Bool.false_eq_true, if_false]
    refine ⟨⟨g ++ (fu ++ []), ?_, fun c => by simp only [List.count_append, List.count_nil]; omega⟩, by rw [List.map_append]; rfl, ?_, ?_, fun P hP hk => ?_⟩
    · rw [List.map_append]
      exact r.append (.cons h .nil)
    · rw [List.map_append]
      refine nodup_snoc nd fun hm => ?_
      obtain ⟨p, hp, e⟩ := List.mem_map.mp hm
      have : (kvs.any fun kv => decide (kv.1 = k)) = true := List.any_eq_true.mpr ⟨p, hp, decide_eq_true e⟩
      rw [c] at this; cases this
    · rw [noBs_append, nbs]; simp [T.noBs, nbu]
    · rw [List.all_append, hP]; simp [hk]
end
theorem dict_put {K : W.Frag} {F : FF} {H : Hp} {a : Addr} {o : HO} {t : Bool} {ks : List D} {xs : List V} {ts : List T} {g fu : List Addr} {y z : V} {d : D} {u : T} (ho : H a = some o) (q : DH t o ks xs) (r : RpTs K F H xs ts g) (ry : RpD K H y d) (hk : keyFits t d = true) (rz : RpT K F H z u fu) (hl : ks.length < LIM)
    (nbs : T.noBs ts = true) (nbu : u.noB = true) : ∃ o' zs g', DPut H a y z (upd H a o') ∧ DH t o' (dPut ks ts d u).1 zs ∧ RpTs K F H zs (dPut ks ts d u).2 g' ∧ T.noBs (dPut ks ts d u).2 = true ∧ ∀ c, g'.count c ≤ g.count c + fu.count c := by
  cases q with
  | k kvs hok nd =>
    have hk : d.kyB = true := hk
    obtain ⟨k, rfl, rfl, hkk⟩ := key_of1 ry hk
    obtain ⟨⟨g', k1, k2⟩, k3, k4, k5, k6⟩ := dput_emb eqD_key1 k nd r rz nbs nbu
    refine ⟨_, _, g', .inl ⟨kvs, k, ho, rfl, by rw [List.length_map] at hl; rw [sizeLine_eq]; exact hl, rfl⟩, ?_, k1, k5, k2⟩
    rw [k3]
    exact .k _ (k6 (fun p => keyOk p) hok hkk) k4
  | t kvs hok nd =>
    cases d with
    | tup ds =>
      have hk : ds.all D.kyB = true := hk
      cases ry with
      | tup hb rs =>
        obtain ⟨k, rfl, rfl, hkk⟩ := keys_of1 rs hk
        obtain ⟨⟨g', k1, k2⟩, k3, k4, k5, k6⟩ := dput_emb (emb := fun k : List Key => D.tup (k.map keyD1)) eqD_keys k nd r rz nbs nbu
        refine ⟨_, _, g', .inr ⟨kvs, k, _, ho, rfl, hb, by rw [List.length_map] at hl; rw [sizeLine_eq]; exact hl, rfl⟩, ?_, k1, k5, k2⟩
        rw [k3]
        exact .t _ (k6 (fun p => p.all keyOk) hok hkk) k4
    | _ => cases hk
theorem RpD.upd_ne {K : W.Frag} {H : Hp} {a : Addr} {o : HO} {y : V} {d : D} (r : RpD K H y d) (h : keyFits true d = true ∨ keyFits false d = true) (hn : ∀ xs, H a ≠ some (.tup xs)) : RpD K (upd H a o) y d := by
  have fl : ∀ {xs : List V} {ds : List D}, RpDs K H xs ds → ds.all D.kyB = true → RpDs K (upd H a o) xs ds := by
    intro xs ds r h
    obtain ⟨k, rfl, rfl, hk⟩ := keys_of1 r h
    clear r h
    induction k with
    | nil => exact .nil
    | cons k ks ih =>
      rw [List.all_cons, Bool.and_eq_true] at hk
      refine .cons ?_ (ih hk.2)
      cases k with
      | inl i => exact .int i
      | inr z => exact .str z hk.1
  cases r with
  | int i => exact .int i
  | str z e => exact .str z e
  | tup hb rs =>
    rcases h with h | h
    · exact .tup (by rw [L2.upd_ne (fun e => by subst e; exact hn _ hb)]; exact hb) (fl rs h)
    · cases h
  | _ => rcases h with h | h <;> cases h
section
variable {G : Glob}
theorem oks_dsto {p : Pl} {ix e : E} : OkS G (.dsto p ix e) := by
  intro X W b st g hb c hp
  simp only [chkS] at c
  split at c
  · rename_i o k po v pos
    simp only [Bool.and_eq_true] at c
    obtain ⟨⟨c1, c2⟩, c3⟩ := c
    refine PS.imp (ps_dput (by have := g.hu; omega) (sndPl G p X W b o g c1).1 (PE.unlock ((snd G ix).pe X W b k g c2)) ((snd G e).pe X W b v g c3) (by cases v <;> rfl)) ?_
    rintro D σ H ⟨B, F, Γ, hz, rel, P⟩
    simp only [evS] at P
    refine ⟨B, F, Γ, [], rel, (P.lift hz.2).imp ?_⟩
    rintro v1 H1 ⟨t, Γ1, F1, ft, r1, rt, sH1, sF1, P1⟩
    refine ⟨B, F1, Γ1, ft, r1, (P1.liftI (rep := rPl σ) hz.2).imp ?_⟩
    rintro v2 H2 ⟨q, Γ2, F2, fp2, r2, ⟨rfl, x, hx, hn⟩, sH2, sF2, P2⟩
    have r2 : Rel X.K B F2 H2 σ Γ2 ft := by simpa using r2
    split at P2
    · refine ⟨B, F2, Γ2, ft, r2, (P2.liftT hz.2).imp ?_⟩
      rintro v3 H3 ⟨tk, Γ3, F3, fk, r3, rk, sH3, sF3, P3⟩
      obtain ⟨t', e', Q⟩ := putΓ_ok P3
      unfold dstoT at e'
      split at e'
      · rename_i kd ks ts es
        split at e'
        · rename_i hc
          cases e'
          simp only [Bool.and_eq_true, decide_eq_true_eq] at hc
          obtain ⟨⟨nb, hkf⟩, hl⟩ := hc
          have rt2 := (rt.grow sF2 sH2).grow sF3 sH3
          have ryd := r3.rd rk
          obtain ⟨x', a, o0, xs, f0, hx', hn', hrd, hq, rs, nbs, cnt, hf0, hb0, wr⟩ := Rel.dicAt (ft := ft) (tmp := []) (r3.less fun c => by simp only [List.count_append, List.count_nil]; omega) es
          rw [hx] at hx'; cases hx'
          have := nav_mono sH3 hn
          rw [this] at hn'; cases hn'
          rcases hrd with hrd | ⟨ob, hrd⟩
          · left
            obtain ⟨o', zs, g', k1, k2, k3, k4, k5⟩ := dict_put hrd hq rs ryd hkf rt2 hl nbs nb
            refine ⟨a, _, rfl, k1, Q _ F3 _ (by simpa using wr (fx := []) k2 k3 k4 fun c => by have := k5 c; simp only [List.count_nil]; omega) hz.2 SubF.refl⟩
          · right
            refine ⟨a, ob, o0, hrd, fun o' u' e => hz.1 a o' u' e hb0, ?_⟩
            have na : ∀ c, c ∈ f0 ∨ c ∈ ft → c ≠ a := fun c m z => by
              subst z
              have e3 := cnt c
              rw [List.count_cons_self] at e3
              rcases m with m | m
              · have := List.count_pos_iff.mpr m; omega
              · have := List.count_pos_iff.mpr m; omega
            have rs' := rs.frame (H' := upd H3 a o0) SubF.refl nbs fun c hc => L2.upd_ne (na c (.inl hc))
            have rt' := rt2.frame (H' := upd H3 a o0) SubF.refl nb fun c hc => L2.upd_ne (na c (.inr hc))
            have ryd' := ryd.upd_ne (o := o0) (a := a) (by cases kd; exact .inr hkf; exact .inl hkf) (fun xs e => by rw [hrd] at e; cases e)
            obtain ⟨o', zs, g', k1, k2, k3, k4, k5⟩ := dict_put (H := upd H3 a o0) upd_same hq rs' ryd' hkf rt' hl nbs nb
            rw [upd_upd] at k1
            have back : RpTs X.K F3 H3 zs _ g' := k3.frame (H' := H3) SubF.refl k4 fun c hc => by
              have m : c ≠ a := by
                have h1 := k5 c
                have h2 := List.count_pos_iff.mpr hc
                by_cases h3 : 0 < f0.count c
                · exact na c (.inl (List.count_pos_iff.mp h3))
                · exact na c (.inr (List.count_pos_iff.mp (by omega)))
              rw [L2.upd_ne m]
            refine ⟨a, _, rfl, k1, Q _ F3 _ (by simpa using wr (fx := []) k2 back k4 fun c => by have := k5 c; simp only [List.count_nil]; omega) hz.2 SubF.refl⟩
        · cases e'
      · cases e'
    · exact P2.elim
  · cases c

/-! ### place.f = e -/
theorem putF_ok {K : W.Frag} {F : FF} {H : Hp} {f : String} {y : V} {u : T} {fu : List Addr} (h : RpT K F H y u fu) (nbu : u.noB = true) : ∀ {fs : List (Str × V)} {ns : List String} {ts : List T} {g : List Addr}, fs.map Prod.fst = ns.map Str.ofString → RpTs K F H (fs.map Prod.snd) ts g → T.noBs ts = true →
    (putF (Str.ofString f) y fs).map Prod.fst = (putFT ns ts f u).1.map Str.ofString ∧ (∃ g', RpTs K F H ((putF (Str.ofString f) y fs).map Prod.snd) (putFT ns ts f u).2 g' ∧ ∀ c, g'.count c ≤ g.count c + fu.count c) ∧ T.noBs (putFT ns ts f u).2 = true ∧ ∀ n ∈ (putFT ns ts f u).1, n ∈ ns ∨ n = f
  | [], ns, ts, g, e, r, nb => by
    cases ns with
    | cons _ _ => simp at e
    | nil =>
      cases r
      refine ⟨rfl, ⟨fu ++ [], .cons h .nil, fun c => by simp⟩, ?_, fun n hn => .inr (by simpa [putFT, fIx] using hn)⟩
      show T.noBs [u] = true
      simp [T.noBs, nbu]
  | (x, z) :: fs, ns, ts, g, e, r, nb => by
    cases ns with
    | nil => simp at e
    | cons n ns =>
      simp only [List.map_cons, List.cons.injEq] at e
      obtain ⟨rfl, e⟩ := e
      cases r with
      | @cons _ _ t' ts' f1 g1 a b =>
        simp only [T.noBs, Bool.and_eq_true] at nb
        by_cases c : n = f
        · subst c
          have e1 : putFT (n :: ns) (t' :: ts') n u = (n :: ns, u :: ts') := by
            unfold putFT fIx
            rw [List.findIdx?_cons]; simp
          have e2 : putF (Str.ofString n) y ((Str.ofString n, z) :: fs) = (Str.ofString n, y) :: fs := by
            unfold putF; rw [if_pos rfl]
          rw [e1, e2]
          refine ⟨by simp [e], ⟨fu ++ g1, .cons h b, fun c => by simp only [List.count_append]; omega⟩, by simp [T.noBs, nbu, nb.2], fun m hm => .inl hm⟩
        · have cs : ¬ Str.ofString n = Str.ofString f := fun q => c (ofString_inj q)
          have cf : (n == f) = false := beq_eq_false_iff_ne.mpr c
          obtain ⟨k1, ⟨g', k2, k3⟩, k4, k5⟩ := putF_ok h nbu e b nb.2
          have e1 : putFT (n :: ns) (t' :: ts') f u = (n :: (putFT ns ts' f u).1, t' :: (putFT ns ts' f u).2) := by
            unfold putFT fIx
            rw [List.findIdx?_cons]
            simp only [cf, Bool.false_eq_true, if_false]
            cases List.findIdx? (fun x => x == f) ns <;> rfl
          have e2 : putF (Str.ofString f) y ((Str.ofString n, z) :: fs) = (Str.ofString n, z) :: putF (Str.ofString f) y fs := by
            show (if Str.ofString n = Str.ofString f then _ else _) = _
            rw [if_neg cs]
          rw [e1, e2]
          refine ⟨by simp [k1], ⟨f1 ++ g', .cons a k2, fun c => by have := k3 c; simp only [List.count_append]; omega⟩, by simp [T.noBs, nb.1, k4], fun m hm => ?_⟩
          rcases List.mem_cons.mp hm with rfl | hm
          · exact .inl List.mem_cons_self
          · rcases k5 m hm with h | h
            · exact .inl (List.mem_cons_of_mem _ h)
            · exact .inr h
theorem oks_stf {cn : String} {p : Pl} {f : String} {e : E} : OkS G (.stf cn p f e) := by
  intro X W b st g hb c hp
  simp only [chkS] at c
  split at c
  · rename_i o n po v pos
    simp only [Bool.and_eq_true, decide_eq_true_eq, List.contains_iff_mem] at c
    obtain ⟨⟨⟨rfl, c1⟩, c2⟩, c3⟩ := c
    refine PS.imp (ps_fld (sndPl G p X W b o g c2).1 ((snd G e).pe X W b v g c3) sw_att) ?_
    rintro D σ H ⟨B, F, Γ, hz, rel, P⟩
    simp only [evS] at P
    refine ⟨B, F, Γ, [], rel, (P.lift hz.2).imp ?_⟩
    rintro v1 H1 ⟨t, Γ1, F1, ft, r1, rt, sH1, sF1, P1⟩
    refine ⟨B, F1, Γ1, ft, r1, (P1.liftI (rep := rPl σ) hz.2).imp ?_⟩
    rintro v2 H2 ⟨q, Γ2, F2, fp2, r2, ⟨rfl, x, hx, hn⟩, sH2, sF2, P2⟩
    have r2 : Rel X.K B F2 H2 σ Γ2 ft := by simpa using r2
    obtain ⟨t', e', Q⟩ := putΓ_ok P2
    unfold stfT at e'
    split at e'
    · rename_i c' ns ts es
      split at e'
      · rename_i hc
        cases e'
        simp only [Bool.and_eq_true, decide_eq_true_eq, beq_iff_eq] at hc
        obtain ⟨⟨rfl, nb⟩, hl⟩ := hc
        have rt2 := rt.grow sF2 sH2
        obtain ⟨x', y, fu, h1, h2, h3, h4, h5, h6, h7⟩ := Rel.lens (ft := ft) (tmp := []) (by simpa using r2) es
        rw [hx] at h1; cases h1
        rw [hn] at h2; cases h2
        cases h3 with
        | @ob a dx fs _ _ xs _ f0 hc hh hns hxs rs =>
          subst hxs
          have nbs : T.noBs ts = true := by simpa [T.noB] using h4
          obtain ⟨k1, ⟨g', k2, k3⟩, k4, k5⟩ := putF_ok (f := f) rt2 nb hns rs nbs
          have hlen : fs.length < 1000 := by
            have := congrArg List.length hns
            simp only [List.length_map] at this
            omega
          refine ⟨a, _, dx, fs, rfl, hh, hc.cls, g.ats _ c1, hlen, ?_⟩
          have na : ∀ c ∈ g', c ≠ a := fun c m z => by
            subst z
            have e1 := List.count_pos_iff.mpr m
            have e2 := k3 c
            have e3 := h5 c
            rw [List.count_cons_self] at e3
            omega
          have fin := h7 (a := a) (o := .ins (clsA X.K c') dx (putF (Str.ofString f) v1 fs)) (u' := .ob c' (putFT ns ts f t).1 (putFT ns ts f t).2) (fu' := a :: g') (fx := []) (by simp) rfl
            (.ob ⟨hc.cls, fun n hn => (k5 n hn).elim (hc.no n) fun e => by rw [e]; exact g.ats _ c1⟩ upd_same k1 rfl (k2.frame SubF.refl k4 fun c hc => L2.upd_ne (na c hc))) (by simpa [T.noB] using k4) (fun c => by have := k3 c; simp only [List.count_cons, List.count_nil]; omega)
          exact Q _ F2 _ (by simpa using fin) hz.2 SubF.refl
      · cases e'
    · cases e'
  · cases c
end
end Tv

namespace Tv
open PySem PySem.Spec PyProof.Rows L2

section
variable {G : Glob}
theorem name_pe {X : Cx} {i : Nat} {e : Expr} (h : chkName X.N X.env.scope i e = true) : PE X e (tVar i) := by
  obtain ⟨x, pos, rfl, p⟩ := name_of h; exact p
/-! ### name op= e -/
theorem augI_ok {K : W.Frag} {F : FF} {H : Hp} {x : V} {t : T} {f : List Addr} {o : BOp} {i z : Int} (e : augI o i t = some z) (r : RpT K F H x t f) : ∃ j, x = .int j ∧ t = .v (.int j) ∧ ((o = .add ∧ z = i + j) ∨ (o = .sub ∧ z = i - j)) := by
  unfold augI at e
  split at e
  · cases e
    exact ⟨_, (int_inv r).1, rfl, .inl ⟨rfl, rfl⟩⟩
  · cases e
    exact ⟨_, (int_inv r).1, rfl, .inr ⟨rfl, rfl⟩⟩
  · cases e
def ipO : BOp → TIp
  | .add => ipI fun i j => i + j
  | .sub => ipI fun i j => i - j
  | _ => fun _ _ _ _ => False
theorem ip_O {X : Cx} (o : BOp) : PIp X o.op (ipO o) := by
  cases o with
  | add => exact ip_add
  | sub => exact ip_sub
  | _ => exact fun _ _ _ _ _ _ _ _ _ _ _ _ h => h.elim
theorem oks_augV {i : Nat} {o : BOp} {e : E} : OkS G (.augV i o e) := by
  intro X W b st g hb c hp
  simp only [chkS] at c
  split at c
  · rename_i y py op v pos
    simp only [Bool.and_eq_true, decide_eq_true_eq] at c
    obtain ⟨⟨c1, c2⟩, rfl⟩ := c
    have c1' : (decide (X.N[i]? = some y) && stB X.env.scope b y) = true := c1
    rw [Bool.and_eq_true, decide_eq_true_eq] at c1'
    refine PS.imp (ps_aug g.nd c1'.1 (stB_loc c1'.2) ((snd G e).pe X W b v g c2) (ip_O o) (stB_fn g c1'.2)) ?_
    rintro D σ H ⟨B, F, Γ, hz, rel, P⟩
    simp only [evS] at P
    split at P
    · rename_i x ex
      obtain ⟨xv, fx, hv, rx, _⟩ := rel.get ex
      obtain ⟨rfl, _⟩ := int_inv rx
      refine ⟨_, hv, B, F, Γ, [], rel, (P.lift hz.2).imp ?_⟩
      rintro v1 H1 ⟨t, Γ1, F1, ft, r1, rt, sH1, sF1, P1⟩
      obtain ⟨t', e', Q⟩ := putO_ok P1
      obtain ⟨z, e1, rfl⟩ := Option.map_eq_some_iff.mp e'
      obtain ⟨j, rfl, rfl, h⟩ := augI_ok e1 rt
      have hi : i < Γ1.length := by
        rw [← r1.length]
        exact (List.getElem?_eq_some_iff.mp hv).1
      have r2 : Rel X.K B F1 H1 σ Γ1 [] := r1.less fun c => by simp
      have fin := Q _ F1 H1 (r2.storeV (.int z) hi) (hz.2.set hp) SubF.refl
      rcases h with ⟨rfl, rfl⟩ | ⟨rfl, rfl⟩
      · exact ⟨_, _, rfl, rfl, fin⟩
      · exact ⟨_, _, rfl, rfl, fin⟩
    · exact P.elim
  · cases c
theorem get_list {X : Cx} : PGet X (rIxL X.K) := by
  intro pins s σ H o i ov iv Q I rx ry h
  obtain ⟨p, xs, i, z, rfl, rfl, hq, he, q⟩ := h
  cases rx
  obtain ⟨t, rfl⟩ := ry
  obtain ⟨its, r, pl, hz⟩ := I.list hq
  obtain ⟨j, h1, h2, h3, h4, h5⟩ := atI_get he
  obtain ⟨w, ew, rw'⟩ := r.get h2
  have hl := r.length
  have hn := line63
  have fin : EP X pins σ Q w s := ⟨z, H, I, rw', q⟩
  by_cases h0 : 0 ≤ i
  · have hj : i.toNat = j := by
      rw [seqIndex_of h0 h5] at h1
      exact Option.some.inj h1
    exact wpAny_getItem_list pl.isList h0 (by omega) (by rw [hj]; simpa using ew) fin
  · have hj : (i + (its.toArray.size : Int)).toNat = j := by
      rw [seqIndex_neg (by omega) h4] at h1
      rw [List.size_toArray, ← hl]
      exact Option.some.inj h1
    exact wpAny_getItem_list_neg pl.isList (by omega) (by rw [List.size_toArray] <;> omega) (by omega) (by rw [hj]; simpa using ew) fin
theorem slot_get {Γ : Env} {i : Nat} {t : T} (h : slotT Γ i = some t) : getΓ Γ (i, []) = some t ∧ Γ[i]? = some (some t) := by
  unfold slotT at h
  split at h
  · rename_i u e
    cases h
    refine ⟨?_, e⟩
    unfold getΓ
    rw [e]
    cases t <;> rfl
  · cases h
theorem setΓ_nil {Γ : Env} {i : Nat} {t u : T} (h : Γ[i]? = some (some t)) : setΓ Γ (i, []) u = Γ.set i (some u) := by
  unfold setΓ
  rw [h]
  cases t <;> rfl
theorem oks_augS {i : Nat} {o : BOp} {ix e : E} : OkS G (.augS i o ix e) := by
  intro X W b st g hb c hp
  simp only [chkS] at c
  split at c
  · rename_i x k p op v pos
    simp only [Bool.and_eq_true, decide_eq_true_eq] at c
    obtain ⟨⟨⟨c1, c2⟩, c3⟩, rfl⟩ := c
    refine PS.imp (ps_augS (name_pe c1) ((snd G ix).pe X W b k g c2) get_list ((snd G e).pe X W b v g c3) (ip_O o) set_list (augst_of c2)) ?_
    rintro D σ H ⟨B, F, Γ, hz, rel, P⟩
    simp only [evS] at P
    split at P
    · rename_i hl
      obtain ⟨ts0, e0⟩ := isLs_of hl
      obtain ⟨x0, a0, xs0, g0, hv0, hn0, hh0, _⟩ := Rel.lstAt (ft := []) (tmp := []) (by simpa using rel) e0
      rw [nav_nil] at hn0; cases hn0
      refine ⟨_, hv0, B, F, Γ, [], rel, (P.lift hz.2).imp ?_⟩
      rintro v1 H1 ⟨tk, Γ1, F1, fk, r1, rk, sH1, sF1, P1⟩
      split at P1
      · rename_i xi gi
        unfold getI at gi
        split at gi
        · rename_i ts1 es1
          split at gi
          · rename_i xi' gi2
            cases gi
            obtain ⟨n, h1, h2⟩ := Option.bind_eq_some_iff.mp gi2
            obtain ⟨j, rfl, h3⟩ := ixT1_of h1
            obtain ⟨eg1, es1'⟩ := slot_get es1
            obtain ⟨x1, a1, xs1, g1, hv1, hn1, hh1, rs1, _⟩ := Rel.lstAt (ft := []) (tmp := []) r1.nil eg1
            rw [nav_nil] at hn1; cases hn1
            have ea : a1 = a0 := by rw [hv0] at hv1; cases hv1; rfl
            subst ea
            obtain ⟨y, gy, hy, ry, _⟩ := RpTs.get n rs1 h2
            obtain rfl := int_inv' ry
            refine ⟨a1, xs1, j, _, rfl, int_inv' rk, SqL.of hh1, atI_of rs1.length h3 hy, B, F1, Γ1, [], r1.nil, (P1.lift hz.2).imp ?_⟩
            rintro v2 H2 ⟨t, Γ2, F2, ft, r2, rt, sH2, sF2, P2⟩
            obtain ⟨t', e', Q⟩ := putO_ok P2
            unfold augT at e'
            split at e'
            · rename_i ts es
              obtain ⟨n', h1', h2'⟩ := Option.bind_eq_some_iff.mp e'
              obtain ⟨j', ej, h3'⟩ := ixT1_of h1'
              cases ej
              obtain ⟨z, e1, rfl⟩ := Option.map_eq_some_iff.mp h2'
              obtain ⟨j2, rfl, rfl, h⟩ := augI_ok e1 rt
              obtain ⟨eg2, es2⟩ := slot_get es
              obtain ⟨x2, a, xs, gg, hv, hn2, hh, rs, nbs, cnt, wr⟩ := Rel.lstAt (ft := []) (tmp := []) r2.nil eg2
              rw [nav_nil] at hn2; cases hn2
              have ea : a = a1 := by rw [hv0] at hv; cases hv; rfl
              subst ea
              have exs : xs = xs1 := by
                have := sH2.eq hh1 rfl
                rw [hh] at this; cases this; rfl
              subst exs
              obtain ⟨g', q1, q2⟩ := RpTs.set n' rs (x := .int z) (t := .v (.int z)) (ft := []) (.v (.int z))
              have fin := wr (fx := []) q1 (noBs_set nbs rfl) fun c => by have := q2 c; simpa using this
              rw [setΓ_nil es2] at fin
              have fin := Q _ F2 _ (by simpa using fin) hz.2 SubF.refl
              have ix := ixN_len rs.length.symm h3'
              rcases h with ⟨rfl, rfl⟩ | ⟨rfl, rfl⟩
              · exact ⟨_, _, rfl, rfl, a, xs, j, n', rfl, int_inv' rk, hh, ix, fin⟩
              · exact ⟨_, _, rfl, rfl, a, xs, j, n', rfl, int_inv' rk, hh, ix, fin⟩
            · cases e'
          · cases gi
        · cases gi
      · exact P1.elim
    · exact P.elim
  · cases c

/-! ### place.m(..) -/
def rMO : MO → V → List V → Hp → VK → Prop
  | .append => rAppend
  | .extend => rExtend
  | .reverse => rReverse
  | .clear => rClear
  | .insert => fun x vs H Q => ∃ (l : Addr) (xs : List V) (i : Int) (y : V), x = .ref l ∧ vs = [.int i, y] ∧ H l = some (.lst xs) ∧ xs.length < sizeLine ∧ 0 ≤ i ∧ i < 2 ^ 63 ∧ Q .non (upd H l (.lst (xs.take i.toNat ++ [y] ++ xs.drop i.toNat)))
def tML (K : W.Frag) (G : Glob) (W : WX) (r : V → List V → Hp → VK → Prop) (p : Pl) (as : Es) : TE := fun σ H Q => TPl K G W p σ H fun x H1 => tyV K "list" x H1 ∧ TA' K G W as σ H1 fun xs H2 => r x xs H2 Q
theorem pe_ml {X : Cx} {W : WX} {b : CP} {id : String} {name : Str} {r : V → List V → Hp → VK → Prop} {p : Pl} {as : Es} {x : Expr} {ap cp : Pos} {ys : List Expr} (g : Gd X G W b) (c1 : ap.endLine = cp.line) (c2 : chkPl X.N X.env.scope b p x = true) (c3 : chkEs X.N X.env.scope b as ys = true) (hn : ys.length < 29)
    (slot : Slot "list" name id) (hty : typeOf (.builtin id) = pure (.type "method_descriptor")) (hm : MtR X id r) : PE X (.Call (.Attribute x name ap) ys [] cp) (tML X.K G W r p as) := by
  have hline : (ap.endLine == cp.line) = true := by rw [c1]; exact beq_self_eq_true _
  obtain ⟨hp, hbase⟩ := sndPl G p X W b x g c2
  have hA := sndEs G as X W b ys g c3
  cases ys with
  | nil =>
    refine PE.imp (pe_bm0 PySem.F.plainAttrs_list slot hty hm hp (hbase _) hline) fun σ H Q h => ?_
    obtain ⟨B, F, Γ, tmp, rel, P⟩ := h
    refine ⟨B, F, Γ, tmp, rel, P.imp ?_⟩
    rintro v H1 ⟨h1, h2⟩
    refine ⟨h1, ?_⟩
    cases as with
    | nil =>
      obtain ⟨B2, F2, Γ2, tmp2, rel2, P2⟩ := h2
      exact P2 [] F2 H1 [] (by simpa using rel2) .nil Sub.refl SubF.refl
    | cons _ _ => simp [chkEs] at c3
  | cons y ys =>
    obtain ⟨f1, f2⟩ := form_of (env := X.env) (pos := cp) c3
    refine pe_bm PySem.F.plainAttrs_list slot hty hm hp hA (hbase _) ?_ hline (star_any c3 _ _ rfl) (plain_of (chkEs_split c3).choose_spec.choose_spec.2.1)
    rw [f1]
    show (true && true && decide ((y :: ys).length + 0 + 0 < 30)) = true
    simp only [Bool.and_self, Bool.true_and, decide_eq_true_eq]
    omega
theorem lstT_ok {K : W.Frag} {F : FF} {H : Hp} {x : V} {t : T} {f : List Addr} {us : List T} (e : lstT t = some us) (hF : Hs F H) (r : RpT K F H x t f) : ∃ a xs g, x = .ref a ∧ H a = some (.lst xs) ∧ RpTs K F H xs us g ∧ ∀ c, g.count c ≤ f.count c := by
  unfold lstT at e
  split at e
  · cases e
    cases r with
    | v r => cases r with
      | lst h r => exact ⟨_, _, [], rfl, hF.sub.eq h rfl, r.toV, fun c => by simp⟩
  · cases e
    cases r with
    | w r => cases r with
      | lst h r => exact ⟨_, _, [], rfl, (hF.nsub.trans hF.sub).eq h rfl, r.toW hF.nsub, fun c => by simp⟩
  · split at e
    · rename_i ha
      cases e
      cases r with
      | b r => cases r with
        | lst h r => exact ⟨_, _, [], rfl, h, (r.imm hF.stf ha).toV, fun c => by simp⟩
    · cases e
  · cases e
    cases r with
    | l h r => exact ⟨_, _, _, rfl, h, r, fun c => by simp only [List.count_cons]; omega⟩
  · cases e
theorem mut_ok {K : W.Frag} {B : Base} {F : FF} {H : Hp} {σ : L2.St} {Γ : Env} {ft : List Addr} {q : Pth} {x v : V} {vs : List V} {ts : List T} {m : MO} {u : T} {D : Ends} (rel : Rel K B F H σ Γ (ft ++ [])) (ra : RpTs K F H vs ts ft) (hx : σ[q.1]? = some (some x)) (hn : navV H x q.2 = some v)
    (e : mutT m (getΓ Γ q) ts = some u) (Q : ∀ F' H', Rel K B F' H' σ (setΓ Γ q u) [] → SubF F F' → D.nx σ H') : rMO m v vs H fun _ H' => D.nx σ H' := by
  unfold mutT at e
  split at e
  · -- append
    rename_i us t eg
    split at e
    · rename_i hc
      rw [Bool.and_eq_true, decide_eq_true_eq] at hc
      cases e
      obtain ⟨x', a, xs, f0, h1, h2, h3, rs, nbs, cnt, wr⟩ := Rel.lstAt (ft := ft) (tmp := []) rel eg
      rw [hx] at h1; cases h1
      rw [hn] at h2; cases h2
      obtain ⟨y, rfl, ry⟩ := rpTs_one ra
      refine ⟨a, xs, y, rfl, rfl, h3, by rw [rs.length, sizeLine_eq]; exact hc.2, ?_⟩
      exact Q F _ (by simpa using wr (fx := []) (rs.append (.cons ry .nil)) (by rw [noBs_append, nbs]; simp [T.noBs, hc.1]) fun c => by simp only [List.count_append, List.count_nil]; omega) SubF.refl
    · cases e
  · -- extend
    rename_i us t eg
    split at e
    · rename_i ws ew
      split at e
      · rename_i hc
        rw [Bool.and_eq_true, decide_eq_true_eq] at hc
        cases e
        obtain ⟨x', a, xs, f0, h1, h2, h3, rs, nbs, cnt, wr⟩ := Rel.lstAt (ft := ft) (tmp := []) rel eg
        rw [hx] at h1; cases h1
        rw [hn] at h2; cases h2
        obtain ⟨y, rfl, ry⟩ := rpTs_one ra
        obtain ⟨b, zs, gz, rfl, hb, rz, cz⟩ := lstT_ok ew rel.hs ry
        refine ⟨a, b, xs, zs, rfl, rfl, h3, hb, by rw [rs.length, rz.length, sizeLine_eq]; exact hc.2, ?_⟩
        exact Q F _ (by simpa using wr (fx := []) (rs.append rz) (by rw [noBs_append, nbs, hc.1]; rfl) fun c => by have := cz c; simp only [List.count_append, List.count_nil]; omega) SubF.refl
      · cases e
    · cases e
  · -- reverse
    rename_i us eg
    cases e
    obtain ⟨x', a, xs, f0, h1, h2, h3, rs, nbs, cnt, wr⟩ := Rel.lstAt (ft := ft) (tmp := []) rel eg
    rw [hx] at h1; cases h1
    rw [hn] at h2; cases h2
    cases ra
    obtain ⟨g', r1, r2⟩ := rs.rev
    refine ⟨a, xs, rfl, rfl, h3, ?_⟩
    exact Q F _ (by simpa using wr (fx := []) r1 (by rw [noBs_all, List.all_reverse, ← noBs_all]; exact nbs) fun c => by have := r2 c; simp only [List.count_nil]; omega) SubF.refl
  · -- clear
    rename_i us eg
    cases e
    obtain ⟨x', a, xs, f0, h1, h2, h3, rs, nbs, cnt, wr⟩ := Rel.lstAt (ft := ft) (tmp := []) rel eg
    rw [hx] at h1; cases h1
    rw [hn] at h2; cases h2
    cases ra
    refine ⟨a, xs, rfl, rfl, h3, ?_⟩
    exact Q F _ (by simpa using wr (fx := []) (zs := []) (ws := []) (g' := []) .nil rfl fun c => by simp only [List.count_nil]; omega) SubF.refl
  · -- insert
    rename_i us i t eg
    split at e
    · rename_i hc
      simp only [Bool.and_eq_true, decide_eq_true_eq] at hc
      obtain ⟨⟨nb, hl⟩, h0, h62⟩ := hc
      cases e
      obtain ⟨x', a, xs, f0, h1, h2, h3, rs, nbs, cnt, wr⟩ := Rel.lstAt (ft := ft) (tmp := []) rel eg
      rw [hx] at h1; cases h1
      rw [hn] at h2; cases h2
      obtain ⟨y, z, g1, g2, rfl, ry, rz, rfl⟩ := rpTs_two ra
      obtain ⟨rfl, rfl⟩ := int_inv ry
      refine ⟨a, xs, i, z, rfl, rfl, h3, by rw [rs.length, sizeLine_eq]; exact hl, h0, by omega, ?_⟩
      have sp : ∀ (n : Nat) {xs : List V} {us : List T} {f : List Addr}, RpTs K F H xs us f → ∃ fa fb, RpTs K F H (xs.take n) (us.take n) fa ∧ RpTs K F H (xs.drop n) (us.drop n) fb ∧ ∀ c, fa.count c + fb.count c = f.count c := by
        intro n
        induction n with
        | zero => intro xs us f r; exact ⟨[], f, by simpa using .nil, by simpa using r, fun c => by simp⟩
        | succ n ih =>
          intro xs us f r
          cases r with
          | nil => exact ⟨[], [], .nil, .nil, fun c => by simp⟩
          | @cons _ _ _ _ f1 f2 a b =>
            obtain ⟨fa, fb, k1, k2, k3⟩ := ih b
            exact ⟨f1 ++ fa, fb, .cons a k1, k2, fun c => by have := k3 c; simp only [List.count_append]; omega⟩
      obtain ⟨fa, fb, k1, k2, k3⟩ := sp i.toNat rs
      have nb1 : T.noBs (us.take i.toNat ++ t :: us.drop i.toNat) = true := by
        rw [noBs_append]
        rw [noBs_all, List.all_eq_true] at nbs
        rw [Bool.and_eq_true]
        refine ⟨?_, ?_⟩
        · rw [noBs_all, List.all_eq_true]; intro w hw; exact nbs w (List.mem_of_mem_take hw)
        · simp only [T.noBs, Bool.and_eq_true]
          refine ⟨nb, ?_⟩
          rw [noBs_all, List.all_eq_true]; intro w hw; exact nbs w (List.mem_of_mem_drop hw)
      have fin := wr (fx := []) (zs := xs.take i.toNat ++ [z] ++ xs.drop i.toNat) (ws := us.take i.toNat ++ t :: us.drop i.toNat) (g' := fa ++ (g2 ++ fb)) (by rw [List.append_assoc]; exact k1.append (.cons rz k2)) nb1 fun c => by have := k3 c; simp only [List.count_append, List.count_nil]; omega
      exact Q F _ (by simpa using fin) SubF.refl
    · cases e
  · cases e
theorem mt_MO {X : Cx} (m : MO) : ∃ id, Slot "list" (Str.ofString m.nm) id ∧ typeOf (.builtin id) = pure (.type "method_descriptor") ∧ MtR X id (rMO m) := by
  cases m with
  | append => exact ⟨_, PySem.F.slot_list_append, PySem.F.type_list_append, mt_append⟩
  | extend => exact ⟨_, PySem.F.slot_list_extend, PySem.F.type_list_extend, mt_extend⟩
  | reverse => exact ⟨_, PySem.F.slot_list_reverse, PySem.F.type_list_reverse, mt_reverse⟩
  | clear => exact ⟨_, PySem.F.slot_list_clear, PySem.F.type_list_clear, mt_clear⟩
  | insert => exact ⟨_, PySem.F.slot_list_insert, PySem.F.type_list_insert, mt_insert⟩
theorem oks_mut {m : MO} {p : Pl} {as : Es} : OkS G (.mut m p as) := by
  intro X W b st g hb c hp
  simp only [chkS] at c
  split at c
  · rename_i x n ap ys cp pos
    simp only [Bool.and_eq_true, decide_eq_true_eq] at c
    obtain ⟨⟨⟨⟨rfl, c1⟩, c2⟩, c3⟩, c4⟩ := c
    obtain ⟨id, s1, s2, s3⟩ := mt_MO (X := X) m
    have hl : ys.length < 29 := by rw [c2]; cases m <;> decide
    refine PS.imp (ps_expr (pe_ml g c1 c3 c4 hl s1 s2 s3) (sw_none rfl)) ?_
    rintro D σ H ⟨B, F, Γ, hz, rel, P⟩
    simp only [evS] at P
    refine ⟨B, F, Γ, [], rel, (P.liftI (rep := rPl σ) hz.2).imp ?_⟩
    rintro v H1 ⟨q, Γ1, F1, fp1, r1, ⟨rfl, xx, hx, hn⟩, sH1, sF1, P1⟩
    have r1 : Rel X.K B F1 H1 σ Γ1 [] := by simpa using r1
    split at P1
    · rename_i hls
      obtain ⟨us, eu⟩ := isLs_of hls
      obtain ⟨x', a, xs, f0, h1, h2, h3, _⟩ := Rel.lstAt (ft := []) (tmp := []) (by simpa using r1) eu
      rw [hx] at h1; cases h1
      rw [hn] at h2; cases h2
      refine ⟨.inl ⟨rfl, _, SqL.of h3⟩, B, F1, Γ1, [], r1, (P1.liftI (rep := rTs X.K) hz.2).imp ?_⟩
      rintro vs H2 ⟨ts, Γ2, F2, ft, r2, ra, sH2, sF2, P2⟩
      obtain ⟨t', e', Q⟩ := putΓ_ok P2
      exact mut_ok r2 ra hx (nav_mono sH2 hn) e' fun F' H' a b => Q σ F' H' a hz.2 b
    · exact P1.elim
  · cases c

/-! ### name = place.pop(..) -/
theorem RpTs.dropLast {K : W.Frag} {F : FF} {H : Hp} : ∀ {xs : List V} {ts : List T} {f : List Addr} {t : T}, RpTs K F H xs ts f → ts[ts.length - 1]? = some t → ∃ x f0 g0, xs[xs.length - 1]? = some x ∧ RpT K F H x t f0 ∧ RpTs K F H xs.dropLast ts.dropLast g0 ∧ ∀ c, f0.count c + g0.count c = f.count c
  | _, _, _, _, .nil, e => by simp at e
  | _, _, _, t, .cons (x := x) (xs := xs) (t := t0) (ts := ts) (f := f1) (g := g1) a b, e => by
    cases b with
    | nil =>
      simp at e; subst e
      exact ⟨x, f1, [], rfl, a, .nil, fun c => by simp⟩
    | cons a2 b2 =>
      rename_i x2 xs2 t2 ts2 f2 g2
      have e2 : (t2 :: ts2)[(t2 :: ts2).length - 1]? = some t := by simpa using e
      obtain ⟨y, f0, g0, h1, h2, h3, h4⟩ := RpTs.dropLast (.cons a2 b2) e2
      refine ⟨y, f0, f1 ++ g0, by simpa using h1, h2, ?_, fun c => by have := h4 c; simp only [List.count_append] at *; omega⟩
      exact .cons a h3
theorem RpTs.erase {K : W.Frag} {F : FF} {H : Hp} : ∀ {xs : List V} {ts : List T} {f : List Addr} {t : T} (k : Nat), RpTs K F H xs ts f → ts[k]? = some t → ∃ x f0 g0, xs[k]? = some x ∧ RpT K F H x t f0 ∧ RpTs K F H (xs.eraseIdx k) (ts.eraseIdx k) g0 ∧ ∀ c, f0.count c + g0.count c = f.count c
  | _, _, _, _, _, .nil, e => by simp at e
  | _, _, _, t, 0, .cons (x := x) (f := f1) (g := g1) a b, e => by
    simp at e; subst e
    exact ⟨x, f1, g1, rfl, a, b, fun c => by simp only [List.count_append]⟩
  | _, _, _, t, k + 1, .cons (x := x) (f := f1) (g := g1) a b, e => by
    obtain ⟨y, f0, g0, h1, h2, h3, h4⟩ := RpTs.erase k b (t := t) (by simpa using e)
    exact ⟨y, f0, f1 ++ g0, by simpa using h1, h2, .cons a h3, fun c => by have := h4 c; simp only [List.count_append]; omega⟩
theorem seqIx_of {n k : Nat} {i : Int} (h : ixN n i = some k) (hn : n ≤ 2 ^ 62) : seqIndex? i n = some k ∧ -(2 ^ 63) ≤ i ∧ i < 2 ^ 63 := by
  unfold ixN at h
  split at h
  · rename_i h0
    split at h
    · rename_i h1
      cases h
      exact ⟨seqIndex_of h0 h1, by omega, by omega⟩
    · cases h
  · rename_i h0
    split at h
    · rename_i h1
      cases h
      exact ⟨seqIndex_neg (by omega) h1, by omega, by omega⟩
    · cases h
def rPops : V → List V → Hp → VK → Prop := fun x vs H Q => rPop x vs H Q ∨ rPopAt x vs H Q
theorem mt_pops {X : Cx} : MtR X "list.pop" rPops := by
  intro pins s σ H x xs v us Q I rx rxs h
  rcases h with h | h
  · exact mt_pop pins s σ H x xs v us Q I rx rxs h
  · exact mt_popAt pins s σ H x xs v us Q I rx rxs h
theorem oks_pop {i : Nat} {p : Pl} {as : Es} : OkS G (.pop i p as) := by
  intro X W b st g hb c hp
  simp only [chkS] at c
  split at c
  · rename_i y py x n ap ys cp pos
    simp only [Bool.and_eq_true, decide_eq_true_eq] at c
    obtain ⟨⟨⟨⟨⟨rfl, c1⟩, c2⟩, c3⟩, c4⟩, c5⟩ := c
    have c3' : (decide (X.N[i]? = some y) && stB X.env.scope b y) = true := c3
    rw [Bool.and_eq_true, decide_eq_true_eq] at c3'
    refine PS.imp (ps_set g.nd c3'.1 (stB_loc c3'.2) (pe_ml g c1 c4 c5 (by omega) PySem.F.slot_list_pop PySem.F.type_list_pop mt_pops) (by rw [sw_name]; rfl) (stB_fn g c3'.2)) ?_
    rintro D σ H ⟨B, F, Γ, hz, rel, P⟩
    simp only [evS] at P
    refine ⟨B, F, Γ, [], rel, (P.liftI (rep := rPl σ) hz.2).imp ?_⟩
    rintro v H1 ⟨q, Γ1, F1, fp1, r1, ⟨rfl, xx, hx, hn⟩, sH1, sF1, P1⟩
    have r1 : Rel X.K B F1 H1 σ Γ1 [] := by simpa using r1
    split at P1
    · rename_i hls
      obtain ⟨us, eu⟩ := isLs_of hls
      obtain ⟨x', a, xs, f0, h1, h2, h3, _⟩ := Rel.lstAt (ft := []) (tmp := []) (by simpa using r1) eu
      rw [hx] at h1; cases h1
      rw [hn] at h2; cases h2
      refine ⟨.inl ⟨rfl, _, SqL.of h3⟩, B, F1, Γ1, [], r1, (P1.liftI (rep := rTs X.K) hz.2).imp ?_⟩
      rintro vs H2 ⟨ts, Γ2, F2, ft, r2, ra, sH2, sF2, P2⟩
      have hn2 := nav_mono sH2 hn
      split at P2
      · rename_i t u ep
        split at P2
        · rename_i hi
          unfold popT at ep
          split at ep
          · rename_i us2 eg
            split at ep
            · rename_i t' et
              cases ep
              obtain ⟨x', a', xs', f0', k1, k2, k3, rs, nbs, cnt, wr⟩ := Rel.lstAt (ft := ft) (tmp := []) r2 eg
              rw [hx] at k1; cases k1
              rw [hn2] at k2; cases k2
              cases ra
              obtain ⟨y0, fy, g0, m1, m2, m3, m4⟩ := rs.dropLast et
              refine .inl ⟨a, xs', y0, rfl, rfl, k3, m1, ?_⟩
              have nb2 : T.noBs us2.dropLast = true := by
                rw [noBs_all, List.all_eq_true] at nbs ⊢
                exact fun w hw => nbs w (List.dropLast_subset _ hw)
              have na : ∀ c ∈ fy, c ≠ a := fun c m z => by
                subst z
                have e1 := List.count_pos_iff.mpr m
                have e2 := m4 c
                have e3 := cnt c
                rw [List.count_cons_self] at e3
                omega
              have nbt : t.noB = true := noBs_get nbs et
              have fin := wr (fx := fy) m3 nb2 fun c => by have := m4 c; simp only [List.count_nil]; omega
              have hi2 : i < (setΓ Γ2 q (.l us2.dropLast)).length := by
                unfold setΓ
                split
                · rw [List.length_set]; exact hi
                · exact hi
              exact P2 _ F2 _ (Rel.store (tmp := []) fin (m2.frame SubF.refl nbt fun c hc => L2.upd_ne (na c hc)) nbt hi2) (hz.2.set hp) SubF.refl
            · cases ep
          · rename_i us2 j eg
            split at ep
            · split at ep
              · rename_i k ek
                split at ep
                · rename_i t' et
                  cases ep
                  obtain ⟨x', a', xs', f0', k1, k2, k3, rs, nbs, cnt, wr⟩ := Rel.lstAt (ft := ft) (tmp := []) r2 eg
                  rw [hx] at k1; cases k1
                  rw [hn2] at k2; cases k2
                  obtain ⟨jv, rfl, rj⟩ := rpTs_one ra
                  obtain ⟨rfl, _⟩ := int_inv rj
                  obtain ⟨y0, fy, g0, m1, m2, m3, m4⟩ := rs.erase k et
                  rename_i hsm _ _ _
                  have hs62 := small62_of hsm
                  have hsz : seqIndex? j xs'.length = some k := by
                    rw [rs.length]
                    unfold ixN at ek
                    split at ek
                    · rename_i h0
                      split at ek
                      · rename_i h1
                        cases ek
                        exact seqIndex_of h0 h1
                      · cases ek
                    · rename_i h0
                      split at ek
                      · rename_i h1
                        cases ek
                        exact seqIndex_neg (by omega) h1
                      · cases ek
                  refine .inr ⟨a, xs', j, k, y0, rfl, rfl, k3, by omega, by omega, hsz, m1, ?_⟩
                  have nb2 : T.noBs (us2.eraseIdx k) = true := by
                    rw [noBs_all, List.all_eq_true] at nbs ⊢
                    exact fun w hw => nbs w (List.mem_of_mem_eraseIdx hw)
                  have na : ∀ c ∈ fy, c ≠ a := fun c m z => by
                    subst z
                    have e1 := List.count_pos_iff.mpr m
                    have e2 := m4 c
                    have e3 := cnt c
                    rw [List.count_cons_self] at e3
                    omega
                  have nbt : t.noB = true := noBs_get nbs et
                  have fin := wr (fx := fy) m3 nb2 fun c => by have := m4 c; omega
                  have hi2 : i < (setΓ Γ2 q (.l (us2.eraseIdx k))).length := by
                    unfold setΓ
                    split
                    · rw [List.length_set]; exact hi
                    · exact hi
                  exact P2 _ F2 _ (Rel.store (tmp := []) fin (m2.frame SubF.refl nbt fun c hc => L2.upd_ne (na c hc)) nbt hi2) (hz.2.set hp) SubF.refl
                · cases ep
              · cases ep
            · cases ep
          · cases ep
        · exact P2.elim
      · exact P2.elim
    · exact P1.elim
  · cases c
end
end Tv

namespace Tv
open PySem PySem.Spec PyProof.Rows L2

theorem Rel.killE {K : W.Frag} {B : Base} {F : FF} {H : Hp} {σ : L2.St} {Γ : Env} {tmp : List Addr} (r : Rel K B F H σ Γ tmp) : ∀ is : List Nat, Rel K B F H σ (wipeE Γ is) tmp
  | [] => r
  | i :: is => (r.killE is).kill i
theorem wipeE_len {Γ : Env} : ∀ {is : List Nat}, (wipeE Γ is).length = Γ.length
  | [] => rfl
  | i :: is => by rw [wipeE, List.length_set]; exact wipeE_len
theorem wipeE_get {Γ : Env} {j : Nat} : ∀ {is : List Nat}, (wipeE Γ is)[j]? = if j ∈ is ∧ j < Γ.length then some none else Γ[j]?
  | [] => by simp [wipeE]
  | i :: is => by
    rw [wipeE, List.getElem?_set, wipeE_get (is := is), wipeE_len]
    by_cases e : i = j
    · subst e
      by_cases l : i < Γ.length
      · simp [l]
      · simp [l]
    · by_cases m : j ∈ is
      · simp [e, m]
      · simp [e, m, Ne.symm e]
theorem keepIo_len {Γ : Env} {io : List Nat} : (keepIo io Γ).length = Γ.length := by
  unfold keepIo
  have : ∀ (io : List Nat) (Δ : Env), (io.foldl (fun Γ' i => Γ'.set i ((Γ[i]?).getD none)) Δ).length = Δ.length := by
    intro io
    induction io with
    | nil => intro Δ; rfl
    | cons i io ih => intro Δ; rw [List.foldl_cons, ih, List.length_set]
  rw [this, List.length_replicate]
theorem keepIo_get {Γ : Env} {io : List Nat} {j : Nat} : (keepIo io Γ)[j]? = if j ∉ io ∧ j < Γ.length then some none else Γ[j]? := by
  unfold keepIo
  have : ∀ (io : List Nat) (Δ : Env), Δ.length = Γ.length → (io.foldl (fun Γ' i => Γ'.set i ((Γ[i]?).getD none)) Δ)[j]? = if j ∈ io then Γ[j]? else Δ[j]? := by
    intro io
    induction io with
    | nil => intro Δ _; simp
    | cons i io ih =>
      intro Δ hl
      rw [List.foldl_cons, ih _ (by rw [List.length_set]; exact hl)]
      by_cases m : j ∈ io
      · simp [m]
      · rw [if_neg m, List.getElem?_set]
        by_cases e : i = j
        · subst e
          by_cases l : i < Γ.length
          · simp [hl, l]
          · have e1 : Γ[i]? = none := List.getElem?_eq_none (by omega)
            have e2 : ¬ i < Δ.length := by omega
            simp [e1, e2]
        · simp [e, m, Ne.symm e]
  rw [this _ _ (by simp)]
  by_cases m : j ∈ io
  · simp [m]
  · by_cases l : j < Γ.length
    · simp [m, l, List.getElem?_replicate]
    · have e1 : Γ[j]? = none := List.getElem?_eq_none (by omega)
      simp [m, l, List.getElem?_replicate, e1]
theorem Rel.keepIo {K : W.Frag} {B : Base} {F : FF} {H : Hp} {σ : L2.St} {Γ : Env} {tmp : List Addr} (r : Rel K B F H σ Γ tmp) (io : List Nat) : Rel K B F H σ (Tv.keepIo io Γ) tmp := by
  have : Tv.keepIo io Γ = wipeE Γ ((List.range Γ.length).filter fun j => decide (j ∉ io)) := by
    apply List.ext_getElem?
    intro j
    rw [keepIo_get, wipeE_get]
    by_cases m : j ∈ io <;> by_cases l : j < Γ.length <;> simp [m, l]
  rw [this]
  exact r.killE _
section
variable {G : Glob}
theorem oks_ex {e : E} : OkS G (.ex e) := by
  intro X W b st g hb c hp
  simp only [chkS] at c
  split at c
  · rename_i v pos
    rw [Bool.and_eq_true] at c
    refine PS.imp (ps_expr ((snd G e).pe X W b v g c.1) (sw_none c.2)) ?_
    rintro D σ H ⟨B, F, Γ, hz, rel, P⟩
    simp only [evS] at P
    refine ⟨B, F, Γ, [], rel, (P.lift hz.2).imp ?_⟩
    rintro v1 H1 ⟨t, Γ1, F1, ft, r1, rt, sH1, sF1, P1⟩
    exact P1 σ F1 H1 r1.nil hz.2 SubF.refl
  · cases c
theorem oks_ret {io : List Nat} {e : E} : OkS G (.ret io e) := by
  intro X W b st g hb c hp
  simp only [chkS] at c
  split at c
  · rename_i v pos
    refine PS.imp (ps_ret ((snd G e).pe X W b v g c)) ?_
    rintro D σ H ⟨B, F, Γ, hz, rel, P⟩
    simp only [evS] at P
    refine ⟨B, F, Γ, [], rel, (P.lift hz.2).imp ?_⟩
    rintro v1 H1 ⟨t, Γ1, F1, ft, r1, rt, sH1, sF1, P1⟩
    split at P1
    · rename_i nb
      exact P1 v1 σ F1 H1 ft (r1.keepIo io) hz.2 rt nb SubF.refl
    · exact P1.elim
  · cases c
theorem oks_retN {io : List Nat} : OkS G (.retN io) := by
  intro X W b st g hb c hp
  simp only [chkS] at c
  split at c
  · refine PS.imp ps_retN ?_
    rintro D σ H ⟨B, F, Γ, hz, rel, P⟩
    exact P .non σ F H [] (rel.keepIo io) hz.2 (.v .non) rfl SubF.refl
  · cases c
theorem oks_pass : OkS G .pass := by
  intro X W b st g hb c hp
  simp only [chkS] at c
  have rd : ∀ D σ H, TMS X.K X.H_0 G W (evS G.cl G.con .pass) D σ H → tNext D σ H := by
    rintro D σ H ⟨B, F, Γ, hz, rel, P⟩
    exact P σ F H rel hz.2 SubF.refl
  split at c
  · exact PS.imp ps_pass rd
  · exact PS.imp ps_doc rd
  · cases c
theorem oks_brk : OkS G .brk := by
  intro X W b st g hb c hp
  simp only [chkS] at c
  split at c
  · refine PS.imp ps_break ?_
    rintro D σ H ⟨B, F, Γ, hz, rel, P⟩
    exact P σ F H rel hz.2 SubF.refl
  · cases c
theorem oks_cnt : OkS G .cnt := by
  intro X W b st g hb c hp
  simp only [chkS] at c
  split at c
  · refine PS.imp ps_continue ?_
    rintro D σ H ⟨B, F, Γ, hz, rel, P⟩
    exact P σ F H rel hz.2 SubF.refl
  · cases c
theorem oks_dead : OkS G .dead := by
  intro X W b st g hb c hp
  exact PS.imp ps_never fun D σ H ⟨B, F, Γ, hz, rel, P⟩ => P.elim
theorem oks_ife {e : E} {x y : Ss} (hx : OkSs G x) (hy : OkSs G y) : OkS G (.ife e x y) := by
  intro X W b st g hb c hp
  simp only [chkS] at c
  split at c
  · rename_i v s1 s2 pos
    simp only [Bool.and_eq_true] at c
    obtain ⟨⟨c1, c2⟩, c3⟩ := c
    refine PS.imp (ps_if ((snd G e).pt X W b v g c1) (hx X W b s1 g hb c2) (hy X W b s2 g hb c3)) ?_
    rintro D σ H ⟨B, F, Γ, hz, rel, P⟩
    simp only [evS] at P
    show TE' X.K G W e σ H _
    refine ⟨B, F, Γ, [], rel, (P.lift hz.2).imp ?_⟩
    rintro v1 H1 ⟨t, Γ1, F1, ft, r1, rt, sH1, sF1, P1⟩
    split at P1
    · obtain ⟨rfl, _⟩ := bl_inv rt
      exact ⟨true, rfl, by dsimp only; rw [if_pos rfl]; exact ⟨B, F1, Γ1, hz, r1.nil, P1⟩⟩
    · obtain ⟨rfl, _⟩ := bl_inv rt
      exact ⟨false, rfl, by dsimp only; rw [if_neg Bool.false_ne_true]; exact ⟨B, F1, Γ1, hz, r1.nil, P1⟩⟩
    · exact P1.elim
  · cases c
/-- a body's outcome, seen by the loop -/
theorem oks_for {tg : Tg} {it : I} {m : Ss} (hm : OkSs G m) : OkS G (.for tg it m) := by
  intro X W b st g hb c hp
  simp only [chkS] at c
  split at c
  · rename_i t v s1 pos
    simp only [Bool.and_eq_true] at c
    obtain ⟨⟨c1, c2⟩, c3⟩ := c
    obtain ⟨pi, nset⟩ := sndI G it X W b t v g c2
    refine PS.imp (ps_for g.own g.calm pi (pg_tg g c1) (hm X W b s1 g hb c3) (fset_of nset)) ?_
    rintro D σ H ⟨B, F, Γ, hz, rel, P⟩
    simp only [evS] at P
    refine ⟨B, F, Γ, [], rel, (P.liftI hz.2).imp ?_⟩
    rintro J H1 ⟨ds, Γ1, F1, fp, r1, ⟨rfl, wk⟩, sH1, sF1, P1⟩
    have r1 : Rel X.K B F1 H1 σ Γ1 [] := r1.nil
    generalize hstep : (fun d Γ2 => match bindTg tg d Γ2 with
      | some Γ3 => evSs G.cl G.con m Γ3
      | none => SR.bad) = step at P1
    refine for_it wk (fun i σ H => ∃ F Γ, Pin G σ ∧ Rel X.K B F H σ Γ [] ∧ SubF F1 F ∧ PostS X.K G W B F (forL step (ds.drop i) Γ) D) ⟨F1, Γ1, hz.2, r1, SubF.refl, P1⟩ ?_ ?_ ?_
    · rintro i σ' H' hi ⟨F2, Γ2, p2, r2, sF2, P2⟩
      exact sF2.f.trans r2.sub
    · rintro i x σ' H2 H3 hi ⟨F2, Γ2, p2, r2, sF2, P2⟩ y
      obtain ⟨d, F3, hd, r3, rdx, rnb, sF3, sH3⟩ := YD_ok (tmp := []) y r2 sF2
      have ed : ds.drop i = d :: ds.drop (i + 1) := by
        rw [List.drop_eq_getElem_cons hi]
        rw [List.getElem?_eq_getElem hi] at hd
        rw [Option.some.inj hd]
      rw [ed] at P2
      simp only [forL] at P2
      have es := congrFun (congrFun hstep.symm d) Γ2
      cases eb : bindTg tg d Γ2 with
      | none =>
        have e3 : step d Γ2 = .bad := by rw [es, eb]
        rw [e3] at P2; exact P2.elim
      | some Γ3 =>
        refine bindTg_ok (tmp := []) (f := []) eb (by simpa using r3) rdx rnb fun σ2 r4 hw => ⟨B, F3, Γ3, ⟨hz.1, p2.wiped hp hw⟩, r4, ?_⟩
        have e3 : step d Γ2 = evSs G.cl G.con m Γ3 := by rw [es, eb]
        rw [e3] at P2
        cases eo : evSs G.cl G.con m Γ3 with
        | bad => simp only [eo] at P2; exact P2.elim
        | nx Γ4 =>
          simp only [eo] at P2
          exact fun σ4 F4 H4 r5 p5 sF4 => ⟨F4, Γ4, p5, r5, (sF2.trans sF3).trans sF4, P2.later (sF3.trans sF4)⟩
        | ct Γ4 =>
          simp only [eo] at P2
          exact fun σ4 F4 H4 r5 p5 sF4 => ⟨F4, Γ4, p5, r5, (sF2.trans sF3).trans sF4, P2.later (sF3.trans sF4)⟩
        | bk Γ4 =>
          simp only [eo] at P2
          exact fun σ4 F4 H4 r5 p5 sF4 => P2 σ4 F4 H4 r5 p5 (sF3.trans sF4)
        | rt t Γ4 =>
          simp only [eo] at P2
          exact fun v σ4 F4 H4 fp r5 p5 rt nb sF4 => P2 v σ4 F4 H4 fp r5 p5 rt nb (sF3.trans sF4)
        | ex x Γ4 =>
          simp only [eo] at P2
          exact fun c d σ4 F4 H4 r5 p5 sF4 hx => P2 c d σ4 F4 H4 r5 p5 (sF3.trans sF4) hx
    · rintro σ' H' ⟨F2, Γ2, p2, r2, sF2, P2⟩
      rw [List.drop_length] at P2
      exact P2 σ' F2 H' r2 p2 SubF.refl
  · cases c
theorem oks_whl {n : Nat} {e : E} {m : Ss} (hm : OkSs G m) : OkS G (.whl n e m) := by
  intro X W b st g hb c hp
  simp only [chkS] at c
  split at c
  · rename_i v s1 pos
    simp only [Bool.and_eq_true] at c
    obtain ⟨c1, c3⟩ := c
    refine PS.imp (ps_while g.own ((snd G e).pt X W b v g c1) (hm X W b s1 g hb c3)) ?_
    rintro D σ H ⟨B, F, Γ, hz, rel, P⟩
    simp only [evS] at P
    refine ⟨fun k σ H => ∃ F Γ, Pin G σ ∧ Rel X.K B F H σ Γ [] ∧ PostS X.K G W B F (whlL (evE G.cl G.con e) (evSs G.cl G.con m) k Γ) D, ⟨n, F, Γ, hz.2, rel, P⟩, ?_⟩
    rintro k σ1 H1 ⟨F1, Γ1, p1, r1, P1⟩
    show TE' X.K G W e σ1 H1 _
    cases k with
    | zero => exact P1.elim
    | succ k =>
      simp only [whlL] at P1
      refine ⟨B, F1, Γ1, [], r1, ?_⟩
      cases ee : evE G.cl G.con e Γ1 with
      | bad => simp only [ee] at P1; exact P1.elim
      | ex x Γ2 =>
        simp only [ee] at P1
        exact fun c d F' H' h1 h2 h3 h4 => P1 c d σ1 F' H' h1 p1 h3 h4
      | ok t Γ2 =>
        rw [ee] at P1
        intro v F2 H2 fp r2 rt sH2 sF2
        have r2 : Rel X.K B F2 H2 σ1 Γ2 [] := r2.nil
        split at P1
        · rename_i Γ3 e3
          cases e3
          obtain ⟨rfl, _⟩ := bl_inv rt
          refine ⟨true, rfl, ?_⟩
          dsimp only
          rw [if_pos rfl]
          cases eo : evSs G.cl G.con m Γ2 with
          | bad => simp only [eo] at P1; exact P1.elim
          | nx Γ4 =>
            simp only [eo] at P1
            exact ⟨fun σ H => ∃ F Γ, Pin G σ ∧ Rel X.K B F H σ Γ [] ∧ PostS X.K G W B F (whlL (evE G.cl G.con e) (evSs G.cl G.con m) k Γ) D, fun σ' H' h => ⟨k, Nat.lt_succ_self k, h⟩, B, F2, Γ2, ⟨hz.1, p1⟩, r2, by rw [eo]; exact fun σ4 F4 H4 r5 p5 sF4 => ⟨F4, Γ4, p5, r5, P1.later (sF2.trans sF4)⟩⟩
          | ct Γ4 =>
            simp only [eo] at P1
            exact ⟨fun σ H => ∃ F Γ, Pin G σ ∧ Rel X.K B F H σ Γ [] ∧ PostS X.K G W B F (whlL (evE G.cl G.con e) (evSs G.cl G.con m) k Γ) D, fun σ' H' h => ⟨k, Nat.lt_succ_self k, h⟩, B, F2, Γ2, ⟨hz.1, p1⟩, r2, by rw [eo]; exact fun σ4 F4 H4 r5 p5 sF4 => ⟨F4, Γ4, p5, r5, P1.later (sF2.trans sF4)⟩⟩
          | bk Γ4 =>
            simp only [eo] at P1
            exact ⟨fun _ _ => False, fun σ' H' h => h.elim, B, F2, Γ2, ⟨hz.1, p1⟩, r2, by rw [eo]; exact fun σ4 F4 H4 r5 p5 sF4 => P1 σ4 F4 H4 r5 p5 (sF2.trans sF4)⟩
          | rt t Γ4 =>
            simp only [eo] at P1
            exact ⟨fun _ _ => False, fun σ' H' h => h.elim, B, F2, Γ2, ⟨hz.1, p1⟩, r2, by rw [eo]; exact fun v σ4 F4 H4 fp r5 p5 rt nb sF4 => P1 v σ4 F4 H4 fp r5 p5 rt nb (sF2.trans sF4)⟩
          | ex x Γ4 =>
            simp only [eo] at P1
            exact ⟨fun _ _ => False, fun σ' H' h => h.elim, B, F2, Γ2, ⟨hz.1, p1⟩, r2, by rw [eo]; exact fun c d σ4 F4 H4 r5 p5 sF4 hx => P1 c d σ4 F4 H4 r5 p5 (sF2.trans sF4) hx⟩
        · rename_i Γ3 e3
          cases e3
          obtain ⟨rfl, _⟩ := bl_inv rt
          exact ⟨false, rfl, by dsimp only; rw [if_neg Bool.false_ne_true]; exact P1 σ1 F2 H2 r2 p1 sF2⟩
        · rename_i e3; cases e3
        · exact P1.elim
  · cases c
theorem oks_nil : OkSs G .nil := by
  intro X W b st g hb c
  cases st with
  | nil =>
    refine PSs.imp pss_nil ?_
    rintro D σ H ⟨B, F, Γ, hz, rel, P⟩
    exact P σ F H rel hz.2 SubF.refl
  | cons _ _ => simp [chkSs] at c
theorem oks_cons {s : S} {m : Ss} (h1 : OkS G s) (h2 : OkSs G m) : OkSs G (.cons s m) := by
  intro X W b st g hb c
  cases st with
  | nil => simp [chkSs] at c
  | cons x xs =>
    simp only [chkSs, Bool.and_eq_true] at c
    have hfree : FreeOf G s.own := fun i hi p hp z => by
      have := List.all_eq_true.mp c.1 i hi
      rw [← z] at this
      have hm := List.contains_iff_mem.mpr (g.pin p hp)
      rw [hm] at this; cases this
    replace c := c.2
    refine PSs.imp (pss_cons (h1 X W b x g hb c.1 hfree) (h2 X W b xs g hb c.2)) ?_
    rintro D σ H ⟨B, F, Γ, hz, rel, P⟩
    simp only [evSs] at P
    refine ⟨B, F, Γ, hz, rel, ?_⟩
    cases eo : evS G.cl G.con s Γ with
    | bad => rw [eo] at P; exact P.elim
    | nx Γ1 =>
      rw [eo] at P
      exact fun σ1 F1 H1 r1 p1 sF1 => ⟨B, F1, Γ1, ⟨hz.1, p1⟩, r1, P.later sF1⟩
    | bk Γ1 => rw [eo] at P; exact P
    | ct Γ1 => rw [eo] at P; exact P
    | rt t Γ1 => rw [eo] at P; exact P
    | ex x Γ1 => rw [eo] at P; exact P
theorem oks_kill {is : List Nat} {m : Ss} (h : OkSs G m) : OkSs G (.kill is m) := by
  intro X W b st g hb c
  simp only [chkSs] at c
  refine PSs.imp (h X W b st g hb c) ?_
  rintro D σ H ⟨B, F, Γ, hz, rel, P⟩
  simp only [evSs] at P
  exact ⟨B, F, _, hz, rel.killE is, P⟩
end
mutual
theorem sndS (G : Glob) : ∀ m : S, OkS G m
  | .set _ _ => oks_set
  | .setF _ _ => oks_setF
  | .setT _ _ => oks_setT
  | .sto _ _ _ => oks_sto
  | .dsto _ _ _ => oks_dsto
  | .stf _ _ _ _ => oks_stf
  | .augV _ _ _ => oks_augV
  | .augS _ _ _ _ => oks_augS
  | .mut _ _ _ => oks_mut
  | .pop _ _ _ => oks_pop
  | .ex _ => oks_ex
  | .ife _ a b => oks_ife (sndSs G a) (sndSs G b)
  | .for _ _ a => oks_for (sndSs G a)
  | .whl _ _ a => oks_whl (sndSs G a)
  | .ret _ _ => oks_ret
  | .retN _ => oks_retN
  | .pass => oks_pass
  | .brk => oks_brk
  | .cnt => oks_cnt
  | .dead => oks_dead
theorem sndSs (G : Glob) : ∀ m : Ss, OkSs G m
  | .nil => oks_nil
  | .cons s m => oks_cons (sndS G s) (sndSs G m)
  | .kill _ m => oks_kill (sndSs G m)
end

/-! ### defs -/
theorem rest_emp {K : W.Frag} {F : FF} {H : Hp} : ∀ n, RpE K F H (List.replicate n none) (List.replicate n none) []
  | 0 => .nil
  | n + 1 => .emp (rest_emp n)
theorem args_all {K : W.Frag} {F : FF} {H : Hp} {σ : L2.St} {Γ : Env} (h : RpE K F H σ Γ []) : ∀ {vs : List V} {ts : List T} {f : List Addr}, RpTs K F H vs ts f → T.noBs ts = true → RpE K F H (vs.map some ++ σ) (ts.map some ++ Γ) f
  | _, _, _, .nil, _ => h
  | _, _, _, .cons a b, n => by
    simp [T.noBs] at n
    exact .fil a n.1 (args_all h b n.2)
theorem start_rel {K : W.Frag} {N : List Str} {vs : List V} {F0 H : Hp} {fs : List Addr} {ts : List T} (hF : Sub F0 (hideA H fs)) (hs : Stb H F0) (r : RpTs K ⟨F0, stF F0⟩ H vs ts fs) (nb : T.noBs ts = true) (c1 : ∀ a, fs.count a ≤ 1) (ne : ∀ a ∈ fs, H a ≠ none ∧ ∀ o u, H a ≠ some (.frz o u)) :
    Rel K ⟨hideA H fs, F0⟩ ⟨F0, stF F0⟩ H (L2.start N vs) (env0 ts N.length) [] := by
  have h0 : Sub (hideA H fs) H := fun a o e => by
    unfold hideA at e
    split at e
    · cases e
    · exact .inl e
  have f0 : ∀ a ∈ fs, F0 a = none := fun a m => hF.none (by unfold hideA; rw [if_pos m])
  refine ⟨⟨fs, ?_, fun a => by simpa using c1 a, fun a ha => ?_⟩, hF.trans h0, stF_sub F0, hs, stF_stb F0, h0, Sub.refl, fun a _ => .inl rfl, fun a o _ e => stF_stab F0 a o e⟩
  · unfold L2.start env0
    rw [r.length]
    exact args_all (rest_emp _) r nb
  · have m : a ∈ fs := by simpa using ha
    exact ⟨f0 a m, by show hideA H fs a = none; unfold hideA; rw [if_pos m], (ne a m).1⟩
theorem fn_len {K : W.Frag} {G : Glob} {io : List Nat} {f : String} {ps : List Str} (h : ∀ ts, ts.length ≠ ps.length → G.cl f ts = .bad) : ∀ vs H Q E, spM K G io f vs H Q E → vs.length = ps.length := by
  rintro vs H Q E ⟨F0, ts, fs, _, _, r, _, _, _, q⟩
  rw [r.length]
  by_cases hd : ts.length = ps.length
  · exact hd
  · rw [h ts hd] at q; exact q.elim
theorem nox_own {X : Cx} (hs : X.xe = fun _ _ => False) : PassesOwn (model X.prog X.w) X.A X.env X.xe := by
  rw [hs]; exact PassesOwn.never
end Tv

namespace Tv
open PySem PySem.Spec PyProof.Rows L2

/-! ### the module's constants -/
def D.toV : D → Option V
  | .non => some .non
  | .bl b => some (.bl b)
  | .int i => some (.int i)
  | .str s => some (.str ⟨s.toArray⟩)
  | _ => none
def cVs : List D → Option (List V)
  | [] => some []
  | d :: ds => match d.toV, cVs ds with
    | some v, some vs => some (v :: vs)
    | _, _ => none
theorem toV_ok {K : W.Frag} {F : Hp} {d : D} {v : V} (e : d.toV = some v) (h : match d with
    | .str s => okS s = true
    | _ => True) : RpD K F v d := by
  cases d with
  | non => cases e; exact .non
  | bl b => cases e; exact .bl b
  | int i => cases e; exact .int i
  | str s =>
    cases e
    have := RpD.str (K := K) (F := F) ⟨s.toArray⟩ (by simpa using h)
    simpa using this
  | _ => cases e
def okStr : D → Bool
  | .str s => okS s
  | _ => true
theorem cVs_ok {K : W.Frag} {F : Hp} : ∀ {ds : List D} {vs : List V}, cVs ds = some vs → ds.all okStr = true → RpDs K F vs ds
  | [], _, e, _ => by cases e; exact .nil
  | d :: ds, vs, e, h => by
    unfold cVs at e
    split at e
    · rename_i v vs' e1 e2
      cases e
      rw [List.all_cons, Bool.and_eq_true] at h
      refine .cons (toV_ok e1 ?_) (cVs_ok e2 h.2)
      cases d <;> first | trivial | exact h.1
    · cases e
/-- the module's name x is d -/
def cOK (K : W.Frag) (x : String) (d : D) : Bool := match d with
  | .ktp ds => decide (PySem.W.nsIn K mainGlobals (Str.ofString x) = some (some (.ref (He.ga K (Str.ofString x))))) && ds.all okStr && (match cVs ds, K.lookup (He.ga K (Str.ofString x)) with
    | some vs, some ⟨.type c, _, .seq its _, _⟩ => decide (c = "tuple") && (decide (its.size ≤ sizeLine) && He.relAll vs its.toList)
    | _, _ => false)
  | d => okStr d && (match d.toV, PySem.W.nsIn K mainGlobals (Str.ofString x) with
    | some v, some (some u) => He.relB v u
    | _, _ => false)
section
variable {K : W.Frag} {h : Heap} {mg : Str → Option Value}
theorem cOK_ok (X : K.In h) (G : h.Ns mainGlobals mg) {x : String} {d : D} (c : cOK K x d = true) : ∃ u v, mg (Str.ofString x) = some u ∧ RelV v u ∧ RpD K (fun _ => none) v d := by
  have plain : okStr d = true → (∀ ds, d ≠ .ktp ds) → (match d.toV, PySem.W.nsIn K mainGlobals (Str.ofString x) with
    | some v, some (some u) => He.relB v u
    | _, _ => false) = true → ∃ u v, mg (Str.ofString x) = some u ∧ RelV v u ∧ RpD K (fun _ => none) v d := by
    intro hs _ hc
    split at hc
    · rename_i v u e1 e2
      refine ⟨u, v, PySem.W.mg_of X G e2, He.relB_ok hc, toV_ok e1 ?_⟩
      cases d <;> first | trivial | exact hs
    · cases hc
  cases d with
  | ktp ds =>
    simp only [cOK, Bool.and_eq_true, decide_eq_true_eq] at c
    obtain ⟨⟨c1, c2⟩, c3⟩ := c
    split at c3
    · rename_i vs c0 od its n sl e1 e2
      simp only [Bool.and_eq_true, decide_eq_true_eq] at c3
      obtain ⟨c4, c5, c6⟩ := c3
      refine ⟨_, .ref (He.ga K (Str.ofString x)), PySem.W.mg_of X G c1, rfl, .ktp (xs := vs) ?_ (cVs_ok e1 c2)⟩
      exact .inr ⟨_, its, n, e2, congrArg Value.type c4, rfl, c5, He.relAll_ok c6⟩
    · cases c3
  | non => simp only [cOK, Bool.and_eq_true] at c; exact plain c.1 (fun _ z => by cases z) c.2
  | bl b => simp only [cOK, Bool.and_eq_true] at c; exact plain c.1 (fun _ z => by cases z) c.2
  | int i => simp only [cOK, Bool.and_eq_true] at c; exact plain c.1 (fun _ z => by cases z) c.2
  | str s => simp only [cOK, Bool.and_eq_true] at c; exact plain c.1 (fun _ z => by cases z) c.2
  | lst ds => simp [cOK, D.toV] at c
  | tup ds => simp [cOK, D.toV] at c
  | scr ds => simp [cOK, D.toV] at c
  | dct _ _ _ => simp [cOK, D.toV] at c
  | obj _ _ _ => simp [cOK, D.toV] at c
  | exc _ _ _ => simp [cOK, D.toV] at c
end

/-! ### the whole text -/
structure FnI where
  N : List Str
  ps : List Str
/-- a def: of the module (a name), of a class (the class, the method) -/
structure Df where
  key : String × Option String
  d : He.DefD
  fn : Fn
  i : FnI
def Df.nm (e : Df) : String := match e.key.2 with
  | none => e.key.1
  | some m => e.key.1 ++ "." ++ m
def Df.at (e : Df) : Str × Option Str := (Str.ofString e.key.1, e.key.2.map Str.ofString)
def fnsOf (ds : List Df) : List String := ds.filterMap fun e => if e.key.2.isNone && e.fn.io.isEmpty then some e.key.1 else none
def clsOf (ds : List Df) : List String := ds.filterMap fun e => if e.key.2 == some "__init__" && e.fn.io == [0] then some e.key.1 else none
def mtsOf (ds : List Df) : List (String × String) := ds.filterMap fun e => match e.key.2 with
  | some m => if e.fn.io.isEmpty then some (e.key.1, m) else none
  | none => none
def cpOf (ds : List Df) (as : List (String × String)) (io : List Nat) : CP := ⟨false, fnsOf ds, clsOf ds, mtsOf ds, as, io⟩
def Df.good (ds : List Df) (as : List (String × String)) (e : Df) : Bool :=
  C8.scC e.i.N e.i.ps e.d.scope && decide (e.fn.np = e.i.ps.length) && decide (e.fn.ns = e.i.N.length) && decide (e.fn.io.Nodup) && (e.fn.io.all fun i => decide (i < e.fn.np)) && chkSs e.i.N e.d.scope (cpOf ds as e.fn.io) e.fn.body e.d.body
def Df.plain (e : Df) : Prop := e.d.at_ = e.at ∧ e.d.dfl = [] ∧ e.d.kwd = [] ∧
  ∀ (kV doc pm : Value) (an : Option Addr) (cdv ct : Value) (us : List Value), us.length = e.i.ps.length → bindArgs (PySem.W.fnOf e.d.name e.d.qual e.d.params e.d.body e.d.scope .none kV doc pm an cdv ct) ⟨us, []⟩ = pure (e.i.ps.zip us)
def tblP (ds : List Df) (f : String) : Option Fn := (ds.find? fun e => e.nm == f).map (·.fn)
def tblC (cs : List (String × D)) (x : String) : Option D := cs.lookup x
/-- what the written part must say -/
def tvB (ds : List Df) (cs : List (String × D)) (as : List (String × String)) (K : W.Frag) : Bool :=
  (ds.all fun e => He.Fa.ok K (.glo (Str.ofString e.key.1))) && (cs.all fun c => cOK K c.1 c.2) && (bltNames.all fun x => decide (PySem.W.nsIn K mainGlobals (Str.ofString x) = some none)) &&
    ((clsOf ds).all fun c => He.Fa.ok K (.mkr (Str.ofString c)) && He.Fa.ok K (.cls (Str.ofString c))) && ((mtsOf ds).all fun p => He.Fa.ok K (.cls (Str.ofString p.1)) && He.Fa.ok K (.meth (Str.ofString p.1) (Str.ofString p.2))) && (as.all fun p => He.Fa.ok K (.noat (Str.ofString p.1) (Str.ofString p.2)))
structure Txt (ds : List Df) (cs : List (String × D)) (as : List (String × String)) : Prop where
  good : ∀ e ∈ ds, e.good ds as = true
  plain : ∀ e ∈ ds, e.plain
  nd : (ds.map Df.nm).Nodup
theorem find_nm {ds : List Df} (nd : (ds.map Df.nm).Nodup) {e : Df} (h : e ∈ ds) : ds.find? (fun x => x.nm == e.nm) = some e := by
  induction ds with
  | nil => cases h
  | cons d ds ih =>
    rw [List.map_cons, List.nodup_cons] at nd
    rw [List.find?_cons]
    rcases List.mem_cons.mp h with rfl | h
    · simp
    · have : (d.nm == e.nm) = false := by
        rw [beq_eq_false_iff_ne]
        intro z
        exact nd.1 (by rw [z]; exact List.mem_map_of_mem h)
      rw [this]
      exact ih nd.2 h
theorem fns_mem {ds : List Df} {f : String} (h : f ∈ fnsOf ds) : ∃ e ∈ ds, e.key = (f, none) ∧ e.fn.io = [] ∧ e.nm = f := by
  unfold fnsOf at h
  obtain ⟨e, he, h⟩ := List.mem_filterMap.mp h
  split at h
  · rename_i c
    rw [Bool.and_eq_true] at c
    cases h
    have k : e.key.2 = none := by simpa using c.1
    exact ⟨e, he, Prod.ext rfl k, by simpa using c.2, by unfold Df.nm; rw [k]⟩
  · cases h
theorem cls_mem {ds : List Df} {f : String} (h : f ∈ clsOf ds) : ∃ e ∈ ds, e.key = (f, some "__init__") ∧ e.fn.io = [0] ∧ e.nm = f ++ ".__init__" := by
  unfold clsOf at h
  obtain ⟨e, he, h⟩ := List.mem_filterMap.mp h
  split at h
  · rename_i c
    rw [Bool.and_eq_true, beq_iff_eq, beq_iff_eq] at c
    cases h
    refine ⟨e, he, Prod.ext rfl c.1, c.2, ?_⟩
    unfold Df.nm; rw [c.1]
    show e.key.1 ++ "." ++ "__init__" = _
    rw [String.append_assoc]
    rfl
  · cases h
theorem mts_mem {ds : List Df} {p : String × String} (h : p ∈ mtsOf ds) : ∃ e ∈ ds, e.key = (p.1, some p.2) ∧ e.fn.io = [] ∧ e.nm = p.1 ++ "." ++ p.2 := by
  unfold mtsOf at h
  obtain ⟨e, he, h⟩ := List.mem_filterMap.mp h
  split at h
  · rename_i m k
    split at h
    · rename_i c
      cases h
      exact ⟨e, he, Prod.ext rfl k, by simpa using c, by unfold Df.nm; rw [k]⟩
    · cases h
  · cases h
theorem lookup_mem {cs : List (String × D)} {x : String} {d : D} (h : cs.lookup x = some d) : (x, d) ∈ cs := by
  induction cs with
  | nil => cases h
  | cons c cs ih =>
    obtain ⟨y, e⟩ := c
    rw [List.lookup_cons] at h
    split at h
    · rename_i q
      cases h
      rw [eq_of_beq q]
      exact List.mem_cons_self
    · exact List.mem_cons_of_mem _ (ih h)
/-! ### the parameters that are handed in to be changed -/
theorem pick_some {α : Type} {xs : List α} : ∀ {io : List Nat}, (∀ i ∈ io, i < xs.length) → ∃ ys, pick xs io = some ys
  | [], _ => ⟨[], rfl⟩
  | i :: io, h => by
    obtain ⟨ys, e⟩ := pick_some (xs := xs) (io := io) fun j hj => h j (by simp [hj])
    exact ⟨xs[i]'(h i (by simp)) :: ys, by unfold pick; rw [List.getElem?_eq_getElem (h i (by simp)), e]⟩
theorem pick_zip {α : Type} {xs : List α} : ∀ {io : List Nat} {ys : List α}, pick xs io = some ys → io.length = ys.length ∧ ∀ p ∈ io.zip ys, xs[p.1]? = some p.2
  | [], _, e => by cases e; exact ⟨rfl, fun p hp => by simp at hp⟩
  | i :: io, ys, e => by
    unfold pick at e
    split at e
    · rename_i x r e1 e2
      cases e
      obtain ⟨h1, h2⟩ := pick_zip e2
      refine ⟨by simp [h1], fun p hp => ?_⟩
      rcases List.mem_cons.mp hp with rfl | hp
      · exact e1
      · exact h2 p hp
    · cases e
theorem outs_set {Γ : Env} {i : Nat} {o : Option T} : ∀ {io : List Nat}, i ∉ io → outs (Γ.set i o) io = outs Γ io
  | [], _ => rfl
  | j :: io, h => by
    simp only [List.mem_cons, not_or] at h
    unfold outs
    rw [List.getElem?_set_ne h.1, outs_set h.2]
theorem outs_ok {K : W.Frag} {B : Base} {F : FF} {H : Hp} {σ : L2.St} : ∀ {io : List Nat} {vo : List V} {os : List T} {Γ : Env} {fp : List Addr}, io.Nodup → io.length = vo.length → (∀ p ∈ io.zip vo, σ[p.1]? = some (some p.2)) → outs Γ io = some os → Rel K B F H σ Γ fp →
    ∃ fo Γ', RpTs K F H vo os fo ∧ T.noBs os = true ∧ Rel K B F H σ Γ' (fp ++ fo)
  | [], [], _, Γ, fp, _, _, _, e, r => by
    cases e
    exact ⟨[], Γ, .nil, rfl, by simpa using r⟩
  | [], _ :: _, _, _, _, _, hl, _, _, _ => by simp at hl
  | _ :: _, [], _, _, _, _, hl, _, _, _ => by simp at hl
  | i :: io, v :: vo, os, Γ, fp, nd, hl, hp, e, r => by
    unfold outs at e
    split at e
    · rename_i t ts e1 e2
      cases e
      rw [List.nodup_cons] at nd
      obtain ⟨x, f, hx, rt, nb, r2⟩ := r.take e1
      have hv : σ[i]? = some (some v) := hp (i, v) (by simp)
      rw [hx] at hv; cases hv
      obtain ⟨fo, Γ', h1, h2, h3⟩ := outs_ok (fp := f ++ fp) nd.2 (by simpa using hl) (fun p hp' => hp p (by simp [hp'])) (by rw [outs_set nd.1]; exact e2) r2
      refine ⟨f ++ fo, Γ', .cons rt h1, by simp [T.noBs, nb, h2], h3.less fun a => ?_⟩
      simp only [List.count_append]; omega
    · cases e
section
variable {P : Program} {w : World} {K : W.Frag} {mg : Str → Option Value} {base : Heap} {ds : List Df} {cs : List (String × D)} {as : List (String × String)}
abbrev gl (ds : List Df) (cs : List (String × D)) (k : Nat) (pin : List (Nat × V)) : Glob := ⟨evF (tblP ds) (tblC cs) k, tblC cs, pin, fun _ _ _ _ _ => False, fun _ _ _ _ _ _ _ h => h⟩
abbrev FD (K : W.Frag) (e : Df) (fd : FuncData) : Prop := FunD K e.d.name e.d.qual e.d.params e.d.body e.d.scope (e.d.dvs K) (e.d.kws K) (He.fAd K e.d.at_) fd
theorem bindsD {e : Df} (p : e.plain) {fd : FuncData} (F : FD K e fd) : L2.Binds K fd e.i.ps [] := by
  obtain ⟨p1, p2, p3, p4⟩ := p
  have F2 : FunD K e.d.name e.d.qual e.d.params e.d.body e.d.scope [] (e.d.kws K) (He.fAd K e.d.at_) fd := by
    have : e.d.dvs K = [] := by unfold He.DefD.dvs; rw [p2]; rfl
    rw [← this]; exact F
  exact F2.bindsN p4
theorem all_ok (T : Txt ds cs as) (X : K.In base) (G : base.Ns mainGlobals mg) (hB : tvB ds cs as K = true) (hF : ∀ e ∈ ds, ∃ fd, FD K e fd) :
    ∀ k, ∀ e ∈ ds, ∀ fd, FD K e fd → FnOk P w K mg base (L2.CX P w) (2 * k) (He.fAd K e.d.at_) fd e.i.ps (spM K (gl ds cs k []) e.fn.io e.nm) := by
  unfold tvB at hB
  simp only [Bool.and_eq_true, List.all_eq_true, decide_eq_true_eq] at hB
  obtain ⟨⟨⟨⟨⟨h1, h2⟩, h3⟩, h4⟩, h5⟩, h6⟩ := hB
  intro k
  induction k with
  | zero =>
    intro e he fd F
    exact ⟨fun vs H Q E h => by obtain ⟨F0, ts0, fs, _, _, _, _, _, _, q⟩ := h; exact q.elim, fun A outer s H args us vs Q E _ _ _ _ h => by obtain ⟨F0, ts0, fs, _, _, _, _, _, _, q⟩ := h; exact q.elim⟩
  | succ k ih =>
    intro e he fd F
    have gd := T.good e he
    unfold Df.good at gd
    simp only [Bool.and_eq_true, decide_eq_true_eq, List.all_eq_true] at gd
    obtain ⟨⟨⟨⟨⟨g1, g2⟩, g3⟩, gn⟩, gi⟩, g4⟩ := gd
    have sc := C8.fnScope_by g1
    have eP : tblP ds e.nm = some e.fn := by unfold tblP; rw [find_nm T.nd he]; rfl
    have at_of : ∀ e' ∈ ds, ∀ A : Around, Room (2 * k + 1) A → ∀ X : Cx, X.prog = P → X.w = w → X.K = K → X.mg = mg → X.base = base → FnAt X (He.fAd K e'.d.at_) (2 * k) (spM K (gl ds cs k []) e'.fn.io e'.nm) := by
      rintro e' he' A hr X rfl rfl rfl rfl rfl
      obtain ⟨fd', F'⟩ := hF e' he'
      exact ⟨fd', e'.i.ps, F'.kp, bindsD (T.plain e' he') F', ih e' he' fd' F'⟩
    refine F.ok sc (fn_len fun xs hx => ?_) (fun cdv A outer s H vs Q E hr h => ?_)
    · show evF (tblP ds) (tblC cs) (k + 1) e.nm xs = .bad
      simp only [evF, eP]
      rw [if_neg fun z => hx (by rw [← g2]; exact z.1)]
    · obtain ⟨F0, ts, fs, hF0, hsb, rx, nbs, cnt, nfz, q⟩ := h
      have hl : ts.length = e.fn.np ∧ argOk e.fn.io 0 ts = true := by
        cases hx : decide (ts.length = e.fn.np ∧ argOk e.fn.io 0 ts = true) with
        | true => exact of_decide_eq_true hx
        | false =>
          have e0 : (gl ds cs (k + 1) []).cl e.nm ts = .bad := by
            show evF (tblP ds) (tblC cs) (k + 1) e.nm ts = .bad
            simp only [evF, eP]
            rw [if_neg (of_decide_eq_false hx)]
          rw [e0] at q
          exact q.elim
      have hlv : vs.length = e.fn.np := by rw [rx.length]; exact hl.1
      obtain ⟨vo, hvo⟩ := pick_some (xs := vs) (io := e.fn.io) fun i hi => by rw [hlv]; exact gi i hi
      obtain ⟨hlo, hzo⟩ := pick_zip hvo
      have eev : (gl ds cs (k + 1) []).cl e.nm ts = toCR e.fn.io (evSs (evF (tblP ds) (tblC cs) k) (tblC cs) e.fn.body (env0 ts e.i.N.length)) := by
        show evF (tblP ds) (tblC cs) (k + 1) e.nm ts = _
        simp only [evF, eP]
        rw [if_pos hl, show e.fn.ns = e.i.N.length from g3]
      rw [eev] at q
      refine ⟨TMS K H (gl ds cs k (e.fn.io.zip vo)) (fun cls d _ H => E cls d H) (evSs (evF (tblP ds) (tblC cs) k) (tblC cs) e.fn.body), ?_, ?_⟩
      · refine sndSs (gl ds cs k (e.fn.io.zip vo)) e.fn.body (cxOf (L2.CX P w) P w K mg base e.i.N e.d.qual e.d.scope (He.fAd K e.d.at_) cdv A outer s H E) _ (cpOf ds as e.fn.io) e.d.body ?_ rfl g4
        refine { nd := sc.nd, calm := rfl, own := passes_of rfl, tk := takes_of rfl rfl rfl rfl, hu := ?_, st := fun _ _ => rfl, con := ?_, blt := ?_, fn := ?_, cls := ?_, mts := ?_, ats := ?_, pin := ?_ }
        · have := hr.un
          show (A.deeper _).units + 66 < cLine
          omega
        · intro x d hd
          exact cOK_ok X G (h2 (x, d) (lookup_mem hd))
        · intro x hx
          exact PySem.W.mg_none_of X G (h3 x hx)
        · intro f hf
          obtain ⟨e', he', k1, k2, k3⟩ := fns_mem hf
          refine ⟨He.fAd K e'.d.at_, 2 * k, ?_, ?_, hr.mono (Nat.le_succ _)⟩
          · have := He.glo_ok X G (h1 e' he')
            rw [k1] at this
            rw [(T.plain e' he').1]
            unfold Df.at; rw [k1]
            exact this
          · have := at_of e' he' _ hr (cxOf (L2.CX P w) P w K mg base e.i.N e.d.qual e.d.scope (He.fAd K e.d.at_) cdv A outer s H E) rfl rfl rfl rfl rfl
            rw [k2, k3] at this
            exact this
        · intro c hc
          obtain ⟨e', he', k1, k2, k3⟩ := cls_mem hc
          have h4' := h4 c hc
          refine ⟨He.fAd K e'.d.at_, 2 * k, ?_, He.cls_ok h4'.2, ?_, ?_, hr⟩
          · have := He.glo_ok X G (h1 e' he')
            rw [k1] at this
            exact this
          · have := He.mkr_ok h4'.1
            rw [(T.plain e' he').1]
            unfold Df.at; rw [k1]
            exact this
          · have := at_of e' he' _ hr (cxOf (L2.CX P w) P w K mg base e.i.N e.d.qual e.d.scope (He.fAd K e.d.at_) cdv A outer s H E) rfl rfl rfl rfl rfl
            rw [k2, k3] at this
            exact this
        · intro p hp
          obtain ⟨e', he', k1, k2, k3⟩ := mts_mem hp
          have h5' := h5 p hp
          refine ⟨He.fAd K e'.d.at_, 2 * k, ?_, ?_, hr.mono (Nat.le_succ _), He.cls_ok h5'.1⟩
          · have := He.meth_ok h5'.2
            rw [(T.plain e' he').1]
            unfold Df.at; rw [k1]
            exact this
          · have := at_of e' he' _ hr (cxOf (L2.CX P w) P w K mg base e.i.N e.d.qual e.d.scope (He.fAd K e.d.at_) cdv A outer s H E) rfl rfl rfl rfl rfl
            rw [k2, k3] at this
            exact this
        · intro p hp
          exact He.noat_ok (h6 p hp)
        · intro p hp
          obtain ⟨i, v⟩ := p
          exact (List.of_mem_zip hp).1
      · have pin0 : Pin (gl ds cs k (e.fn.io.zip vo)) (L2.start e.i.N vs) := fun p hp => by
          have := hzo p hp
          unfold L2.start
          rw [List.getElem?_append_left (by rw [List.length_map]; exact (List.getElem?_eq_some_iff.mp this).1), List.getElem?_map, this]
          rfl
        have nf0 : NoFz H ⟨hideA H fs, F0⟩ := fun a o u ha => by
          show hideA H fs a ≠ none
          unfold hideA
          split
          · rename_i m
            exact absurd ha ((nfz a m).2 o u)
          · rw [ha]; simp
        refine ⟨⟨hideA H fs, F0⟩, ⟨F0, stF F0⟩, env0 ts e.i.N.length, ⟨nf0, pin0⟩, start_rel hF0 hsb rx nbs cnt nfz, ?_⟩
        have fin : ∀ {σ' : L2.St} {Γ : Env} {F' : FF} {H' : Hp} {fp : List Addr} {os : List Tv.T}, Rel K ⟨hideA H fs, F0⟩ F' H' σ' Γ fp → Pin (gl ds cs k (e.fn.io.zip vo)) σ' → outs Γ e.fn.io = some os → ∃ fo, RpTs K F' H' vo os fo ∧ Tv.T.noBs os = true ∧ (∀ a, (fp ++ fo).count a ≤ 1) ∧ (∀ a ∈ fp ++ fo, F'.f a = none ∧ hideA H fs a = none ∧ H' a ≠ none) := by
          intro σ' Γ F' H' fp os r' hp' ho
          obtain ⟨fo, Γ', q1, q2, q3⟩ := outs_ok gn hlo hp' ho r'
          obtain ⟨f, a1, a2, a3⟩ := q3.env
          exact ⟨fo, q1, q2, q3.cnt, fun a ha => a3 a (.inr ha)⟩
        cases er : evSs (evF (tblP ds) (tblC cs) k) (tblC cs) e.fn.body (env0 ts e.i.N.length) with
        | bad => rw [er] at q; exact q.elim
        | bk Γ => rw [er] at q; exact q.elim
        | ct Γ => rw [er] at q; exact q.elim
        | nx Γ =>
          rw [er] at q
          intro σ' F' H' r' hp' sF
          simp only [toCR] at q
          cases ho : outs Γ e.fn.io with
          | none => rw [ho] at q; exact q.elim
          | some os =>
            rw [ho] at q
            obtain ⟨fo, q1, q2, q3, q4⟩ := fin r' hp' ho
            exact q .non F' H' [] vo fo r'.keep r'.callEnd (.v .non) rfl hvo q1 q2 (by simpa using q3) (by simpa using q4)
        | rt t Γ =>
          rw [er] at q
          intro v σ' F' H' fp r' hp' rt nb sF
          simp only [toCR] at q
          cases ho : outs Γ e.fn.io with
          | none => rw [ho] at q; exact q.elim
          | some os =>
            rw [ho] at q
            dsimp only at q
            rw [if_pos nb] at q
            obtain ⟨fo, q1, q2, q3, q4⟩ := fin r' hp' ho
            exact q v F' H' fp vo fo r'.keep r'.callEnd rt nb hvo q1 q2 q3 q4
        | ex x Γ =>
          rw [er] at q
          intro c d σ' F' H' r' hp' sF hx
          exact hx.elim
end

/-! ### the head's Hook -/
def obsV (p : W.Frag → Bool) (fn : List He.DefD) (K : W.Frag) : He.AlD := (p K && fn.all fun d => d.ok K, fn.map fun d => He.fnW K d.at_)
def obsVG (n : Nat) (p : W.Frag → Bool) (fn : List He.DefD) (g : Addr → Option Obj) : He.AlD := obsV p fn (He.frG g (He.asD g n))
def hookV (n : Nat) (p : W.Frag → Bool) (fn : List He.DefD) : PySem.W.Hook where
  α := He.AlD
  obs := fun s => obsVG n p fn s.heap.get?
  val := fun _ => He.valD fn
  says := fun _ h => ∃ K : PySem.W.Frag, K.In h ∧ obsV p fn K = He.valD fn
  of := fun _ _ e => ⟨_, He.frG_in, e⟩
  keeps := fun _ _ _ ⟨K, hK, c⟩ k => ⟨K, PySem.W.Frag.In.keeps hK k, c⟩
theorem obsV_ok {p : W.Frag → Bool} {fn : List He.DefD} {K : W.Frag} (c : obsV p fn K = He.valD fn) : p K = true ∧ ∀ d ∈ fn, ∃ fd, FunD K d.name d.qual d.params d.body d.scope (d.dvs K) (d.kws K) (He.fAd K d.at_) fd := by
  have c1 := He.ba (show (p K && fn.all fun d => d.ok K) = true from congrArg (fun z : He.AlD => z.1) c)
  refine ⟨c1.1, fun d hd => ?_⟩
  have e : fn.map (fun d => He.fnW K d.at_) = fn.map He.DefD.val := congrArg (fun z : He.AlD => z.2) c
  obtain ⟨i, hi, rfl⟩ := List.mem_iff_getElem.mp hd
  have e2 : (fn.map fun d => He.fnW K d.at_)[i]? = (fn.map He.DefD.val)[i]? := by rw [e]
  rw [List.getElem?_map, List.getElem?_map, List.getElem?_eq_getElem hi] at e2
  exact He.DefD.funD (Option.some.inj e2) (List.all_eq_true.mp c1.2 _ hd)
def obV (n : Nat) (p : W.Frag → Bool) (fn : List He.DefD) (s : PySem.W.SharedT) : He.AlD := obsVG n p fn (HandSHeadRun.getT s)
theorem obV_eq {n : Nat} {p : W.Frag → Bool} {fn : List He.DefD} (s : PySem.W.SharedT) : obV n p fn s = (hookV n p fn).obs s.abs := by
  have e : HandSHeadRun.getT s = s.abs.heap.get? := funext (HandSHeadRun.getT_eq s)
  unfold obV
  rw [e]; rfl
/-- the law's end -/
theorem law_end {l : PySem.W.OpenLaw} {n k : Nat} {q : Program} {loose : List Str} {XP : (Str → Option Value) → Heap → Prop} {d : DefRec} {ds : List Df} {cs : List (String × D)} {as : List (String × String)} {m : Nat} {el : Df} {x : Str}
    (T : Txt ds cs as) (hel : el ∈ ds) (hps : el.i.ps = [x]) (hio : el.fn.io = []) (hk : el.key.2 = none) (hn : l.most = some n) (hn2 : n ≤ sizeLine) (hdf : d.params.defaults = []) (hr : Room (2 * k) callerA) (hd : d.name = Str.ofString el.nm)
    (hlaw : ∀ ns : List Int, ns.length ≤ n → evF (tblP ds) (tblC cs) k el.nm [.v (.scr ns)] = .ret (.v (.bl true)) []) :
    PySem.W.WalkO q loose XP (hookV m (tvB ds cs as) (ds.map Df.d)).says l.row.toRowW d [] (fun f vs => PySem.call f vs) := by
  refine Att.attach_call hn hdf fun w s₀ s₁ mg mb fa o pm cd doc a vs ns G Y ho hd' hcd hmg hobj hints hlen hg => ?_
  obtain ⟨K, KX, c⟩ := Y
  obtain ⟨hB, hfd⟩ := obsV_ok c
  have hF : ∀ e ∈ ds, ∃ fd, FD K e fd := fun e he => hfd e.d (List.mem_map_of_mem he)
  obtain ⟨fd, F⟩ := hF el hel
  obtain ⟨p1, p2, p3, p4⟩ := T.plain el hel
  have e1 : mg d.name = some (.ref (He.fAd K el.d.at_)) := by
    have hB' := hB
    unfold tvB at hB'
    simp only [Bool.and_eq_true, List.all_eq_true, decide_eq_true_eq] at hB'
    have := He.glo_ok KX G.T.g (hB'.1.1.1.1.1 el hel)
    rw [hd, p1]
    unfold Df.nm Df.at
    rw [hk]
    exact this
  have e2 : fa = He.fAd K el.d.at_ := by
    rw [hmg] at e1
    cases e1; rfl
  subst e2
  have F2 : FunD K el.d.name el.d.qual el.d.params el.d.body el.d.scope [] (el.d.kws K) (He.fAd K el.d.at_) fd := by
    have : el.d.dvs K = [] := by unfold He.DefD.dvs; rw [p2]; rfl
    rw [← this]; exact F
  refine law_call (fd := fd) (CX := L2.CX l.prog w) (sp := spM K (gl ds cs k []) el.fn.io el.nm) (x := x) KX G.T.g G.T.b G.T.builtins G.T.nolimit hg hobj hints (Nat.le_trans hlen hn2) hr ?_ ?_ ?_ ?_
  · intro base hb hg'
    rw [← hps]
    exact all_ok T hb hg' hB hF k el hel fd F
  · intro s u
    have := F2.bindsA p4 s [u] (by rw [hps]; rfl)
    rw [hps] at this
    exact this
  · intro H hO hS
    have hS' : RpD K H _ (.scr ns) := .scr hS
    refine ⟨H, [.v (.scr ns)], [], ?_, fun a o e _ => e, .cons (f := []) (.v hS') .nil, rfl, fun a => by simp, fun a ha => by simp at ha, ?_⟩
    · intro a o e; exact .inl (by unfold hideA; simpa using e)
    · rw [show (gl ds cs k []).cl el.nm [.v (.scr ns)] = _ from hlaw ns hlen]
      intro v F' H' fp vo fo _ _ rt _ _ _ _ _ _
      exact (bl_inv rt).1
  · intro H e s' h
    obtain ⟨a, B, H', cls, d, _, _, _, _, _, _, _, z⟩ := h
    exact z
end Tv

namespace Tv
open PySem PySem.Spec

/-! ### small trees by values alone: nothing is owned, lent or frozen -/
abbrev PEnv := List (Option D)
inductive PR (α : Type) where
  | bad | ok (a : α) | ex (x : Exn)
inductive PS where
  | bad | nx (G : PEnv) | rt (d : D) (G : PEnv) | bk (G : PEnv) | ct (G : PEnv) | ex (x : Exn) (G : PEnv)
inductive PC where
  | bad | ret (d : D) (os : List D) | ex (x : Exn) (os : List D)
abbrev PCalls := String → List D → PC
@[inline] def PR.bind {α β : Type} (r : PR α) (f : α → PR β) : PR β :=
  match r with
  | .bad => .bad
  | .ok a => f a
  | .ex x => .ex x
def PR.op {α : Type} : Option α → PR α
  | none => .bad
  | some a => .ok a

def lD0 : D → Option (List D)
  | .lst ds => some ds
  | _ => none
def lD : D → Option (List D)
  | .lst ds => some ds
  | .scr ns => some (ns.map .int)
  | _ => none
def qD : D → Option (List D)
  | .lst ds => some ds
  | .tup ds => some ds
  | .scr ns => some (ns.map .int)
  | .ktp ds => some ds
  | _ => none
def dicD : D → Option (Bool × List D × List D)
  | .dct t ks ds => some (t, ks, ds)
  | _ => none
def objD : D → Option (String × List String × List D)
  | .obj c ns ds => some (c, ns, ds)
  | _ => none
def addD : D → D → Option D
  | .int i, .int j => some (.int (i + j))
  | .str s, .str t => if s.length + t.length ≤ LIM then some (.str (s ++ t)) else none
  | .lst a, .lst b => if a.length + b.length ≤ LIM then some (.lst (a ++ b)) else none
  | _, _ => none
def mulD : D → D → Option D
  | .int i, .int j => if i.natAbs.log2 + j.natAbs.log2 < 1000000 then some (.int (i * j)) else none
  | .lst ds, .int k => if -(2 ^ 63) ≤ k ∧ k < 2 ^ 63 ∧ ds.length * k.toNat ≤ LIM then some (.lst (List.replicate k.toNat ds).flatten) else none
  | _, _ => none
def binD (o : BOp) (x y : D) : Option D :=
  match o with
  | .add => addD x y
  | .mul => mulD x y
  | .sub => match x, y with
    | .int i, .int j => some (.int (i - j))
    | _, _ => none
  | .mod => match x, y with
    | .int i, .int j => if j ≠ 0 then some (.int (i.fmod j)) else none
    | _, _ => none
  | .fdiv => match x, y with
    | .int i, .int j => if 0 < j ∧ j.natAbs.log2 < 9000 then some (.int (i / j)) else none
    | _, _ => none
  | .pow => match x, y with
    | .int i, .int j => if 0 ≤ j ∧ j ≤ 1000000 ∧ i.natAbs < 2 ^ 64 then some (.int (i ^ j.toNat)) else none
    | _, _ => none
def eqX (x y : D) : Option Bool := if x.okD 60 && y.okD 60 then some (eqD x y) else none
def inQ (x y : D) : Option Bool :=
  match qD y with
  | some ds => if x.flat && ds.all D.flat then some (ds.any fun z => eqD z x) else inDT x y
  | none => none
def inD (x y : D) : Option Bool :=
  match x, y with
  | .str [c], .str s => some (decide (c ∈ s))
  | x, y => inQ x y
def rowsD : List D → Option (List (List D))
  | [] => some []
  | t :: ts => match lD0 t, rowsD ts with
    | some r, some rs => some (r :: rs)
    | _, _ => none
def pairsD : List D → Option (List (Int × Int))
  | [] => some []
  | .tup [.int a, .int b] :: ts => (pairsD ts).map fun r => (a, b) :: r
  | _ => none
def boolsD : List D → Option (List Bool)
  | [] => some []
  | .bl i :: ts => (boolsD ts).map fun r => i :: r
  | _ => none
def strsD : List D → Option (List (List Nat))
  | [] => some []
  | .str s :: ts => (strsD ts).map fun r => s :: r
  | _ => none
def gtX (x y : D) : Option Bool :=
  match (lD x).bind intsD, (lD y).bind intsD with
  | some ns, some ms => some (gtN ns ms)
  | _, _ => none
def cmpD (o : COp) (x y : D) : Option Bool :=
  match o with
  | .eq => eqX x y
  | .ne => (eqX x y).map fun b => !b
  | .lt => match x, y with
    | .int i, .int j => some (decide (i < j))
    | _, _ => none
  | .le => match x, y with
    | .int i, .int j => some (decide (i ≤ j))
    | _, _ => none
  | .gt => match x, y with
    | .int i, .int j => some (decide (j < i))
    | x, y => gtX x y
  | .ge => match x, y with
    | .int i, .int j => some (decide (j ≤ i))
    | _, _ => none
  | .isIn => inD x y
  | .notIn => (inD x y).map fun b => !b
  | .isB => match x, y with
    | .bl i, .bl j => some (decide (i = j))
    | _, _ => none
  | .ntB => match x, y with
    | .bl i, .bl j => some (!decide (i = j))
    | _, _ => none
def sizeD : D → Option Nat
  | .str s => some s.length
  | d => (qD d).map List.length
def pairD (p : Int × Int) : D := .tup [.int p.1, .int p.2]
def sortDD (p : Option (Bool × List D × List D)) : Option D := match p with
  | some (false, ks, _) => match intsD ks with
    | some ns => if ns.length < 64 then some (.lst ((sortI ns).map .int)) else none
    | none => none
  | _ => none
def bltD (f : BF) (ts : List D) : Option D :=
  match f, ts with
  | .len, [t] => (sizeD t).map fun (n : Nat) => D.int (n : Int)
  | .max, [.int i, .int j] => some (.int (if j > i then j else i))
  | .min, [.int i, .int j] => some (.int (if j < i then j else i))
  | .max, [t] => match (lD t).bind intsD with
    | some (a :: r) => some (.int (maxL a r))
    | _ => none
  | .min, [t] => match (lD t).bind intsD with
    | some (a :: r) => some (.int (minL a r))
    | _ => none
  | .sum, [t] => ((lD t).bind intsD).map fun ns => .int ns.sum
  | .sum, [t, .lst []] => match (lD t).bind rowsD with
    | some rs => if rs.flatten.length ≤ LIM then some (.lst rs.flatten) else none
    | none => none
  | .sorted, [t] => match (lD t).bind intsD with
    | some ns => some (.lst ((sortI ns).map .int))
    | none => match (lD t).bind pairsD with
      | some ps => some (.lst ((sortP ps).map pairD))
      | none => sortDD (dicD t)
  | .all, [t] => ((lD t).bind boolsD).map fun bs => .bl (bs.all id)
  | .list, [t] => (qD t).map .lst
  | .tuple, [.tup ds] => some (.tup ds)
  | .tuple, [t] => (lD t).map .tup
  | .str, [.int i] => if i.natAbs.log2 < 1920 then some (.str (showI i)) else none
  | .int, [.int i] => some (.int i)
  | .int, [.bl b] => some (.int (if b then 1 else 0))
  | .abs, [.int i] => some (.int (if i < 0 then -i else i))
  | _, _ => none
def methD (m : MF) (x y : D) : Option D :=
  match m with
  | .join => match x with
    | .str a => match (qD y).bind strsD with
      | some ss => if (ss.map List.length).sum + ss.length * a.length ≤ LIM then some (.str (TL.joinL a ss)) else none
      | none => none
    | _ => none
  | .find => match x, y with
    | .str a, .str b => some (.int (findS a b))
    | _, _ => none
  | .count => match lD x with
    | some ts => if y.flat && ts.all D.flat then some (.int ((ts.filter fun t => eqD t y).length : Nat)) else none
    | none => none
  | .index => match lD x with
    | some ts => if y.flat && ts.all D.flat then (ts.findIdx? fun t => eqD t y).map fun j => .int (j : Nat) else none
    | none => none
def mTyD (m : MF) (x : D) : Bool :=
  match m with
  | .join | .find => (match x with
    | .str _ => true
    | _ => false)
  | .count | .index => (lD x).isSome
def ixQ (x : D) (k : Int) : Option D := (qD x).bind fun ts => L2.atI ts k
def ixD (x i : D) : Option D :=
  match x, i with
  | .str s, .int k => (L2.atI s k).map fun c => .str [c]
  | x, .int k => ixQ x k
  | _, _ => none
def dixD (x k : D) : Option D := (dicD x).bind fun p => if keyFits p.1 k then dGet p.2.1 p.2.2 k else none
def dinD (x k : D) : Option Bool := (dicD x).bind fun p => if keyFits p.1 k then some (dHas p.2.1 k) else none
def fldD (x : D) (f : String) : Option D := (objD x).bind fun p => ((p.2.1.zip p.2.2).find? fun q => q.1 == f).map Prod.snd
def slD (x : D) (lo hi : Option Int) : Option D :=
  match x with
  | .str s => some (.str (cutL s lo hi))
  | x => (lD x).map fun ts => .lst (cutL ts lo hi)
def revD (x : D) : Option D := (lD x).map fun ts => .lst ts.reverse
def rangeD (lo : Int) (n : Nat) (c : Int) : List D := (List.range n).map fun (i : Nat) => D.int (lo + (i : Int) * c)
def itemsD : D → Option (List D)
  | .lst ds => some ds
  | .tup ds => some ds
  | .scr ns => some (ns.map .int)
  | .str s => some (s.map fun c => .str [c])
  | _ => none
def seqD : D → Option (List D)
  | .lst ds => some ds
  | .tup ds => some ds
  | _ => none
def tupD : D → Option (List D)
  | .tup ds => some ds
  | _ => none
def setD (G : PEnv) : List Nat → List D → Option PEnv
  | [], [] => some G
  | i :: is, t :: ts => if i < G.length then setD (G.set i (some t)) is ts else none
  | _, _ => none
def bindD (tg : Tg) (t : D) (G : PEnv) : Option PEnv :=
  match tg with
  | .nm i => if i < G.length then some (G.set i (some t)) else none
  | .tp is => (tupD t).bind fun ts => setD G is ts
def wipeD (G : PEnv) : List Nat → PEnv
  | [] => G
  | v :: vs => (wipeD G vs).set v none
def keepD (io : List Nat) (G : PEnv) : PEnv := io.foldl (fun G' i => G'.set i ((G[i]?).getD none)) (List.replicate G.length none)
/-- a comprehension's turns -/
def lcP (step : D → PR (Option D)) : List D → PR (List D)
  | [] => .ok []
  | d :: ds =>
    match step d with
    | .ok none => lcP step ds
    | .ok (some t) => (lcP step ds).bind fun r => .ok (t :: r)
    | _ => .bad
def getP0 (G : PEnv) (i : Nat) : PR D := match G[i]? with
  | some (some d) => .ok d
  | _ => .bad
def callP (r : PC) : PR D := match r with
  | .ret d [] => .ok d
  | .ex x [] => .ex x
  | _ => .bad
def newP (r : PC) : PR D := match r with
  | .ret .non [d] => .ok d
  | .ex x _ => .ex x
  | _ => .bad

mutual
def pE (cl : PCalls) (con : String → Option D) : E → PEnv → PR D
  | .var i, G => getP0 G i
  | .frz i, G => getP0 G i
  | .mov i, G => getP0 G i
  | .int i, _ => .ok (.int i)
  | .str s, _ => .ok (.str s)
  | .non, _ => .ok .non
  | .bl b, _ => .ok (.bl b)
  | .glb x, _ => PR.op (con x)
  | .bin o a b, G => (pE cl con a G).bind fun x => (pE cl con b G).bind fun y => PR.op (binD o x y)
  | .neg a, G => (pE cl con a G).bind fun x => match x with
    | .int i => .ok (.int (-i))
    | _ => .bad
  | .not a, G => (pE cl con a G).bind fun x => match x with
    | .bl b => .ok (.bl (!b))
    | _ => .bad
  | .cmp o a b, G => (pE cl con a G).bind fun x => (pE cl con b G).bind fun y => PR.op ((cmpD o x y).map .bl)
  | .isN a, G => (pE cl con a G).bind fun x => .ok (.bl x.isNon)
  | .notN a, G => (pE cl con a G).bind fun x => .ok (.bl (!x.isNon))
  | .cmp2 o p a b c, G => (pE cl con a G).bind fun x => (pE cl con b G).bind fun y => match cmpD o x y with
    | some true => (pE cl con c G).bind fun z => PR.op ((cmpD p y z).map .bl)
    | some false => .ok (.bl false)
    | none => .bad
  | .and a b, G => (pE cl con a G).bind fun x => match x with
    | .bl true => pE cl con b G
    | .bl false => .ok (.bl false)
    | _ => .bad
  | .or a b, G => (pE cl con a G).bind fun x => match x with
    | .bl true => .ok (.bl true)
    | .bl false => pE cl con b G
    | _ => .bad
  | .lrn a, G => (pE cl con a G).bind fun x => match x with
    | .int j => if small62 j && decide (j ≤ LIM) then .ok (.lst ((List.range j.toNat).map fun (i : Nat) => .int (i : Int))) else .bad
    | _ => .bad
  | .call f as, G => (pEs cl con as G).bind fun ts => callP (cl f ts)
  | .cme c m o as, G => (pE cl con o G).bind fun x => match objD x with
    | some (c', ns, _) => if c' == c && !(ns.contains m) then (pEs cl con as G).bind fun ts => callP (cl (c ++ "." ++ m) (x :: ts)) else .bad
    | none => .bad
  | .new c as, G => (pEs cl con as G).bind fun ts => newP (cl (c ++ ".__init__") (.obj c [] [] :: ts))
  | .blt f as, G => (pEs cl con as G).bind fun ts => PR.op (bltD f ts)
  | .meth m a b, G => (pE cl con a G).bind fun x => if mTyD m x then (pE cl con b G).bind fun y => PR.op (methD m x y) else .bad
  | .get d k x, G => (pE cl con d G).bind fun dt => match dicD dt with
    | some (t, ks, vs) => (pE cl con k G).bind fun kt => (pX cl con x G).bind fun xt => if keyFits t kt then .ok ((dGet ks vs kt).getD xt) else .bad
    | none => .bad
  | .isi a t, G => (pE cl con a G).bind fun x => if x.tyOk then .ok (.bl (x.isi t)) else .bad
  | .ix a i, G => (pE cl con a G).bind fun x => (pE cl con i G).bind fun y => PR.op (ixD x y)
  | .dix a i, G => (pE cl con a G).bind fun x => (pE cl con i G).bind fun y => PR.op (dixD x y)
  | .din n k d, G => (pE cl con k G).bind fun y => (pE cl con d G).bind fun x => PR.op ((dinD x y).map fun c => .bl (if n then !c else c))
  | .fld a f, G => (pE cl con a G).bind fun x => PR.op (fldD x f)
  | .sl a lo hi, G => (pE cl con a G).bind fun x => (pO cl con lo G).bind fun l => (pO cl con hi G).bind fun h => PR.op (slD x l h)
  | .rev a, G => (pE cl con a G).bind fun x => PR.op (revD x)
  | .lst es, G => (pEs cl con es G).bind fun ts => if decide (ts.length ≤ LIM) then .ok (.lst ts) else .bad
  | .tup es, G => (pEs cl con es G).bind fun ts => if decide (ts.length ≤ LIM) then .ok (.tup ts) else .bad
  | .dic0 t, _ => .ok (.dct t [] [])
  | .lc own tg it c e, G => (pI cl con it G).bind fun ds => if ds.length ≤ LIM then
    (lcP (fun d => match bindD tg d (wipeD G own) with
      | none => .bad
      | some G3 => (pC cl con c G3).bind fun b => match b with
        | false => .ok none
        | true => (pE cl con e G3).bind fun t => .ok (some t)) ds).bind fun ts => .ok (.lst ts)
    else .bad
def pX (cl : PCalls) (con : String → Option D) : OE → PEnv → PR D
  | .no, _ => .ok .non
  | .so e, G => pE cl con e G
def pC (cl : PCalls) (con : String → Option D) : OE → PEnv → PR Bool
  | .no, _ => .ok true
  | .so e, G => (pE cl con e G).bind fun x => match x with
    | .bl b => .ok b
    | _ => .bad
def pO (cl : PCalls) (con : String → Option D) : OE → PEnv → PR (Option Int)
  | .no, _ => .ok none
  | .so e, G => (pE cl con e G).bind fun x => match x with
    | .int i => .ok (some i)
    | _ => .bad
def pEs (cl : PCalls) (con : String → Option D) : Es → PEnv → PR (List D)
  | .nil, _ => .ok []
  | .cons e es, G => (pE cl con e G).bind fun t => (pEs cl con es G).bind fun ts => .ok (t :: ts)
def pI (cl : PCalls) (con : String → Option D) : I → PEnv → PR (List D)
  | .seq e, G => (pE cl con e G).bind fun t => PR.op (itemsD t)
  | .rng1 a, G => (pE cl con a G).bind fun x => match x with
    | .int j => if small62 j && decide (j ≤ LIM) then .ok (rangeD 0 j.toNat 1) else .bad
    | _ => .bad
  | .rng2 a b, G => (pE cl con a G).bind fun x => (pE cl con b G).bind fun y => match x, y with
    | .int i, .int j => if small62 i && small62 j && decide (j - i ≤ LIM) then .ok (rangeD i (j - i).toNat 1) else .bad
    | _, _ => .bad
  | .rng3 a b c, G => (pE cl con a G).bind fun x => (pE cl con b G).bind fun y => (pE cl con c G).bind fun z => match x, y, z with
    | .int i, .int j, .int k => if Builtin.Range.small i j k && decide (k ≠ 0 ∧ -1073741824 < k ∧ k < 1073741824) && decide (rgN i j k ≤ LIM) then .ok (rangeD i (rgN i j k) k) else .bad
    | _, _, _ => .bad
  | .enum e, G => (pE cl con e G).bind fun t => match lD t with
    | some ds => .ok (ds.zipIdx.map fun p => .tup [.int p.2, p.1])
    | none => .bad
  | .zip a b, G => (pE cl con a G).bind fun x => (pE cl con b G).bind fun y => match lD x, lD y with
    | some ds, some es => .ok ((ds.zip es).map fun p => .tup [p.1, p.2])
    | _, _ => .bad
  | .rvd a, G => (pE cl con a G).bind fun t => match lD t with
    | some ds => .ok ds.reverse
    | none => .bad
  | .keys a, G => (pE cl con a G).bind fun t => match dicD t with
    | some (_, ks, _) => if D.imms ks then .ok ks else .bad
    | none => .bad
  | .keysM a, G => (pE cl con a G).bind fun t => match dicD t with
    | some (false, ks, _) => if D.imms ks then .ok ks else .bad
    | _ => .bad
  | .dvals a, G => (pE cl con a G).bind fun t => match dicD t with
    | some (false, _, ds) => .ok ds
    | _ => .bad
  | .ditems a, G => (pE cl con a G).bind fun t => match dicD t with
    | some (false, ks, ds) => if D.imms ks then .ok ((ks.zip ds).map fun p => .tup [p.1, p.2]) else .bad
    | _ => .bad
end

def lfE (r : PR D) (f : D → PS) (G : PEnv) : PS := match r with
  | .bad => .bad
  | .ok a => f a
  | .ex x => .ex x G
def lfI {α : Type} (r : PR α) (f : α → PS) (G : PEnv) : PS := match r with
  | .bad => .bad
  | .ok a => f a
  | .ex x => .ex x G

/-! ### places -/
def gtP : D → List PK → Option D
  | t, [] => some t
  | .lst ts, .n k :: p => match ts[k]? with
    | some t => gtP t p
    | none => none
  | .tup ts, .n k :: p => match ts[k]? with
    | some t => gtP t p
    | none => none
  | .obj _ ns ts, .f s :: p => match fIx ns s with
    | some k => (match ts[k]? with
      | some t => gtP t p
      | none => none)
    | none => none
  | _, _ => none
def stP : D → List PK → D → D
  | _, [], u => u
  | .lst ts, .n k :: p, u => match ts[k]? with
    | some t => .lst (ts.set k (stP t p u))
    | none => .lst ts
  | .tup ts, .n k :: p, u => match ts[k]? with
    | some t => .tup (ts.set k (stP t p u))
    | none => .tup ts
  | .obj c ns ts, .f s :: p, u => match fIx ns s with
    | some k => (match ts[k]? with
      | some t => .obj c ns (ts.set k (stP t p u))
      | none => .obj c ns ts)
    | none => .obj c ns ts
  | t, _, _ => t
def gtG (G : PEnv) (q : Pth) : Option D := match G[q.1]? with
  | some (some t) => gtP t q.2
  | _ => none
def stG (G : PEnv) (q : Pth) (u : D) : PEnv := match G[q.1]? with
  | some (some t) => G.set q.1 (some (stP t q.2 u))
  | _ => G
def ixD1 (n : Nat) : D → Option Nat
  | .int j => L2.ixN n j
  | _ => none
/-- the items of a list, or of a tuple that holds something that may be written -/
def wrQ : Option D → Option (List D)
  | some (.lst ts) => some ts
  | some (.tup ts) => if D.imms ts then none else some ts
  | _ => none
def pPl (cl : PCalls) (con : String → Option D) : Pl → PEnv → PR Pth
  | .nm i, G => match G[i]? with
    | some (some _) => .ok (i, [])
    | _ => .bad
  | .ix p e, G => (pPl cl con p G).bind fun q => match wrQ (gtG G q) with
    | some ts => (pE cl con e G).bind fun k => (match ixD1 ts.length k with
        | some n => .ok (q.1, q.2 ++ [.n n])
        | none => .bad)
    | none => .bad
  | .fl p f, G => (pPl cl con p G).bind fun q => match gtG G q with
    | some (.obj _ ns _) => (match fIx ns f with
      | some _ => .ok (q.1, q.2 ++ [.f f])
      | none => .bad)
    | _ => .bad
def pputG (G : PEnv) (q : Pth) (o : Option D) : PS := match o with
  | some u => .nx (stG G q u)
  | none => .bad
def mutD (m : MO) (o : Option D) (as : List D) : Option D := match m, o, as with
  | .append, some (.lst ts), [t] => if decide (ts.length < LIM) then some (.lst (ts ++ [t])) else none
  | .extend, some (.lst ts), [.lst us] => if decide (ts.length + us.length ≤ LIM) then some (.lst (ts ++ us)) else none
  | .reverse, some (.lst ts), [] => some (.lst ts.reverse)
  | .clear, some (.lst _), [] => some (.lst [])
  | .insert, some (.lst ts), [.int i, t] => if decide (ts.length < LIM) && decide (0 ≤ i ∧ i < 2 ^ 62) then some (.lst (ts.take i.toNat ++ t :: ts.drop i.toNat)) else none
  | _, _, _ => none
def popD (o : Option D) (as : List D) : Option (D × D) := match o, as with
  | some (.lst ts), [] => match ts[ts.length - 1]? with
    | some t => some (t, .lst ts.dropLast)
    | none => none
  | some (.lst ts), [.int i] => if small62 i then (match L2.ixN ts.length i with
    | some k => (match ts[k]? with
      | some t => some (t, .lst (ts.eraseIdx k))
      | none => none)
    | none => none) else none
  | _, _ => none
def stoD (o : Option D) (k t : D) : Option D := match o with
  | some (.lst ts) => (ixD1 ts.length k).bind fun n => some (.lst (ts.set n t))
  | _ => none
def dstoD (o : Option D) (k t : D) : Option D := match o with
  | some (.dct kd ks ts) => if keyFits kd k && decide (ks.length < LIM) then some (.dct kd (dPut ks ts k t).1 (dPut ks ts k t).2) else none
  | _ => none
def putFD (ns : List String) (ts : List D) (f : String) (t : D) : List String × List D := match fIx ns f with
  | some k => (ns, ts.set k t)
  | none => (ns ++ [f], ts ++ [t])
def stfD (c : String) (o : Option D) (f : String) (t : D) : Option D := match o with
  | some (.obj c' ns ts) => if c' == c && decide (ns.length < 900) then some (.obj c (putFD ns ts f t).1 (putFD ns ts f t).2) else none
  | _ => none
def augJ (o : BOp) (x : Int) (t : D) : Option Int := match o, t with
  | .add, .int y => some (x + y)
  | .sub, .int y => some (x - y)
  | _, _ => none
def getJ (o : Option D) (k : D) : Option Int := match o with
  | some (.lst ts) => match (ixD1 ts.length k).bind fun n => ts[n]? with
    | some (.int x) => some x
    | _ => none
  | _ => none
/-- xs[k] o= t -/
def augD (o : BOp) (s : Option D) (k : D) (x : Int) (t : D) : Option D := match s with
  | some (.lst ts) => (ixD1 ts.length k).bind fun n => (augJ o x t).map fun z => .lst (ts.set n (.int z))
  | _ => none
def slotD (G : PEnv) (i : Nat) : Option D := match G[i]? with
  | some (some t) => some t
  | _ => none
def isLG (G : PEnv) (q : Pth) : Bool := match gtG G q with
  | some (.lst _) => true
  | _ => false
def isDG (G : PEnv) (q : Pth) : Bool := match gtG G q with
  | some (.dct _ _ _) => true
  | _ => false
def forP (step : D → PEnv → PS) : List D → PEnv → PS
  | [], G => .nx G
  | d :: ds, G =>
    match step d G with
    | .nx G' => forP step ds G'
    | .ct G' => forP step ds G'
    | .bk G' => .nx G'
    | r => r
def whlP (c : PEnv → PR D) (body : PEnv → PS) : Nat → PEnv → PS
  | 0, _ => .bad
  | n + 1, G =>
    match c G with
    | .ok (.bl true) =>
      (match body G with
      | .nx G' => whlP c body n G'
      | .ct G' => whlP c body n G'
      | .bk G' => .nx G'
      | r => r)
    | .ok (.bl false) => .nx G
    | .ex x => .ex x G
    | _ => .bad
mutual
def pS (cl : PCalls) (con : String → Option D) : S → PEnv → PS
  | .set i e, G => lfE (pE cl con e G) (fun t => if i < G.length then .nx (G.set i (some t)) else .bad) G
  | .setF i e, G => lfE (pE cl con e G) (fun t => if i < G.length then .nx (G.set i (some t)) else .bad) G
  | .setT is e, G => lfE (pE cl con e G) (fun t => match seqD t with
    | some ds => (match setD G is ds with
      | some G2 => .nx G2
      | none => .bad)
    | none => .bad) G
  | .sto p ix e, G => lfE (pE cl con e G) (fun t => lfI (pPl cl con p G) (fun q => if isLG G q then lfE (pE cl con ix G) (fun k => pputG G q (stoD (gtG G q) k t)) G else .bad) G) G
  | .dsto p ix e, G => lfE (pE cl con e G) (fun t => lfI (pPl cl con p G) (fun q => if isDG G q then lfE (pE cl con ix G) (fun k => pputG G q (dstoD (gtG G q) k t)) G else .bad) G) G
  | .stf c p f e, G => lfE (pE cl con e G) (fun t => lfI (pPl cl con p G) (fun q => pputG G q (stfD c (gtG G q) f t)) G) G
  | .augV i o e, G => match G[i]? with
    | some (some (.int x)) => lfE (pE cl con e G) (fun t => match augJ o x t with
      | some z => .nx (G.set i (some (.int z)))
      | none => .bad) G
    | _ => .bad
  | .augS i o ix e, G => if isLG G (i, []) then lfE (pE cl con ix G) (fun k => match getJ (slotD G i) k with
    | some x => lfE (pE cl con e G) (fun t => match augD o (slotD G i) k x t with
      | some u => .nx (G.set i (some u))
      | none => .bad) G
    | none => .bad) G else .bad
  | .mut m p as, G => lfI (pPl cl con p G) (fun q => if isLG G q then lfI (pEs cl con as G) (fun ts => pputG G q (mutD m (gtG G q) ts)) G else .bad) G
  | .pop i p as, G => lfI (pPl cl con p G) (fun q => if isLG G q then lfI (pEs cl con as G) (fun ts => match popD (gtG G q) ts with
    | some (t, u) => if i < G.length then .nx ((stG G q u).set i (some t)) else .bad
    | none => .bad) G else .bad) G
  | .ex e, G => lfE (pE cl con e G) (fun _ => .nx G) G
  | .ife c a b, G => lfE (pE cl con c G) (fun t => match t with
    | .bl true => pSs cl con a G
    | .bl false => pSs cl con b G
    | _ => .bad) G
  | .for tg it body, G => lfI (pI cl con it G) (fun ds => forP (fun d G2 => match bindD tg d G2 with
    | some G3 => pSs cl con body G3
    | none => .bad) ds G) G
  | .whl n c body, G => whlP (pE cl con c) (pSs cl con body) n G
  | .ret io e, G => lfE (pE cl con e G) (fun t => .rt t (keepD io G)) G
  | .retN io, G => .rt .non (keepD io G)
  | .pass, G => .nx G
  | .brk, G => .bk G
  | .cnt, G => .ct G
  | .dead, _ => .bad
def pSs (cl : PCalls) (con : String → Option D) : Ss → PEnv → PS
  | .nil, G => .nx G
  | .cons s ss, G => match pS cl con s G with
    | .nx G1 => pSs cl con ss G1
    | r => r
  | .kill is ss, G => pSs cl con ss (wipeD G is)
end
def envD (ts : List D) (ns : Nat) : PEnv := ts.map some ++ List.replicate (ns - ts.length) none
def outD (G : PEnv) : List Nat → Option (List D)
  | [] => some []
  | i :: is => match G[i]?, outD G is with
    | some (some t), some ts => some (t :: ts)
    | _, _ => none
def toPC (io : List Nat) : PS → PC
  | .rt t G => match outD G io with
    | some os => .ret t os
    | none => .bad
  | .nx G => match outD G io with
    | some os => .ret .non os
    | none => .bad
  | .ex x G => match outD G io with
    | some os => .ex x os
    | none => .bad
  | _ => .bad
def pF (P : String → Option Fn) (con : String → Option D) : Nat → PCalls
  | 0, _, _ => .bad
  | k + 1, f, ts => match P f with
    | none => .bad
    | some fn => if ts.length = fn.np then toPC fn.io (pSs (pF P con k) con fn.body (envD ts fn.ns)) else .bad
end Tv

namespace Tv
open PySem PySem.Spec

/-! ### who owns what: told ahead of the run -/
/-- new all through, nothing lent in it, anything -/
inductive Kd where | c | n | b
  deriving DecidableEq
/-- no: nothing; im: never written; any: anything; rd: of that kind, by value one of these; ol, ot, oq, od, oo: an owned list, tuple, tuple of any length, dict, object (or im) -/
inductive A where
  | no | im | any | rd (k : Kd) (a : A) | ol (a : A) | ot (as : List A) | oq (a : A) | od (a : A) | oo (c : String) (ns : List String) (as : List A)

mutual
/-- as the small run makes it: what is never written is frozen -/
def T.nf : T → Bool
  | .v _ => true
  | .w d => !d.imm
  | .b d => !d.imm
  | .l ts => T.nfs ts
  | .tp ts => T.nfs ts && !(D.imms (T.ers ts))
  | .dc _ _ ts => T.nfs ts
  | .ob _ _ ts => T.nfs ts
def T.nfs : List T → Bool
  | [] => true
  | t :: ts => t.nf && T.nfs ts
end
def imT : T → Bool
  | .v d => d.imm
  | _ => false
def Kd.ok : Kd → T → Prop
  | .c, t => t.cl = true
  | .n, t => t.noB = true
  | .b, _ => True
mutual
def g : A → T → Prop
  | .no, _ => False
  | .im, t => imT t = true
  | .any, t => t.nf = true
  | .rd k a, t => t.nf = true ∧ k.ok t ∧ ∃ u, g a u ∧ u.er = t.er
  | .ol a, t => imT t = true ∨ ∃ ts, t = .l ts ∧ ∀ u ∈ ts, g a u
  | .ot as, t => imT t = true ∨ ∃ ts, t = .tp ts ∧ D.imms (T.ers ts) = false ∧ gs as ts
  | .oq a, t => imT t = true ∨ ∃ ts, t = .tp ts ∧ D.imms (T.ers ts) = false ∧ ∀ u ∈ ts, g a u
  | .od a, t => imT t = true ∨ ∃ k ks ts, t = .dc k ks ts ∧ ∀ u ∈ ts, g a u
  | .oo c ns as, t => imT t = true ∨ ∃ ts, t = .ob c ns ts ∧ gs as ts
def gs : List A → List T → Prop
  | [], [] => True
  | a :: as, t :: ts => g a t ∧ gs as ts
  | _, _ => False
end
mutual
def clA : A → Bool
  | .no | .im => true
  | .any => false
  | .rd k _ => decide (k = .c)
  | .ol a | .oq a | .od a => clA a
  | .ot as => clAs as
  | .oo _ _ as => clAs as
def clAs : List A → Bool
  | [] => true
  | a :: as => clA a && clAs as
end
mutual
def noBA : A → Bool
  | .no | .im => true
  | .any => false
  | .rd k _ => decide (k ≠ .b)
  | .ol a | .oq a | .od a => noBA a
  | .ot as => noBAs as
  | .oo _ _ as => noBAs as
def noBAs : List A → Bool
  | [] => true
  | a :: as => noBA a && noBAs as
end
def kdA : Kd → A → Bool
  | .c, a => clA a
  | .n, a => noBA a
  | .b, _ => true
def A.st : A → A
  | .rd _ a => a
  | a => a
mutual
def le : A → A → Bool
  | .no, _ => true
  | _, .any => true
  | _, .no => false
  | .im, .rd _ b => le .im b
  | .im, _ => true
  | a, .rd k b => kdA k a && le a.st b
  | .ol a, .ol b => le a b
  | .ot as, .ot bs => les as bs
  | .ot as, .oq b => as.all fun a => le a b
  | .oq a, .oq b => le a b
  | .od a, .od b => le a b
  | .oo c ns as, .oo c' ns' bs => c == c' && ns == ns' && les as bs
  | _, _ => false
def les : List A → List A → Bool
  | [], [] => true
  | a :: as, b :: bs => le a b && les as bs
  | _, _ => false
end
def rd' (k : Kd) : A → A
  | .no => .no
  | .im => .im
  | .rd _ a => .rd k a
  | a => .rd k a
def kd2 (a b : A) : Kd := if clA a && clA b then .c else if noBA a && noBA b then .n else .b
def top2 (a b : A) : A := .rd (kd2 a b) .any
/-- a guess of what holds both -/
def mixN : Nat → A → A → A
  | 0, a, b => top2 a b
  | n + 1, a, b => match a, b with
    | .no, b => b
    | a, .no => a
    | .im, b => b
    | a, .im => a
    | .rd k a, .rd k' b => .rd (kd2 (.rd k a) (.rd k' b)) (mixN n a b)
    | .ol a, .ol b => .ol (mixN n a b)
    | .oq a, .oq b => .oq (mixN n a b)
    | .od a, .od b => .od (mixN n a b)
    | .ot as, .ot bs => if as.length = bs.length then .ot (List.zipWith (mixN n) as bs) else .rd (kd2 (.ot as) (.ot bs)) .any
    | .oo c ns as, .oo _ _ bs => .oo c ns (List.zipWith (mixN n) as bs)
    | .rd k a, b => .rd (kd2 (.rd k a) b) (mixN n a b)
    | a, .rd k b => .rd (kd2 a (.rd k b)) (mixN n a b)
    | a, b => top2 a b
def mix (a b : A) : A := mixN 12 a b
def jn (a b : A) : A := if le a b then b else if le b a then a else if le a (mix a b) && le b (mix a b) then mix a b else top2 a b
def jns : List A → A
  | [] => .no
  | a :: as => jn a (jns as)
abbrev AEnv := List (Option A)
def leE : AEnv → AEnv → Bool
  | _, [] => true
  | as, none :: bs => leE as.tail bs
  | some a :: as, some b :: bs => le a b && leE as bs
  | _, _ => false
def jnE : AEnv → AEnv → AEnv
  | some a :: as, some b :: bs => some (jn a b) :: jnE as bs
  | _ :: as, _ :: bs => none :: jnE as bs
  | _, _ => []
def leO : Option AEnv → AEnv → Bool
  | none, _ => true
  | some x, y => leE x y
def jnO : Option AEnv → Option AEnv → Option AEnv
  | none, y => y
  | x, none => x
  | some x, some y => some (jnE x y)
/-- what an expression tells: a thing, the slots behind it, the slots where it raises -/
structure AR (α : Type) where
  a : α
  e : AEnv
  x : Option AEnv
def AB {α β : Type} (m : Option (AR α)) (k : α → AEnv → Option (AR β)) : Option (AR β) := match m with
  | none => none
  | some r => match k r.a r.e with
    | none => none
    | some s => some ⟨s.a, s.e, jnO r.x s.x⟩
def RA {α : Type} (a : α) (As : AEnv) : Option (AR α) := some ⟨a, As, none⟩
/-- where something runs on, in any of these -/
structure AO where
  nx : Option AEnv
  bk : Option AEnv
  ct : Option AEnv
  rt : Option (A × AEnv)
  ex : Option AEnv
def jnR : Option (A × AEnv) → Option (A × AEnv) → Option (A × AEnv)
  | none, y => y
  | x, none => x
  | some x, some y => some (jn x.1 y.1, jnE x.2 y.2)
def AO.jn (x y : AO) : AO := ⟨jnO x.nx y.nx, jnO x.bk y.bk, jnO x.ct y.ct, jnR x.rt y.rt, jnO x.ex y.ex⟩
def BO {α : Type} (m : Option (AR α)) (k : α → AEnv → Option AO) : Option AO := match m with
  | none => none
  | some r => match k r.a r.e with
    | none => none
    | some s => some { s with ex := jnO r.x s.ex }

/-- as it is read -/
def borA (a : A) : A := rd' .b a
/-- frozen -/
def frA (a : A) : A := rd' (if clA a then .c else .n) a
def upA (a : A) : A := jn .im a
/-- the items of a list -/
def itA : A → A
  | .any => .any
  | .rd k a => rd' k (itA a)
  | .ol a => a
  | _ => .no
/-- the items of anything that has some -/
def itQ : A → A
  | .no => .no
  | .any => .any
  | .rd k a => rd' k (itQ a)
  | .ol a => upA a
  | .oq a => upA a
  | .ot as => upA (jns as)
  | _ => .im
/-- the items behind a freezing -/
def itF (a : A) : A := itQ (frA a)
def valA : A → A
  | .any => .any
  | .rd k a => rd' k (valA a)
  | .od a => a
  | _ => .no
def fldA (x : A) (f : String) : Option A := match x with
  | .any => some .any
  | .rd k a => (fldA a f).map (rd' k)
  | .oo _ ns as => ((ns.zip as).find? fun q => q.1 == f).map Prod.snd
  | _ => none
def argA (a : A) : A := match a with
  | .no => .im
  | a => rd' .n a
def isIm : A → Bool
  | .no | .im => true
  | _ => false
def binA (o : BOp) (x y : A) : Option A := match o with
  | .add => some (if isIm x || isIm y then .im else .ol (jn (itA x) (itA y)))
  | .mul => if isIm x then some .im else if noBA x then some (.ol (itA (frA x))) else none
  | _ => some .im
def tupA (xs : List A) : A := if xs.all isIm then .im else .ot xs
def isNil : A → Bool
  | .ol .no => true
  | _ => false
def tplA (a : A) : A := match a with
  | .no => .im
  | .im => .im
  | .ol a => .oq a
  | .ot as => .ot as
  | .oq a => .oq a
  | .rd k (.ol a) => .oq (rd' k a)
  | .rd k (.ot as) => .rd k (.ot as)
  | .rd k (.oq as) => .rd k (.oq as)
  | .rd k _ => .rd k .any
  | .any => .any
  | _ => .im
def bltA (f : BF) (xs : List A) : Option A := match f, xs with
  | .sum, [a, b] => if isNil b then some (.ol (itA (itA a))) else none
  | .list, [a] => some (.ol (itQ a))
  | .tuple, [a] => if noBA a then some (tplA a) else none
  | .sorted, [_] => some (.ol .im)
  | _, _ => some .im
def isOt : E → Option Nat
  | .int i => if 0 ≤ i then some i.toNat else none
  | _ => none
/-- the item at a place that is known -/
def ixN1 (x : A) (n : Nat) : A := match x with
  | .ot as => (match as[n]? with
    | some a => upA a
    | none => .im)
  | .rd k a => rd' k (ixN1 a n)
  | x => itQ x
def ixA (x : A) (i : E) : A := match isOt i with
  | some n => ixN1 x n
  | none => itQ x
/-- a walk's items -/
inductive IA where
  | u (a : A) | p (a b : A)
def slA (As : AEnv) : List Nat → List A → Option AEnv
  | [], [] => some As
  | i :: is, a :: as => slA (As.set i (some a)) is as
  | _, _ => none
def partA (n : Nat) (a : A) : List A := (List.range n).map (ixN1 a)
def bindA (tg : Tg) (x : IA) (As : AEnv) : Option AEnv := match tg, x with
  | .nm i, .u a => if noBA a then some (As.set i (some a)) else none
  | .tp is, .u a => if noBA a then slA As is (partA is.length a) else none
  | .tp is, .p a b => if noBA a && noBA b then slA As is [a, b] else none
  | .nm _, .p _ _ => none
def Tg.ins (tg : Tg) (own : List Nat) : Bool := match tg with
  | .nm i => own.contains i
  | .tp is => is.all own.contains
def wipeA (As : AEnv) : List Nat → AEnv
  | [] => As
  | v :: vs => (wipeA As vs).set v none
def keepA (io : List Nat) (As : AEnv) : AEnv := io.foldl (fun B i => B.set i ((As[i]?).getD none)) (List.replicate As.length none)
abbrev Sum := String → List A → Option (A × List A)
def gdA {α : Type} (b : Bool) (r : Option α) : Option α := if b then r else none
/-- a turn's end where it began -/
def fixE (f : AEnv → Option (AR A)) (A0 : AEnv) : Nat → AEnv → Option (A × AEnv)
  | 0, _ => none
  | n + 1, X => match f X with
    | none => none
    | some r => if leE r.e X && leE A0 X then some (r.a, X) else fixE f A0 n (jnE X r.e)
def fixS (f : AEnv → Option AO) (A0 : AEnv) : Nat → AEnv → Option (AEnv × AO)
  | 0, _ => none
  | n + 1, X => match f X with
    | none => none
    | some O => if leO O.nx X && leO O.ct X && leE A0 X then some (X, O) else fixS f A0 n (jnE (match O.nx with
      | some Y => jnE X Y
      | none => X) (match O.ct with
      | some Y => Y
      | none => X))
abbrev ROUNDS : Nat := 8
/-- what may be run or not -/
def orE (As : AEnv) (m : Option (AR A)) : Option (AR A) := match m with
  | none => none
  | some r => some ⟨jn .im r.a, jnE As r.e, r.x⟩
/-- a call may raise -/
def mayX {α : Type} (As : AEnv) (m : Option (AR α)) : Option (AR α) := match m with
  | none => none
  | some r => some ⟨r.a, r.e, jnO (some As) r.x⟩

mutual
def aE (sm : Sum) (con : String → Option D) : E → AEnv → Option (AR A)
  | .var i, As => match As[i]? with
    | some (some a) => RA (borA a) As
    | _ => none
  | .frz i, As => match As[i]? with
    | some (some a) => RA (frA a) (As.set i (some (frA a)))
    | _ => none
  | .mov i, As => match As[i]? with
    | some (some a) => RA a (As.set i none)
    | _ => none
  | .int _, As => RA .im As
  | .str _, As => RA .im As
  | .non, As => RA .im As
  | .bl _, As => RA .im As
  | .glb x, As => match con x with
    | some d => RA (if d.imm then .im else .rd .n .any) As
    | none => none
  | .bin o a b, As => AB (aE sm con a As) fun x A1 => AB (aE sm con b A1) fun y A2 => match binA o x y with
    | some r => RA r A2
    | none => none
  | .neg a, As => AB (aE sm con a As) fun _ A1 => RA .im A1
  | .not a, As => AB (aE sm con a As) fun _ A1 => RA .im A1
  | .cmp _ a b, As => AB (aE sm con a As) fun _ A1 => AB (aE sm con b A1) fun _ A2 => RA .im A2
  | .isN a, As => AB (aE sm con a As) fun _ A1 => RA .im A1
  | .notN a, As => AB (aE sm con a As) fun _ A1 => RA .im A1
  | .cmp2 _ _ a b c, As => AB (aE sm con a As) fun _ A1 => AB (aE sm con b A1) fun _ A2 => orE A2 (AB (aE sm con c A2) fun _ A3 => RA .im A3)
  | .and a b, As => AB (aE sm con a As) fun _ A1 => orE A1 (aE sm con b A1)
  | .or a b, As => AB (aE sm con a As) fun _ A1 => orE A1 (aE sm con b A1)
  | .lrn a, As => AB (aE sm con a As) fun _ A1 => RA (.ol .im) A1
  | .call f as, As => AB (aEs sm con as As) fun xs A1 => match sm f (xs.map argA) with
    | some (r, []) => mayX A1 (gdA (noBAs xs || clA r) (RA r A1))
    | _ => none
  | .cme c m o as, As => AB (aE sm con o As) fun x A1 => AB (aEs sm con as A1) fun xs A2 => match sm (c ++ "." ++ m) ((x :: xs).map argA) with
    | some (r, []) => mayX A2 (gdA (noBAs (x :: xs) || clA r) (RA r A2))
    | _ => none
  | .new c as, As => AB (aEs sm con as As) fun xs A1 => match sm (c ++ ".__init__") (.oo c [] [] :: xs.map argA) with
    | some (_, [o]) => mayX A1 (gdA (noBAs xs || clA o) (RA o A1))
    | _ => none
  | .blt f as, As => AB (aEs sm con as As) fun xs A1 => match bltA f xs with
    | some r => RA r A1
    | none => none
  | .meth _ a b, As => AB (aE sm con a As) fun _ A1 => AB (aE sm con b A1) fun _ A2 => RA .im A2
  | .get d k x, As => AB (aE sm con d As) fun d A1 => AB (aE sm con k A1) fun _ A2 => AB (aX sm con x A2) fun x A3 => RA (jn (valA d) x) A3
  | .isi a _, As => AB (aE sm con a As) fun _ A1 => RA .im A1
  | .ix a i, As => AB (aE sm con a As) fun x A1 => AB (aE sm con i A1) fun _ A2 => RA (ixA x i) A2
  | .dix a i, As => AB (aE sm con a As) fun x A1 => AB (aE sm con i A1) fun _ A2 => RA (valA x) A2
  | .din _ k d, As => AB (aE sm con k As) fun _ A1 => AB (aE sm con d A1) fun _ A2 => RA .im A2
  | .fld a f, As => AB (aE sm con a As) fun x A1 => match fldA x f with
    | some r => RA r A1
    | none => none
  | .sl a lo hi, As => AB (aE sm con a As) fun x A1 => AB (aX sm con lo A1) fun _ A2 => AB (aX sm con hi A2) fun _ A3 => RA (.ol (upA (itA x))) A3
  | .rev a, As => AB (aE sm con a As) fun x A1 => RA (.ol (upA (itA x))) A1
  | .lst es, As => AB (aEs sm con es As) fun xs A1 => RA (.ol (jns xs)) A1
  | .tup es, As => AB (aEs sm con es As) fun xs A1 => RA (tupA xs) A1
  | .dic0 _, As => RA (.od .no) As
  | .lc own tg it c e, As => AB (aI sm con it As) fun x A1 => if tg.ins own then match fixE (fun X => match bindA tg x X with
      | none => none
      | some X1 => AB (aX sm con c X1) fun _ X2 => AB (aE sm con e X2) fun r X3 => gdA (noBA r) (RA r (wipeA (jnE X2 X3) own))) (wipeA A1 own) ROUNDS (wipeA A1 own) with
    | some (r, X) => RA (.ol r) (wipeA X own)
    | none => none
    else none
def aX (sm : Sum) (con : String → Option D) : OE → AEnv → Option (AR A)
  | .no, As => RA .im As
  | .so e, As => aE sm con e As
def aEs (sm : Sum) (con : String → Option D) : Es → AEnv → Option (AR (List A))
  | .nil, As => RA [] As
  | .cons e es, As => AB (aE sm con e As) fun x A1 => AB (aEs sm con es A1) fun xs A2 => RA (x :: xs) A2
def aI (sm : Sum) (con : String → Option D) : I → AEnv → Option (AR IA)
  | .seq e, As => AB (aE sm con e As) fun x A1 => gdA (noBA x) (RA (.u (itF x)) A1)
  | .rng1 a, As => AB (aE sm con a As) fun _ A1 => RA (.u .im) A1
  | .rng2 a b, As => AB (aE sm con a As) fun _ A1 => AB (aE sm con b A1) fun _ A2 => RA (.u .im) A2
  | .rng3 a b c, As => AB (aE sm con a As) fun _ A1 => AB (aE sm con b A1) fun _ A2 => AB (aE sm con c A2) fun _ A3 => RA (.u .im) A3
  | .enum e, As => AB (aE sm con e As) fun x A1 => gdA (noBA x) (RA (.p .im (itF x)) A1)
  | .zip a b, As => AB (aE sm con a As) fun x A1 => AB (aE sm con b A1) fun y A2 => gdA (noBA x && noBA y) (RA (.p (itF x) (itF y)) A2)
  | .rvd a, As => AB (aE sm con a As) fun x A1 => gdA (noBA x) (RA (.u (itF x)) A1)
  | .keys a, As => AB (aE sm con a As) fun x A1 => gdA (noBA x) (RA (.u .im) A1)
  | .keysM a, As => AB (aE sm con a As) fun x A1 => gdA (noBA x) (RA (.u .im) A1)
  | .dvals a, As => AB (aE sm con a As) fun x A1 => gdA (noBA x) (RA (.u (valA (frA x))) A1)
  | .ditems a, As => AB (aE sm con a As) fun x A1 => gdA (noBA x) (RA (.p .im (valA (frA x))) A1)
end

/-! ### places -/
inductive AK where
  | n (k : Option Nat) | f (s : String)
def gtA : A → List AK → Option A
  | a, [] => some a
  | .ol a, .n _ :: p => gtA a p
  | .ot as, .n (some k) :: p => match as[k]? with
    | some a => gtA a p
    | none => none
  | .oo _ ns as, .f s :: p => match fIx ns s with
    | some k => (match as[k]? with
      | some a => gtA a p
      | none => none)
    | none => none
  | _, _ => none
def stA : A → List AK → A → A
  | _, [], u => u
  | .ol a, .n _ :: p, u => .ol (jn a (stA a p u))
  | .ot as, .n (some k) :: p, u => match as[k]? with
    | some a => .ot (as.set k (stA a p u))
    | none => .ot as
  | .oo c ns as, .f s :: p, u => match fIx ns s with
    | some k => (match as[k]? with
      | some a => .oo c ns (as.set k (stA a p u))
      | none => .oo c ns as)
    | none => .oo c ns as
  | a, _, _ => a
abbrev PthA := Nat × List AK
def gtAs (As : AEnv) (q : PthA) : Option A := match As[q.1]? with
  | some (some a) => gtA a q.2
  | _ => none
def stAs (As : AEnv) (q : PthA) (u : A) : AEnv := match As[q.1]? with
  | some (some a) => As.set q.1 (some (stA a q.2 u))
  | _ => As
def isQA : Option A → Bool
  | some (.ol _) => true
  | some (.ot _) => true
  | _ => false
def isOA : Option A → Bool
  | some (.oo _ _ _) => true
  | _ => false
def aPl (sm : Sum) (con : String → Option D) : Pl → AEnv → Option (AR PthA)
  | .nm i, As => match As[i]? with
    | some (some _) => RA (i, []) As
    | _ => none
  | .ix p e, As => AB (aPl sm con p As) fun q A1 => AB (aE sm con e A1) fun _ A2 => if isQA (gtAs A1 q) && isQA (gtAs A2 q) then RA (q.1, q.2 ++ [.n (isOt e)]) A2 else none
  | .fl p f, As => AB (aPl sm con p As) fun q A1 => if isOA (gtAs A1 q) then RA (q.1, q.2 ++ [.f f]) A1 else none
def olA : Option A → Option A
  | some (.ol a) => some a
  | _ => none
def odA : Option A → Option A
  | some (.od a) => some a
  | _ => none
def mutA (m : MO) (a : A) (xs : List A) : Option A := match m, xs with
  | .append, [x] => gdA (noBA x) (some (.ol (jn a x)))
  | .extend, [x] => gdA (noBA x || isIm (itA x)) (some (.ol (jn a (itA x))))
  | .reverse, [] => some (.ol a)
  | .clear, [] => some (.ol .no)
  | .insert, [_, x] => gdA (noBA x) (some (.ol (jn a x)))
  | _, _ => none
def stfA (c : String) (o : Option A) (f : String) (x : A) : Option A := match o with
  | some (.oo c' ns as) => if c' == c then (match fIx ns f with
    | some k => some (.oo c ns (as.set k x))
    | none => some (.oo c (ns ++ [f]) (as ++ [x]))) else none
  | _ => none
def go (As : AEnv) : AO := ⟨some As, none, none, none, none⟩
mutual
def aS (sm : Sum) (con : String → Option D) : S → AEnv → Option AO
  | .set i e, As => BO (aE sm con e As) fun x A1 => gdA (noBA x) (some (go (A1.set i (some x))))
  | .setF i e, As => BO (aE sm con e As) fun x A1 => gdA (noBA x) (some (go (A1.set i (some (frA x)))))
  | .setT is e, As => BO (aE sm con e As) fun x A1 => gdA (noBA x) ((slA A1 is (partA is.length x)).map go)
  | .sto p ix e, As => BO (aE sm con e As) fun x A1 => BO (aPl sm con p A1) fun q A2 => BO (aE sm con ix A2) fun _ A3 => match olA (gtAs A2 q), olA (gtAs A3 q) with
    | some _, some a => gdA (noBA x) (some (go (stAs A3 q (.ol (jn a x)))))
    | _, _ => none
  | .dsto p ix e, As => BO (aE sm con e As) fun x A1 => BO (aPl sm con p A1) fun q A2 => BO (aE sm con ix A2) fun _ A3 => match odA (gtAs A2 q), odA (gtAs A3 q) with
    | some _, some a => gdA (noBA x) (some (go (stAs A3 q (.od (jn a x)))))
    | _, _ => none
  | .stf c p f e, As => BO (aE sm con e As) fun x A1 => BO (aPl sm con p A1) fun q A2 => match stfA c (gtAs A2 q) f x with
    | some u => gdA (noBA x) (some (go (stAs A2 q u)))
    | none => none
  | .augV i _ e, As => match As[i]? with
    | some (some _) => BO (aE sm con e As) fun _ A1 => some (go (A1.set i (some .im)))
    | _ => none
  | .augS i _ ix e, As => match olA (gtAs As (i, [])) with
    | some _ => BO (aE sm con ix As) fun _ A1 => match olA (gtAs A1 (i, [])) with
      | some _ => BO (aE sm con e A1) fun _ A2 => (match olA (gtAs A2 (i, [])) with
        | some a => some (go (A2.set i (some (.ol (jn a .im)))))
        | none => none)
      | none => none
    | none => none
  | .mut m p as, As => BO (aPl sm con p As) fun q A1 => BO (aEs sm con as A1) fun xs A2 => match olA (gtAs A1 q), olA (gtAs A2 q) with
    | some _, some a => (match mutA m a xs with
      | some u => some (go (stAs A2 q u))
      | none => none)
    | _, _ => none
  | .pop i p as, As => BO (aPl sm con p As) fun q A1 => BO (aEs sm con as A1) fun xs A2 => match olA (gtAs A1 q), olA (gtAs A2 q) with
    | some _, some a => some (go ((stAs A2 q (.ol a)).set i (some a)))
    | _, _ => none
  | .ex e, As => BO (aE sm con e As) fun _ A1 => some (go A1)
  | .ife c a b, As => BO (aE sm con c As) fun _ A1 => match aSs sm con a A1, aSs sm con b A1 with
    | some y, some z => some (y.jn z)
    | _, _ => none
  | .for tg it body, As => BO (aI sm con it As) fun x A1 => match fixS (fun X => match bindA tg x X with
      | none => none
      | some X1 => aSs sm con body X1) A1 ROUNDS A1 with
    | some (X, O) => some ⟨jnO (some X) O.bk, none, none, O.rt, O.ex⟩
    | none => none
  | .whl _ c body, As => match fixS (fun X => BO (aE sm con c X) fun _ X1 => (aSs sm con body X1).map fun O => ⟨O.nx, jnO (some X1) O.bk, O.ct, O.rt, O.ex⟩) As ROUNDS As with
    | some (_, O) => some ⟨O.bk, none, none, O.rt, O.ex⟩
    | none => none
  | .ret io e, As => BO (aE sm con e As) fun x A1 => gdA (noBA x) (some ⟨none, none, none, some (x, keepA io A1), none⟩)
  | .retN io, As => some ⟨none, none, none, some (.im, keepA io As), none⟩
  | .pass, As => some (go As)
  | .brk, As => some ⟨none, some As, none, none, none⟩
  | .cnt, As => some ⟨none, none, some As, none, none⟩
  | .dead, _ => some ⟨none, none, none, none, none⟩
def aSs (sm : Sum) (con : String → Option D) : Ss → AEnv → Option AO
  | .nil, As => some (go As)
  | .cons s ss, As => match aS sm con s As with
    | none => none
    | some O => (match O.nx with
      | none => some O
      | some X => (aSs sm con ss X).map fun Q => (⟨none, O.bk, O.ct, O.rt, O.ex⟩ : AO).jn Q)
  | .kill is ss, As => aSs sm con ss (wipeA As is)
end
/-- what a def tells: its parameters, its answer, what it hands back, and so where it raises -/
structure Tab where
  f : String
  ps : List A
  r : A
  os : List A
  xs : List A
def smOf (tab : List Tab) : Sum := fun f ps => (tab.find? fun e => e.f == f && (les ps e.ps && les e.ps ps)).map fun e => (e.r, e.os)
def outA (As : AEnv) : List Nat → Option (List A)
  | [] => some []
  | i :: is => match As[i]?, outA As is with
    | some (some a), some as => some (a :: as)
    | _, _ => none
def leOut (o : Option (List A)) (os : List A) : Bool := match o with
  | some as => les as os
  | none => false
def okTab (P : String → Option Fn) (con : String → Option D) (tab : List Tab) (e : Tab) : Bool := match P e.f with
  | none => false
  | some fn => decide (e.ps.length = fn.np) && decide (fn.np ≤ fn.ns) && decide (fn.io = List.range e.os.length) && noBAs e.ps && noBA e.r && (match aSs (smOf tab) con fn.body (e.ps.map some ++ List.replicate (fn.ns - fn.np) none) with
    | none => false
    | some O => (match O.nx with
      | none => true
      | some X => le .im e.r && leOut (outA X fn.io) e.os) && (match O.rt with
      | none => true
      | some x => le x.1 e.r && leOut (outA x.2 fn.io) e.os) && (match O.ex with
      | none => true
      | some X => leOut (outA X fn.io) e.xs))
def okTabs (P : String → Option Fn) (con : String → Option D) (tab : List Tab) : Bool := tab.all (okTab P con tab)
end Tv

namespace Tv
open PySem PySem.Spec

/-! ### what is told holds -/
theorem nfs_all (ts : List T) : T.nfs ts = ts.all T.nf := by
  induction ts with
  | nil => rfl
  | cons t ts ih => simp [T.nfs, ih]
theorem nfs_mem {ts : List T} (h : T.nfs ts = true) {u : T} (hu : u ∈ ts) : u.nf = true := by
  rw [nfs_all, List.all_eq_true] at h; exact h u hu
theorem nfs_of {ts : List T} (h : ∀ u ∈ ts, u.nf = true) : T.nfs ts = true := by rw [nfs_all, List.all_eq_true]; exact h
theorem cls_of {ts : List T} (h : ∀ u ∈ ts, u.cl = true) : T.cls ts = true := by rw [cls_all, List.all_eq_true]; exact h
theorem noBs_of {ts : List T} (h : ∀ u ∈ ts, u.noB = true) : T.noBs ts = true := by rw [noBs_all, List.all_eq_true]; exact h
theorem clsMem {ts : List T} (h : T.cls ts = true) {u : T} (hu : u ∈ ts) : u.cl = true := by
  rw [cls_all, List.all_eq_true] at h; exact h u hu
theorem noBs_mem {ts : List T} (h : T.noBs ts = true) {u : T} (hu : u ∈ ts) : u.noB = true := by
  rw [noBs_all, List.all_eq_true] at h; exact h u hu
theorem imms_mem {ds : List D} (h : D.imms ds = true) {d : D} (hd : d ∈ ds) : d.imm = true := by
  rw [imms_all, List.all_eq_true] at h; exact h d hd
theorem imT_inv {t : T} (h : imT t = true) : ∃ d, t = .v d ∧ d.imm = true := by
  cases t with
  | v d => exact ⟨d, rfl, h⟩
  | _ => cases h
theorem imT_nf {t : T} (h : imT t = true) : t.nf = true := by obtain ⟨d, rfl, _⟩ := imT_inv h; rfl
theorem imT_cl {t : T} (h : imT t = true) : t.cl = true := by obtain ⟨d, rfl, i⟩ := imT_inv h; exact i
theorem imT_noB {t : T} (h : imT t = true) : t.noB = true := T.noB_of_cl (imT_cl h)
theorem imT_er {t : T} (h : imT t = true) : t.er.imm = true := by obtain ⟨d, rfl, i⟩ := imT_inv h; exact i
theorem nf_imm {t : T} (h : t.nf = true) (i : t.er.imm = true) : imT t = true := by
  cases t with
  | v d => exact i
  | w d => simp [T.nf] at h; rw [show (T.w d).er = d from rfl, h] at i; cases i
  | b d => simp [T.nf] at h; rw [show (T.b d).er = d from rfl, h] at i; cases i
  | l ts => simp [T.er, D.imm] at i
  | tp ts => simp [T.nf] at h; simp [T.er, D.imm] at i; rw [h.2] at i; cases i
  | dc k ks ts => simp [T.er, D.imm] at i
  | ob c ns ts => simp [T.er, D.imm] at i
theorem nf_v {t : T} {d : D} (h : t.nf = true) (e : t.er = d) (i : d.imm = true) : t = .v d := by
  obtain ⟨d', rfl, _⟩ := imT_inv (nf_imm h (e ▸ i))
  exact congrArg T.v e
theorem nf_int {t : T} {i : Int} (h : t.nf = true) (e : t.er = .int i) : t = .v (.int i) := nf_v h e rfl
theorem nf_str {t : T} {i : List Nat} (h : t.nf = true) (e : t.er = .str i) : t = .v (.str i) := nf_v h e rfl
theorem nf_bl {t : T} {i : Bool} (h : t.nf = true) (e : t.er = .bl i) : t = .v (.bl i) := nf_v h e rfl
theorem nf_non {t : T} (h : t.nf = true) (e : t.er = .non) : t = .v .non := nf_v h e rfl
theorem gs_len : ∀ {as : List A} {ts : List T}, gs as ts → as.length = ts.length
  | [], [], _ => rfl
  | a :: as, t :: ts, h => by simp only [gs] at h; simp [gs_len h.2]
  | [], _ :: _, h => by simp [gs] at h
  | _ :: _, [], h => by simp [gs] at h
theorem gs_at : ∀ {as : List A} {ts : List T} {i : Nat} {t : T}, gs as ts → ts[i]? = some t → ∃ a, as[i]? = some a ∧ g a t
  | [], [], _, _, _, e => by simp at e
  | a :: as, t :: ts, 0, u, h, e => by simp only [gs] at h; simp at e; subst e; exact ⟨a, rfl, h.1⟩
  | a :: as, t :: ts, i + 1, u, h, e => by
    simp only [gs] at h
    obtain ⟨b, h1, h2⟩ := gs_at (i := i) (t := u) h.2 (by simpa using e)
    exact ⟨b, by simpa using h1, h2⟩
  | [], _ :: _, _, _, h, _ => by simp [gs] at h
  | _ :: _, [], _, _, h, _ => by simp [gs] at h
theorem gs_of : ∀ {as : List A} {ts : List T}, as.length = ts.length → (∀ (i : Nat) (a : A) (t : T), as[i]? = some a → ts[i]? = some t → g a t) → gs as ts
  | [], [], _, _ => by simp [gs]
  | a :: as, t :: ts, l, h => by
    simp only [gs]
    exact ⟨h 0 a t rfl rfl, gs_of (by simpa using l) fun i b u h1 h2 => h (i + 1) b u (by simpa using h1) (by simpa using h2)⟩
  | [], _ :: _, l, _ => by simp at l
  | _ :: _, [], l, _ => by simp at l
mutual
theorem g_nf : ∀ {a : A} {t : T}, g a t → t.nf = true
  | .no, _, h => by simp [g] at h
  | .im, _, h => imT_nf (by simpa [g] using h)
  | .any, _, h => by simpa [g] using h
  | .rd k a, _, h => by simp only [g] at h; exact h.1
  | .ol a, t, h => by
    simp only [g] at h
    rcases h with h | ⟨ts, rfl, h⟩
    · exact imT_nf h
    · exact nfs_of fun u hu => g_nf (h u hu)
  | .ot as, t, h => by
    simp only [g] at h
    rcases h with h | ⟨ts, rfl, h1, h2⟩
    · exact imT_nf h
    · simp only [T.nf, h1, gs_nf h2]; rfl
  | .oq a, t, h => by
    simp only [g] at h
    rcases h with h | ⟨ts, rfl, h1, h2⟩
    · exact imT_nf h
    · simp only [T.nf, h1, nfs_of fun u hu => g_nf (h2 u hu)]; rfl
  | .od a, t, h => by
    simp only [g] at h
    rcases h with h | ⟨k, ks, ts, rfl, h⟩
    · exact imT_nf h
    · exact nfs_of fun u hu => g_nf (h u hu)
  | .oo c ns as, t, h => by
    simp only [g] at h
    rcases h with h | ⟨ts, rfl, h⟩
    · exact imT_nf h
    · exact gs_nf h
theorem gs_nf : ∀ {as : List A} {ts : List T}, gs as ts → T.nfs ts = true
  | [], [], _ => rfl
  | a :: as, t :: ts, h => by simp only [gs] at h; simp only [T.nfs, g_nf h.1, gs_nf h.2]; rfl
  | [], _ :: _, h => by simp [gs] at h
  | _ :: _, [], h => by simp [gs] at h
end
mutual
theorem g_cl : ∀ {a : A} {t : T}, g a t → clA a = true → t.cl = true
  | .no, _, h, _ => by simp [g] at h
  | .im, _, h, _ => imT_cl (by simpa [g] using h)
  | .any, _, _, c => by simp [clA] at c
  | .rd k a, _, h, c => by simp only [g] at h; simp [clA] at c; subst c; exact h.2.1
  | .ol a, t, h, c => by
    simp only [g] at h
    rcases h with h | ⟨ts, rfl, h⟩
    · exact imT_cl h
    · exact cls_of fun u hu => g_cl (h u hu) (by simpa [clA] using c)
  | .ot as, t, h, c => by
    simp only [g] at h
    rcases h with h | ⟨ts, rfl, h1, h2⟩
    · exact imT_cl h
    · exact gs_cl h2 (by simpa [clA] using c)
  | .oq a, t, h, c => by
    simp only [g] at h
    rcases h with h | ⟨ts, rfl, h1, h2⟩
    · exact imT_cl h
    · exact cls_of fun u hu => g_cl (h2 u hu) (by simpa [clA] using c)
  | .od a, t, h, c => by
    simp only [g] at h
    rcases h with h | ⟨k, ks, ts, rfl, h⟩
    · exact imT_cl h
    · exact cls_of fun u hu => g_cl (h u hu) (by simpa [clA] using c)
  | .oo _ ns as, t, h, c => by
    simp only [g] at h
    rcases h with h | ⟨ts, rfl, h⟩
    · exact imT_cl h
    · exact gs_cl h (by simpa [clA] using c)
theorem gs_cl : ∀ {as : List A} {ts : List T}, gs as ts → clAs as = true → T.cls ts = true
  | [], [], _, _ => rfl
  | a :: as, t :: ts, h, c => by simp only [gs] at h; simp only [clAs, Bool.and_eq_true] at c; simp only [T.cls, g_cl h.1 c.1, gs_cl h.2 c.2]; rfl
  | [], _ :: _, h, _ => by simp [gs] at h
  | _ :: _, [], h, _ => by simp [gs] at h
end
mutual
theorem g_noB : ∀ {a : A} {t : T}, g a t → noBA a = true → t.noB = true
  | .no, _, h, _ => by simp [g] at h
  | .im, _, h, _ => imT_noB (by simpa [g] using h)
  | .any, _, _, c => by simp [noBA] at c
  | .rd .c a, _, h, c => by simp only [g] at h; exact T.noB_of_cl h.2.1
  | .rd .n a, _, h, c => by simp only [g] at h; exact h.2.1
  | .rd .b a, _, h, c => by simp [noBA] at c
  | .ol a, t, h, c => by
    simp only [g] at h
    rcases h with h | ⟨ts, rfl, h⟩
    · exact imT_noB h
    · exact noBs_of fun u hu => g_noB (h u hu) (by simpa [noBA] using c)
  | .ot as, t, h, c => by
    simp only [g] at h
    rcases h with h | ⟨ts, rfl, h1, h2⟩
    · exact imT_noB h
    · exact gs_noB h2 (by simpa [noBA] using c)
  | .oq a, t, h, c => by
    simp only [g] at h
    rcases h with h | ⟨ts, rfl, h1, h2⟩
    · exact imT_noB h
    · exact noBs_of fun u hu => g_noB (h2 u hu) (by simpa [noBA] using c)
  | .od a, t, h, c => by
    simp only [g] at h
    rcases h with h | ⟨k, ks, ts, rfl, h⟩
    · exact imT_noB h
    · exact noBs_of fun u hu => g_noB (h u hu) (by simpa [noBA] using c)
  | .oo _ ns as, t, h, c => by
    simp only [g] at h
    rcases h with h | ⟨ts, rfl, h⟩
    · exact imT_noB h
    · exact gs_noB h (by simpa [noBA] using c)
theorem gs_noB : ∀ {as : List A} {ts : List T}, gs as ts → noBAs as = true → T.noBs ts = true
  | [], [], _, _ => rfl
  | a :: as, t :: ts, h, c => by simp only [gs] at h; simp only [noBAs, Bool.and_eq_true] at c; simp only [T.noBs, g_noB h.1 c.1, gs_noB h.2 c.2]; rfl
  | [], _ :: _, h, _ => by simp [gs] at h
  | _ :: _, [], h, _ => by simp [gs] at h
end
theorem g_kd {k : Kd} {a : A} {t : T} (h : g a t) (c : kdA k a = true) : k.ok t := by
  cases k with
  | c => exact g_cl h c
  | n => exact g_noB h c
  | b => trivial
theorem imT_kd {k : Kd} {t : T} (h : imT t = true) : k.ok t := by
  cases k with
  | c => exact imT_cl h
  | n => exact imT_noB h
  | b => trivial
theorem g_st {a : A} {t : T} (h : g a t) : ∃ u, g a.st u ∧ u.er = t.er := by
  cases a with
  | rd k a => simp only [g] at h; exact h.2.2
  | _ => exact ⟨t, h, rfl⟩
mutual
theorem le_ok : ∀ (b : A) {a : A} {t : T}, le a b = true → g a t → g b t
  | .any, a, t, _, h => by simp only [g]; exact g_nf h
  | .no, a, t, e, h => by cases a <;> first | exact h | (simp [le] at e; done)
  | .im, a, t, e, h => by cases a <;> first | (simp [g] at h; done) | exact h | (simp [le] at e; done)
  | .rd k b, a, t, e, h => by
    have key : kdA k a = true → le a.st b = true → g (.rd k b) t := fun e1 e2 => by
      obtain ⟨u, hu, he⟩ := g_st h
      simp only [g]
      exact ⟨g_nf h, g_kd h e1, u, le_ok b e2 hu, he⟩
    cases a with
    | no => simp [g] at h
    | im =>
      simp only [le] at e
      have h' : imT t = true := by simpa [g] using h
      simp only [g]
      exact ⟨imT_nf h', imT_kd h', t, le_ok b e h, rfl⟩
    | _ => simp only [le, Bool.and_eq_true] at e; exact key e.1 e.2
  | .ol b, a, t, e, h => by
    cases a with
    | no => simp [g] at h
    | im => simp only [g] at h ⊢; exact .inl h
    | ol a =>
      simp only [le] at e
      simp only [g] at h ⊢
      rcases h with h | ⟨ts, h1, h2⟩
      · exact .inl h
      · exact .inr ⟨ts, h1, fun u hu => le_ok b e (h2 u hu)⟩
    | _ => simp [le] at e
  | .ot bs, a, t, e, h => by
    cases a with
    | no => simp [g] at h
    | im => simp only [g] at h ⊢; exact .inl h
    | ot as =>
      simp only [le] at e
      simp only [g] at h ⊢
      rcases h with h | ⟨ts, h1, h2, h3⟩
      · exact .inl h
      · exact .inr ⟨ts, h1, h2, les_ok bs e h3⟩
    | _ => simp [le] at e
  | .oq b, a, t, e, h => by
    cases a with
    | no => simp [g] at h
    | im => simp only [g] at h ⊢; exact .inl h
    | oq a =>
      simp only [le] at e
      simp only [g] at h ⊢
      rcases h with h | ⟨ts, h1, h2, h3⟩
      · exact .inl h
      · exact .inr ⟨ts, h1, h2, fun u hu => le_ok b e (h3 u hu)⟩
    | ot as =>
      simp only [le, List.all_eq_true] at e
      simp only [g] at h ⊢
      rcases h with h | ⟨ts, h1, h2, h3⟩
      · exact .inl h
      · refine .inr ⟨ts, h1, h2, fun u hu => ?_⟩
        obtain ⟨i, hi⟩ := List.mem_iff_getElem?.mp hu
        obtain ⟨a, ha, hg⟩ := gs_at h3 hi
        exact le_ok b (e a (List.mem_of_getElem? ha)) hg
    | _ => simp [le] at e
  | .od b, a, t, e, h => by
    cases a with
    | no => simp [g] at h
    | im => simp only [g] at h ⊢; exact .inl h
    | od a =>
      simp only [le] at e
      simp only [g] at h ⊢
      rcases h with h | ⟨k, ks, ts, h1, h2⟩
      · exact .inl h
      · exact .inr ⟨k, ks, ts, h1, fun u hu => le_ok b e (h2 u hu)⟩
    | _ => simp [le] at e
  | .oo c ns bs, a, t, e, h => by
    cases a with
    | no => simp [g] at h
    | im => simp only [g] at h ⊢; exact .inl h
    | oo c' ns' as =>
      simp only [le, Bool.and_eq_true, beq_iff_eq] at e
      obtain ⟨⟨rfl, rfl⟩, e⟩ := e
      simp only [g] at h ⊢
      rcases h with h | ⟨ts, h1, h3⟩
      · exact .inl h
      · exact .inr ⟨ts, h1, les_ok bs e h3⟩
    | _ => simp [le] at e
theorem les_ok : ∀ (bs : List A) {as : List A} {ts : List T}, les as bs = true → gs as ts → gs bs ts
  | [], [], ts, _, h => h
  | [], _ :: _, ts, e, _ => by simp [les] at e
  | b :: bs, [], ts, e, _ => by simp [les] at e
  | b :: bs, a :: as, ts, e, h => by
    cases ts with
    | nil => simp [gs] at h
    | cons t ts =>
      simp only [les, Bool.and_eq_true] at e
      simp only [gs] at h ⊢
      exact ⟨le_ok b e.1 h.1, les_ok bs e.2 h.2⟩
end
theorem top_l {a b : A} {t : T} (h : g a t ∨ g b t) : g (top2 a b) t := by
  have n : t.nf = true := h.elim g_nf g_nf
  unfold top2 kd2
  simp only [g]
  refine ⟨n, ?_, t, n, rfl⟩
  by_cases c : (clA a && clA b) = true
  · rw [if_pos c]
    simp only [Bool.and_eq_true] at c
    exact h.elim (fun h => g_cl h c.1) fun h => g_cl h c.2
  · rw [if_neg c]
    by_cases c : (noBA a && noBA b) = true
    · rw [if_pos c]
      simp only [Bool.and_eq_true] at c
      exact h.elim (fun h => g_noB h c.1) fun h => g_noB h c.2
    · rw [if_neg c]; trivial
theorem jn_ok {a b : A} {t : T} (h : g a t ∨ g b t) : g (jn a b) t := by
  unfold jn
  by_cases c : le a b = true
  · rw [if_pos c]; exact h.elim (le_ok b c) id
  · rw [if_neg c]
    by_cases c : le b a = true
    · rw [if_pos c]; exact h.elim id (le_ok a c)
    · rw [if_neg c]
      by_cases c : (le a (mix a b) && le b (mix a b)) = true
      · rw [if_pos c]
        simp only [Bool.and_eq_true] at c
        exact h.elim (le_ok _ c.1) (le_ok _ c.2)
      · rw [if_neg c]; exact top_l h
theorem jn_l {a b : A} {t : T} (h : g a t) : g (jn a b) t := jn_ok (.inl h)
theorem jn_r {a b : A} {t : T} (h : g b t) : g (jn a b) t := jn_ok (.inr h)
theorem jns_ok : ∀ {as : List A} {a : A} {t : T}, a ∈ as → g a t → g (jns as) t
  | b :: as, a, t, m, h => by
    rcases List.mem_cons.mp m with rfl | m
    · exact jn_l h
    · exact jn_r (jns_ok m h)
theorem g_im {t : T} (h : imT t = true) : g .im t := by simpa [g] using h
theorem up_ok {a : A} {t : T} (h : imT t = true ∨ g a t) : g (upA a) t := jn_ok (h.imp_left g_im)
theorem rd_ok {k : Kd} {a : A} {t u : T} (n : t.nf = true) (c : k.ok t) (h : g a u) (e : u.er = t.er) : g (rd' k a) t := by
  have key : ∀ b, g b u → g (.rd k b) t := fun b hb => by simp only [g]; exact ⟨n, c, u, hb, e⟩
  cases a with
  | no => simp [g] at h
  | im =>
    have h' : imT u = true := by simpa [g] using h
    exact g_im (nf_imm n (e ▸ imT_er h'))
  | rd k' a =>
    simp only [g] at h
    obtain ⟨_, _, v, hv, ev⟩ := h
    simp only [rd', g]
    exact ⟨n, c, v, hv, ev.trans e⟩
  | _ => exact key _ h
theorem bor_er (t : T) : (bor t).er = t.er := by
  cases t with
  | v d => rfl
  | w d => rfl
  | _ => simp only [bor, subB]; split <;> rfl
theorem bor_nf {t : T} (h : t.nf = true) : (bor t).nf = true := by
  cases t with
  | v d => rfl
  | w d => exact h
  | _ => simp only [bor, subB]; split <;> simp_all [T.nf]
theorem bor_ok {a : A} {t : T} (h : g a t) : g (borA a) (bor t) := rd_ok (bor_nf (g_nf h)) trivial h (bor_er t).symm
theorem fr_ok {a : A} {t : T} (h : g a t) (b : t.noB = true) : g (frA a) t := by
  refine rd_ok (g_nf h) ?_ h rfl
  by_cases c : clA a = true
  · rw [if_pos c]; exact g_cl h c
  · rw [if_neg c]; exact b
theorem fz_sim {a : A} {t : T} (h : g a t) (b : t.noB = true) : ∃ u, t.fz = some u ∧ u.er = t.er ∧ g (frA a) u ∧ u.noB = true ∧ isF u = true := by
  have n := g_nf h
  have key : ∀ u : T, u.er = t.er → u.nf = true → u.noB = true → (t.cl = true → u.cl = true) → g (frA a) u := fun u e n' b' c => by
    refine rd_ok n' ?_ h e.symm
    by_cases c' : clA a = true
    · rw [if_pos c']; exact c (g_cl h c')
    · rw [if_neg c']; exact b'
  unfold T.fz
  by_cases c1 : t.er.imm = true
  · rw [if_pos c1]; exact ⟨_, rfl, rfl, key _ rfl rfl rfl fun _ => c1, rfl, rfl⟩
  · rw [if_neg c1]
    by_cases c2 : t.cl = true
    · rw [if_pos c2]; exact ⟨_, rfl, rfl, key _ rfl (by simp [T.nf, c1]) rfl fun _ => rfl, rfl, rfl⟩
    · rw [if_neg c2, if_pos b]; exact ⟨_, rfl, rfl, key _ rfl rfl rfl fun h => absurd h c2, rfl, rfl⟩
theorem ers_eq (ts : List T) : T.ers ts = ts.map T.er := ers_map ts
theorem subW_er (d : D) : (subW d).er = d := by unfold subW; split <;> rfl
theorem subB_er (d : D) : (subB d).er = d := by unfold subB; split <;> rfl
theorem subW_nf (d : D) : (subW d).nf = true := by unfold subW; split <;> simp_all [T.nf]
theorem subB_nf (d : D) : (subB d).nf = true := by unfold subB; split <;> simp_all [T.nf]
theorem subW_cl (d : D) : (subW d).cl = true := by unfold subW; split <;> simp_all [T.cl]
theorem subW_noB (d : D) : (subW d).noB = true := T.noB_of_cl (subW_cl d)
theorem map_er_v (ds : List D) : T.ers (ds.map .v) = ds := by rw [ers_map, List.map_map]; exact (List.map_congr_left fun _ _ => rfl).trans (List.map_id ds)
theorem map_er_w (ds : List D) : T.ers (ds.map subW) = ds := by rw [ers_map, List.map_map]; exact (List.map_congr_left fun d _ => subW_er d).trans (List.map_id ds)
theorem map_er_b (ds : List D) : T.ers (ds.map subB) = ds := by rw [ers_map, List.map_map]; exact (List.map_congr_left fun d _ => subB_er d).trans (List.map_id ds)
theorem map_er_i (ns : List Int) : T.ers (ns.map fun n => T.v (.int n)) = ns.map .int := by rw [ers_map, List.map_map]; rfl
/-- items, one beside the other -/
structure Its (t : T) (ts : List T) (ds : List D) : Prop where
  er : T.ers ts = ds
  nf : t.nf = true → T.nfs ts = true
  cl : t.cl = true → T.cls ts = true
  nb : t.noB = true → T.noBs ts = true
theorem its_k {t : T} {ts : List T} {ds : List D} (h : Its t ts ds) {k : Kd} {u : T} (c : k.ok t) (hu : u ∈ ts) : k.ok u := by
  cases k with
  | c => exact clsMem (h.cl c) hu
  | n => exact noBs_mem (h.nb c) hu
  | b => trivial
theorem asQ_sim : ∀ {t : T} {ds : List D}, qD t.er = some ds → ∃ ts, asQ t = some ts ∧ Its t ts ds := by
  intro t ds e
  have hv : ∀ {d : D} {xs : List D}, (d.imm = true → D.imms xs = true) → Its (.v d) (xs.map .v) xs := fun i => ⟨map_er_v _, fun _ => nfs_of fun u hu => by
      obtain ⟨x, _, rfl⟩ := List.mem_map.mp hu; rfl, fun h => cls_of fun u hu => by
      obtain ⟨x, hx, rfl⟩ := List.mem_map.mp hu; exact imms_mem (i h) hx, fun _ => noBs_of fun u hu => by
      obtain ⟨x, _, rfl⟩ := List.mem_map.mp hu; rfl⟩
  have hw : ∀ {d : D} {xs : List D}, Its (.w d) (xs.map subW) xs := ⟨map_er_w _, fun _ => nfs_of fun u hu => by
      obtain ⟨x, _, rfl⟩ := List.mem_map.mp hu; exact subW_nf x, fun h => cls_of fun u hu => by
      obtain ⟨x, hx, rfl⟩ := List.mem_map.mp hu; exact subW_cl x, fun _ => noBs_of fun u hu => by
      obtain ⟨x, _, rfl⟩ := List.mem_map.mp hu; exact subW_noB x⟩
  have hb : ∀ {d : D} {xs : List D}, Its (.b d) (xs.map subB) xs := ⟨map_er_b _, fun _ => nfs_of fun u hu => by
      obtain ⟨x, _, rfl⟩ := List.mem_map.mp hu; exact subB_nf x, fun h => by simp [T.cl] at h, fun h => by simp [T.noB] at h⟩
  have hi : ∀ {t : T} {ns : List Int}, Its t (ns.map fun n => T.v (.int n)) (ns.map .int) := ⟨map_er_i _, fun _ => nfs_of fun u hu => by
      obtain ⟨x, _, rfl⟩ := List.mem_map.mp hu; rfl, fun h => cls_of fun u hu => by
      obtain ⟨x, hx, rfl⟩ := List.mem_map.mp hu; rfl, fun _ => noBs_of fun u hu => by
      obtain ⟨x, _, rfl⟩ := List.mem_map.mp hu; rfl⟩
  cases t with
  | v d => cases d with
    | lst xs => cases e; exact ⟨_, rfl, hv fun h => by simp [D.imm] at h⟩
    | tup xs => cases e; exact ⟨_, rfl, hv fun h => by simpa [D.imm] using h⟩
    | ktp xs => cases e; exact ⟨_, rfl, hv fun h => by simpa [D.imm] using h⟩
    | scr ns => cases e; exact ⟨_, rfl, hi⟩
    | _ => cases e
  | w d => cases d with
    | lst xs => cases e; exact ⟨_, rfl, hw⟩
    | tup xs => cases e; exact ⟨_, rfl, hw⟩
    | ktp xs => cases e; exact ⟨_, rfl, hw⟩
    | scr ns => cases e; exact ⟨_, rfl, hi⟩
    | _ => cases e
  | b d => cases d with
    | lst xs => cases e; exact ⟨_, rfl, hb⟩
    | tup xs => cases e; exact ⟨_, rfl, hb⟩
    | ktp xs => cases e; exact ⟨_, rfl, hb⟩
    | scr ns => cases e; exact ⟨_, rfl, hi⟩
    | _ => cases e
  | l ts => cases e; exact ⟨_, rfl, rfl, fun h => h, fun h => h, fun h => h⟩
  | tp ts => cases e; exact ⟨_, rfl, rfl, fun h => by simp only [T.nf, Bool.and_eq_true] at h; exact h.1, fun h => h, fun h => h⟩
  | dc k ks ts => cases e
  | ob c ns ts => cases e
theorem asQ_L {t : T} {ds : List D} (e : lD t.er = some ds) : lOnly t = asQ t ∧ qD t.er = some ds := by
  cases t with
  | v d => cases d <;> first | (cases e; done) | exact ⟨rfl, e⟩
  | w d => cases d <;> first | (cases e; done) | exact ⟨rfl, e⟩
  | b d => cases d <;> first | (cases e; done) | exact ⟨rfl, e⟩
  | l ts => exact ⟨rfl, e⟩
  | _ => cases e
theorem asQ_0 {t : T} {ds : List D} (e : lD0 t.er = some ds) : asL t = asQ t ∧ lD t.er = some ds := by
  cases t with
  | v d => cases d <;> first | (cases e; done) | exact ⟨rfl, e⟩
  | w d => cases d <;> first | (cases e; done) | exact ⟨rfl, e⟩
  | b d => cases d <;> first | (cases e; done) | exact ⟨rfl, e⟩
  | l ts => exact ⟨rfl, e⟩
  | _ => cases e
theorem ers_at {ts us : List T} (h : T.ers ts = T.ers us) {i : Nat} {t : T} (e : ts[i]? = some t) : ∃ u, us[i]? = some u ∧ u.er = t.er := by
  rw [ers_map, ers_map] at h
  have h1 : (ts.map T.er)[i]? = some t.er := by rw [List.getElem?_map, e]; rfl
  rw [h, List.getElem?_map] at h1
  cases q : us[i]? with
  | none => rw [q] at h1; cases h1
  | some u => rw [q] at h1; exact ⟨u, rfl, by simpa using h1⟩
theorem imT_items {t : T} {ds : List D} {ts : List T} (h : imT t = true) (e : qD t.er = some ds) (q : asQ t = some ts) : ∀ u ∈ ts, imT u = true := by
  obtain ⟨d, rfl, i⟩ := imT_inv h
  cases d with
  | lst xs => simp [D.imm] at i
  | scr ns => simp [D.imm] at i
  | tup xs => cases q; intro u hu; obtain ⟨x, hx, rfl⟩ := List.mem_map.mp hu; exact imms_mem (by simpa [D.imm] using i) hx
  | ktp xs => cases q; intro u hu; obtain ⟨x, hx, rfl⟩ := List.mem_map.mp hu; exact imms_mem (by simpa [D.imm] using i) hx
  | _ => cases e
/-- the items behind what is told of the whole -/
theorem part_ok (F : A → A) (Q : D → Option (List D)) (hQ : ∀ d ds, Q d = some ds → qD d = some ds)
    (hrd : ∀ k a, F (.rd k a) = rd' k (F a)) (P : Nat → Prop)
    (hb : ∀ a t ds ts i u, (∀ k s, a ≠ .rd k s) → g a t → Q t.er = some ds → asQ t = some ts → Its t ts ds → P i → ts[i]? = some u → g (F a) u) :
    ∀ (a : A) {t : T} {ds : List D} {ts : List T} {i : Nat} {u : T}, g a t → Q t.er = some ds → asQ t = some ts → Its t ts ds → P i → ts[i]? = some u → g (F a) u := by
  intro a
  induction a using A.rec (motive_2 := fun _ => True) with
  | rd k s ih =>
    intro t ds ts i u h e q it p eu
    simp only [g] at h
    obtain ⟨n, c, v, hv, ev⟩ := h
    obtain ⟨us, qu, iu⟩ := asQ_sim (t := v) (hQ _ _ (by rw [ev]; exact e))
    obtain ⟨w, ew, er⟩ := ers_at (it.er.trans iu.er.symm) eu
    rw [hrd]
    exact rd_ok (nfs_mem (it.nf n) (List.mem_of_getElem? eu)) (its_k it c (List.mem_of_getElem? eu)) (ih hv (by rw [ev]; exact e) qu iu p ew) er
  | nil => trivial
  | cons => trivial
  | _ =>
    intro t ds ts i u h e q it p eu
    exact hb _ t ds ts i u (fun k s z => by cases z) h e q it p eu
theorem itQ_ok {a : A} {t : T} {ds : List D} {ts : List T} {i : Nat} {u : T} (h : g a t) (e : qD t.er = some ds) (q : asQ t = some ts) (it : Its t ts ds) (eu : ts[i]? = some u) : g (itQ a) u := by
  refine part_ok itQ qD (fun _ _ h => h) (fun _ _ => rfl) (fun _ => True) ?_ a h e q it trivial eu
  intro a t ds ts i u nr h e q it _ eu
  have mem := List.mem_of_getElem? eu
  cases a with
  | rd k s => exact absurd rfl (nr k s)
  | no => simp [g] at h
  | im => exact g_im (imT_items (by simpa [g] using h) e q u mem)
  | any => simp only [g, itQ] at h ⊢; exact nfs_mem (it.nf h) mem
  | ol a =>
    simp only [g] at h
    rcases h with h | ⟨us, rfl, h⟩
    · exact up_ok (.inl (imT_items h e q u mem))
    · cases q; exact up_ok (.inr (h u mem))
  | oq a =>
    simp only [g] at h
    rcases h with h | ⟨us, rfl, _, h⟩
    · exact up_ok (.inl (imT_items h e q u mem))
    · cases q; exact up_ok (.inr (h u mem))
  | ot as =>
    simp only [g] at h
    rcases h with h | ⟨us, rfl, _, h⟩
    · exact up_ok (.inl (imT_items h e q u mem))
    · cases q
      obtain ⟨b, hb, hg⟩ := gs_at h eu
      exact up_ok (.inr (jns_ok (List.mem_of_getElem? hb) hg))
  | od a =>
    simp only [g] at h
    rcases h with h | ⟨k, ks, us, rfl, h⟩
    · exact g_im (imT_items h e q u mem)
    · cases e
  | oo c ns as =>
    simp only [g] at h
    rcases h with h | ⟨us, rfl, h⟩
    · exact g_im (imT_items h e q u mem)
    · cases e
theorem imT_notL {t : T} {ds : List D} (h : imT t = true) (e : lD t.er = some ds) : False := by
  obtain ⟨d, rfl, i⟩ := imT_inv h
  cases d with
  | lst xs => simp [D.imm] at i
  | scr ns => simp [D.imm] at i
  | _ => cases e
theorem itA_ok {a : A} {t : T} {ds : List D} {ts : List T} {i : Nat} {u : T} (h : g a t) (e : lD t.er = some ds) (q : asQ t = some ts) (it : Its t ts ds) (eu : ts[i]? = some u) : g (itA a) u := by
  refine part_ok itA lD (fun d ds h => by cases d <;> first | (cases h; done) | exact h) (fun _ _ => rfl) (fun _ => True) ?_ a h e q it trivial eu
  intro a t ds ts i u nr h e q it _ eu
  have mem := List.mem_of_getElem? eu
  cases a with
  | rd k s => exact absurd rfl (nr k s)
  | no => simp [g] at h
  | im => exact (imT_notL (by simpa [g] using h) e).elim
  | any => simp only [g, itA] at h ⊢; exact nfs_mem (it.nf h) mem
  | ol a =>
    simp only [g] at h
    rcases h with h | ⟨us, rfl, h⟩
    · exact (imT_notL h e).elim
    · cases q; exact h u mem
  | oq a =>
    simp only [g] at h
    rcases h with h | ⟨us, rfl, _, h⟩
    · exact (imT_notL h e).elim
    · cases e
  | ot as =>
    simp only [g] at h
    rcases h with h | ⟨us, rfl, _, h⟩
    · exact (imT_notL h e).elim
    · cases e
  | od a =>
    simp only [g] at h
    rcases h with h | ⟨k, ks, us, rfl, h⟩
    · exact (imT_notL h e).elim
    · cases e
  | oo c ns as =>
    simp only [g] at h
    rcases h with h | ⟨us, rfl, h⟩
    · exact (imT_notL h e).elim
    · cases e
theorem ixN_ok {n : Nat} {a : A} {t : T} {ds : List D} {ts : List T} {u : T} (h : g a t) (e : qD t.er = some ds) (q : asQ t = some ts) (it : Its t ts ds) (eu : ts[n]? = some u) : g (ixN1 a n) u := by
  refine part_ok (fun a => ixN1 a n) qD (fun _ _ h => h) (fun _ _ => rfl) (fun i => i = n) ?_ a h e q it rfl eu
  intro a t ds ts i u nr h e q it p eu
  replace eu : ts[n]? = some u := by rw [← show i = n from p]; exact eu
  cases a with
  | rd k s => exact absurd rfl (nr k s)
  | ot as =>
    have h0 := h
    simp only [g] at h
    simp only [ixN1]
    rcases h with h | ⟨us, rfl, _, h⟩
    · have i1 := imT_items h e q u (List.mem_of_getElem? eu)
      split
      · exact up_ok (.inl i1)
      · exact g_im i1
    · cases q
      obtain ⟨b, hb, hg⟩ := gs_at h eu
      rw [hb]
      exact up_ok (.inr hg)
  | _ => exact itQ_ok h e q it eu
end Tv

namespace Tv
open PySem PySem.Spec

/-! ### operators, by value and as owned -/
theorem ers_len {ts : List T} {ds : List D} (h : T.ers ts = ds) : ts.length = ds.length := by rw [← h, ers_map, List.length_map]
theorem ers_append (a b : List T) : T.ers (a ++ b) = T.ers a ++ T.ers b := by rw [ers_map, ers_map, ers_map, List.map_append]
/-- the items of a list, told of -/
theorem asL_sim {a : A} {t : T} {ds : List D} (h : g a t) (e : lD0 t.er = some ds) : ∃ ts, asL t = some ts ∧ Its t ts ds ∧ ∀ u ∈ ts, g (itA a) u := by
  obtain ⟨e1, e2⟩ := asQ_0 e
  obtain ⟨_, e3⟩ := asQ_L e2
  obtain ⟨ts, q, it⟩ := asQ_sim e3
  exact ⟨ts, e1.trans q, it, fun u hu => by obtain ⟨i, hi⟩ := List.mem_iff_getElem?.mp hu; exact itA_ok h e2 q it hi⟩
theorem lO_sim {a : A} {t : T} {ds : List D} (h : g a t) (e : lD t.er = some ds) : ∃ ts, lOnly t = some ts ∧ Its t ts ds ∧ ∀ u ∈ ts, g (itA a) u := by
  obtain ⟨e1, e3⟩ := asQ_L e
  obtain ⟨ts, q, it⟩ := asQ_sim e3
  exact ⟨ts, e1.trans q, it, fun u hu => by obtain ⟨i, hi⟩ := List.mem_iff_getElem?.mp hu; exact itA_ok h e q it hi⟩
theorem q_sim {a : A} {t : T} {ds : List D} (h : g a t) (e : qD t.er = some ds) : ∃ ts, asQ t = some ts ∧ Its t ts ds ∧ ∀ u ∈ ts, g (itQ a) u := by
  obtain ⟨ts, q, it⟩ := asQ_sim e
  exact ⟨ts, q, it, fun u hu => by obtain ⟨i, hi⟩ := List.mem_iff_getElem?.mp hu; exact itQ_ok h e q it hi⟩
theorem addT_L {x y : T} {a b : List T} (hx : asL x = some a) (hy : asL y = some b) (h : a.length + b.length ≤ LIM) : addT x y = some (.l (a ++ b)) := by
  unfold addT
  split
  · cases hx
  · cases hx
  · rw [hx, hy]
    dsimp only
    rw [if_pos h]
theorem ol_mk {a : A} {ts : List T} (h : ∀ u ∈ ts, g a u) : g (.ol a) (.l ts) := by simp only [g]; exact .inr ⟨ts, rfl, h⟩
theorem isIm_ok {a : A} {t : T} (h : g a t) (c : isIm a = true) : imT t = true := by
  cases a <;> first | (simp [g] at h; done) | (simpa [g] using h) | cases c
theorem notIm_lst {a : A} {t : T} {ds : List D} (h : g a t) (e : t.er = .lst ds) : isIm a = false := by
  cases c : isIm a with
  | false => rfl
  | true => exact (imT_notL (isIm_ok h c) (ds := ds) (by rw [e]; rfl)).elim
theorem imOl {a : A} {t : T} (h : imT t = true) : g (.ol a) t := by simp only [g]; exact .inl h
theorem add_sim {a b : A} {x y : T} {d : D} (ha : g a x) (hb : g b y) (p : addD x.er y.er = some d) : ∃ t, addT x y = some t ∧ t.er = d ∧ g (if isIm a || isIm b then .im else .ol (jn (itA a) (itA b))) t := by
  have imm : ∀ {t : T}, imT t = true → g (if isIm a || isIm b then .im else .ol (jn (itA a) (itA b))) t := fun h => by
    split
    · exact g_im h
    · exact imOl h
  unfold addD at p
  split at p
  · rename_i i j h1 h2
    cases p
    rw [nf_int (g_nf ha) h1, nf_int (g_nf hb) h2]
    exact ⟨_, rfl, rfl, imm rfl⟩
  · rename_i s u h1 h2
    split at p
    · rename_i hl
      cases p
      rw [nf_str (g_nf ha) h1, nf_str (g_nf hb) h2]
      refine ⟨.v (.str (s ++ u)), ?_, rfl, imm rfl⟩
      show (if s.length + u.length ≤ LIM then _ else _) = _
      rw [if_pos hl]
    · cases p
  · rename_i xs ys h1 h2
    split at p
    · rename_i hl
      cases p
      obtain ⟨ts, q1, i1, g1⟩ := asL_sim ha (ds := xs) (by rw [h1]; rfl)
      obtain ⟨us, q2, i2, g2⟩ := asL_sim hb (ds := ys) (by rw [h2]; rfl)
      refine ⟨.l (ts ++ us), addT_L q1 q2 (by rw [ers_len i1.er, ers_len i2.er]; exact hl), ?_, ?_⟩
      · show D.lst (T.ers _) = _
        rw [ers_append, i1.er, i2.er]
      · rw [notIm_lst ha h1, notIm_lst hb h2]
        refine ol_mk fun u hu => ?_
        rcases List.mem_append.mp hu with hu | hu
        · exact jn_l (g1 u hu)
        · exact jn_r (g2 u hu)
    · cases p
  · cases p
theorem ers_rep (k : Nat) (ts : List T) : T.ers (List.replicate k ts).flatten = (List.replicate k (T.ers ts)).flatten := by
  simp only [ers_map]
  rw [List.map_flatten, List.map_replicate]
theorem mul_sim {a b r : A} {x y : T} {d : D} (ha : g a x) (hb : g b y) (e : binA .mul a b = some r) (p : mulD x.er y.er = some d) : ∃ t, mulT x y = some t ∧ t.er = d ∧ g r t := by
  have imm : ∀ {t : T}, imT t = true → g r t := fun h => by
    simp only [binA] at e
    split at e
    · cases e; exact g_im h
    · split at e
      · cases e; exact imOl h
      · cases e
  unfold mulD at p
  split at p
  · rename_i i j h1 h2
    split at p
    · rename_i hl
      cases p
      rw [nf_int (g_nf ha) h1, nf_int (g_nf hb) h2]
      refine ⟨.v (.int (i * j)), ?_, rfl, imm rfl⟩
      show (if i.natAbs.log2 + j.natAbs.log2 < 1000000 then _ else _) = _
      rw [if_pos hl]
    · cases p
  · rename_i xs k h1 h2
    split at p
    · rename_i hl
      cases p
      rw [nf_int (g_nf hb) h2]
      simp only [binA, notIm_lst ha h1] at e
      split at e
      · rename_i hc; cases hc
      split at e
      · rename_i hn
        cases e
        obtain ⟨u, f1, f2, f3, f4, f5⟩ := fz_sim ha (g_noB ha hn)
        obtain ⟨ts, q1, i1, g1⟩ := asL_sim f3 (ds := xs) (by rw [f2, h1]; rfl)
        have ea : asF x = some ts := by unfold asF; rw [f1]; exact q1
        refine ⟨.l (List.replicate k.toNat ts).flatten, ?_, ?_, ?_⟩
        · have l : ts.length * k.toNat ≤ LIM := by rw [ers_len i1.er]; exact hl.2.2
          cases x with
          | v dd => cases dd <;> first | (cases h1; done) | (simp only [mulT, ea]; rw [if_pos ⟨hl.1, hl.2.1, l⟩])
          | _ => simp only [mulT, ea]; rw [if_pos ⟨hl.1, hl.2.1, l⟩]
        · show D.lst (T.ers _) = _
          rw [ers_rep, i1.er]
        · refine ol_mk fun u hu => ?_
          obtain ⟨l, hl1, hl2⟩ := List.mem_flatten.mp hu
          rw [(List.mem_replicate.mp hl1).2] at hl2
          exact g1 u hl2
      · cases e
    · cases p
  · cases p
theorem bin_sim {o : BOp} {a b r : A} {x y : T} {d : D} (ha : g a x) (hb : g b y) (e : binA o a b = some r) (p : binD o x.er y.er = some d) : ∃ t, binT o x y = some t ∧ t.er = d ∧ g r t := by
  cases o with
  | add => cases e; exact add_sim ha hb p
  | mul => exact mul_sim ha hb e p
  | sub =>
    cases e
    simp only [binD] at p
    split at p
    · rename_i i j h1 h2
      cases p
      rw [nf_int (g_nf ha) h1, nf_int (g_nf hb) h2]
      exact ⟨_, rfl, rfl, g_im rfl⟩
    · cases p
  | mod =>
    cases e
    simp only [binD] at p
    split at p
    · rename_i i j h1 h2
      rw [nf_int (g_nf ha) h1, nf_int (g_nf hb) h2]
      split at p
      · rename_i c
        cases p
        exact ⟨.v (.int (i.fmod j)), if_pos c, rfl, g_im rfl⟩
      · cases p
    · cases p
  | fdiv =>
    cases e
    simp only [binD] at p
    split at p
    · rename_i i j h1 h2
      rw [nf_int (g_nf ha) h1, nf_int (g_nf hb) h2]
      split at p
      · rename_i c
        cases p
        exact ⟨.v (.int (i / j)), if_pos c, rfl, g_im rfl⟩
      · cases p
    · cases p
  | pow =>
    cases e
    simp only [binD] at p
    split at p
    · rename_i i j h1 h2
      rw [nf_int (g_nf ha) h1, nf_int (g_nf hb) h2]
      split at p
      · rename_i c
        cases p
        exact ⟨.v (.int (i ^ j.toNat)), if_pos c, rfl, g_im rfl⟩
      · cases p
    · cases p
theorem nfm {ts : List T} {ds : List D} {t : T} (it : Its t ts ds) (n : t.nf = true) : ∀ u ∈ ts, u.nf = true := fun u hu => nfs_mem (it.nf n) hu
theorem ints_sim : ∀ {ts : List T} {ns : List Int}, (∀ u ∈ ts, u.nf = true) → intsD (T.ers ts) = some ns → intsT ts = some ns
  | [], ns, _, e => e
  | t :: ts, ns, n, e => by
    simp only [T.ers] at e
    unfold intsD at e
    split at e
    · rename_i h; cases h
    · rename_i i r h
      cases hr : intsD r with
      | none => rw [hr] at e; cases e
      | some ms =>
        rw [hr] at e; cases e
        injection h with h1 h2
        rw [nf_int (n t (by simp)) h1]
        have := ints_sim (ts := ts) (ns := ms) (fun u hu => n u (by simp [hu])) (by rw [h2]; exact hr)
        simp only [intsT, this]; rfl
    · cases e
theorem intsNone : ∀ {ts : List T}, (∀ u ∈ ts, u.nf = true) → intsD (T.ers ts) = none → intsT ts = none
  | [], _, e => by cases e
  | t :: ts, n, e => by
    unfold intsT
    split
    · rename_i h; cases h
    · rename_i i r h
      cases h
      simp only [T.ers, T.er, intsD] at e
      cases hr : intsD (T.ers ts) with
      | none => rw [intsNone (fun u hu => n u (by simp [hu])) hr]; rfl
      | some ms => rw [hr] at e; cases e
    · rfl
theorem ints_eq {ts : List T} (n : ∀ u ∈ ts, u.nf = true) : intsT ts = intsD (T.ers ts) := by
  cases h : intsD (T.ers ts) with
  | none => exact intsNone n h
  | some ns => exact ints_sim n h
theorem pairs_eq : ∀ {ts : List T}, (∀ u ∈ ts, u.nf = true) → pairsT ts = pairsD (T.ers ts)
  | [], _ => rfl
  | t :: ts, n => by
    have ih := pairs_eq (ts := ts) fun u hu => n u (by simp [hu])
    have nt := n t (by simp)
    simp only [T.ers]
    unfold pairsT pairsD
    split
    · rename_i h; cases h
    · rename_i a b r h
      injection h with h1 h2
      subst h1; subst h2
      show _ = Option.map _ _
      rw [ih]
    · rename_i h1 h2
      split
      · rename_i h; cases h
      · rename_i a b r h
        injection h with h3 h4
        exact (h2 a b ts (by rw [nf_v nt h3 rfl])).elim
      · rfl
theorem bools_eq : ∀ {ts : List T}, (∀ u ∈ ts, u.nf = true) → boolsT ts = boolsD (T.ers ts)
  | [], _ => rfl
  | t :: ts, n => by
    have ih := bools_eq (ts := ts) fun u hu => n u (by simp [hu])
    have nt := n t (by simp)
    simp only [T.ers]
    unfold boolsT boolsD
    split
    · rename_i h; cases h
    · rename_i a r h
      injection h with h1 h2
      subst h1; subst h2
      show _ = Option.map _ _
      rw [ih]
    · rename_i h1 h2
      split
      · rename_i h; cases h
      · rename_i a r h
        injection h with h3 h4
        exact (h2 a ts (by rw [nf_bl nt h3])).elim
      · rfl
theorem strs_eq : ∀ {ts : List T}, (∀ u ∈ ts, u.nf = true) → strsT ts = strsD (T.ers ts)
  | [], _ => rfl
  | t :: ts, n => by
    have ih := strs_eq (ts := ts) fun u hu => n u (by simp [hu])
    have nt := n t (by simp)
    simp only [T.ers]
    unfold strsT strsD
    split
    · rename_i h; cases h
    · rename_i a r h
      injection h with h1 h2
      subst h1; subst h2
      show _ = Option.map _ _
      rw [ih]
    · rename_i h1 h2
      split
      · rename_i h; cases h
      · rename_i a r h
        injection h with h3 h4
        exact (h2 a ts (by rw [nf_str nt h3])).elim
      · rfl
theorem rows_sim {a : A} : ∀ {ts : List T} {rs : List (List D)}, (∀ u ∈ ts, g a u) → rowsD (T.ers ts) = some rs → ∃ us, rowsT ts = some us ∧ us.map T.ers = rs ∧ ∀ r ∈ us, ∀ u ∈ r, g (itA a) u
  | [], rs, _, e => by cases e; exact ⟨[], rfl, rfl, fun r h => by simp at h⟩
  | t :: ts, rs, h, e => by
    simp only [T.ers] at e
    unfold rowsD at e
    split at e
    · rename_i r1 rs1 h1 h2
      cases e
      obtain ⟨r, q, it, gi⟩ := asL_sim (h t (by simp)) h1
      obtain ⟨us, q2, i2, g2⟩ := rows_sim (fun u hu => h u (by simp [hu])) h2
      refine ⟨r :: us, by simp only [rowsT, q, q2], by simp [it.er, i2], fun r' hr' => ?_⟩
      rcases List.mem_cons.mp hr' with rfl | hr'
      · exact gi
      · exact g2 r' hr'
    · cases e
theorem lints_eq {a : A} {x : T} (h : g a x) : (lOnly x).bind intsT = (lD x.er).bind intsD ∨ (lD x.er = none) := by
  cases e : lD x.er with
  | none => exact .inr rfl
  | some ds =>
    obtain ⟨ts, q, it, _⟩ := lO_sim h e
    rw [q]
    left
    show intsT ts = intsD ds
    rw [ints_eq (nfm it (g_nf h)), it.er]
theorem any_eq {ts : List T} {ds : List D} (h : T.ers ts = ds) (f : D → Bool) : (ts.any fun t => f t.er) = ds.any f := by
  rw [← h, ers_map, List.any_map]; rfl
theorem all_eq {ts : List T} {ds : List D} (h : T.ers ts = ds) (f : D → Bool) : (ts.all fun t => f t.er) = ds.all f := by
  rw [← h, ers_map, List.all_map]; rfl
theorem inT_sim {a b : A} {x y : T} {k : Bool} (ha : g a x) (hb : g b y) (p : inD x.er y.er = some k) : inT x y = some k := by
  have gen : inQ x.er y.er = some k → (match asQ y with
    | some ts => if x.er.flat && ts.all (fun t => t.er.flat) then some (ts.any fun t => eqD t.er x.er) else inDT x.er y.er
    | none => none) = some k := fun p => by
    unfold inQ at p
    cases e : qD y.er with
    | none => rw [e] at p; cases p
    | some ds =>
      rw [e] at p
      obtain ⟨ts, q, it, _⟩ := q_sim hb e
      rw [q]
      dsimp only at p ⊢
      rw [all_eq it.er D.flat, any_eq it.er fun z => eqD z x.er]
      exact p
  unfold inD at p
  split at p
  · rename_i c s h1 h2
    rw [nf_str (g_nf ha) h1, nf_str (g_nf hb) h2]
    exact p
  · rename_i h
    have := gen p
    unfold inT
    split
    · rename_i c s
      exact (h c s rfl rfl).elim
    · exact this
theorem cmp_sim {o : COp} {a b : A} {x y : T} {k : Bool} (ha : g a x) (hb : g b y) (p : cmpD o x.er y.er = some k) : cmpT o x y = some k := by
  cases o with
  | eq => exact p
  | ne => exact p
  | isIn => exact inT_sim ha hb p
  | notIn =>
    simp only [cmpD] at p
    simp only [cmpT]
    cases e : inD x.er y.er with
    | none => rw [e] at p; cases p
    | some k' => rw [e] at p; rw [inT_sim ha hb e]; exact p
  | lt =>
    simp only [cmpD] at p
    split at p
    · rename_i i j h1 h2; rw [nf_int (g_nf ha) h1, nf_int (g_nf hb) h2]; exact p
    · cases p
  | le =>
    simp only [cmpD] at p
    split at p
    · rename_i i j h1 h2; rw [nf_int (g_nf ha) h1, nf_int (g_nf hb) h2]; exact p
    · cases p
  | ge =>
    simp only [cmpD] at p
    split at p
    · rename_i i j h1 h2; rw [nf_int (g_nf ha) h1, nf_int (g_nf hb) h2]; exact p
    · cases p
  | isB =>
    simp only [cmpD] at p
    split at p
    · rename_i i j h1 h2; rw [nf_bl (g_nf ha) h1, nf_bl (g_nf hb) h2]; exact p
    · cases p
  | ntB =>
    simp only [cmpD] at p
    split at p
    · rename_i i j h1 h2; rw [nf_bl (g_nf ha) h1, nf_bl (g_nf hb) h2]; exact p
    · cases p
  | gt =>
    simp only [cmpD] at p
    split at p
    · rename_i i j h1 h2; rw [nf_int (g_nf ha) h1, nf_int (g_nf hb) h2]; exact p
    · rename_i h
      unfold gtX at p
      have n1 : lD x.er ≠ none := fun z => by rw [z] at p; cases p
      have n2 : lD y.er ≠ none := fun z => by
        rw [z] at p
        cases q : (lD x.er).bind intsD <;> rw [q] at p <;> cases p
      have e1 := (lints_eq ha).resolve_right n1
      have e2 := (lints_eq hb).resolve_right n2
      simp only [cmpT]
      split
      · exact (h _ _ rfl rfl).elim
      · rw [e1, e2]; exact p
theorem size_sim {a : A} {x : T} {n : Nat} (ha : g a x) (p : sizeD x.er = some n) : sizeT x = some n := by
  have gen : (qD x.er).map List.length = some n → (asQ x).map List.length = some n := fun p => by
    cases e : qD x.er with
    | none => rw [e] at p; cases p
    | some ds =>
      rw [e] at p
      obtain ⟨ts, q, it, _⟩ := q_sim ha e
      rw [q]
      show some ts.length = _
      rw [ers_len it.er]; exact p
  unfold sizeD at p
  split at p
  · rename_i s h; rw [nf_str (g_nf ha) h]; exact p
  · rename_i h
    unfold sizeT
    split
    · exact (h _ rfl).elim
    · exact gen p
theorem mkTp_ok {a : A} {ts : List T} (h : ∀ u ∈ ts, g a u) : g (.oq a) (mkTp ts) := by
  simp only [g]
  unfold mkTp
  split
  · rename_i c; left; show (D.tup _).imm = true; simpa [D.imm] using c
  · rename_i c; exact .inr ⟨ts, rfl, by simpa using c, h⟩
theorem mkTp_er (ts : List T) : (mkTp ts).er = .tup (T.ers ts) := by
  unfold mkTp; split <;> rfl
theorem mkTp_nf {ts : List T} (h : T.nfs ts = true) : (mkTp ts).nf = true := by
  unfold mkTp
  split
  · rfl
  · rename_i c; simp only [T.nf, h]; simpa using c
theorem mkTp_k {k : Kd} {ts : List T} (h : ∀ u ∈ ts, k.ok u) : k.ok (mkTp ts) := by
  unfold mkTp
  cases k with
  | c =>
    split
    · rename_i c; show (D.tup _).imm = true; simpa [D.imm] using c
    · exact cls_of h
  | n =>
    split
    · rfl
    · exact noBs_of h
  | b => trivial
/-- tuple(t) -/
theorem tpl_ok {a : A} {t : T} {ds : List D} (h : g a t) (n : t.noB = true) (e : t.er = .tup ds) : bltT .tuple [t] = some t := by
  cases t with
  | v d => cases e; rfl
  | w d => cases e; rfl
  | tp ts => rfl
  | b d => simp [T.noB] at n
  | _ => cases e
theorem tplA_t {a : A} {t : T} {ds : List D} (h : g a t) (e : t.er = .tup ds) : g (tplA a) t := by
  cases a with
  | no => simp [g] at h
  | im => exact h
  | any => exact h
  | ot as => exact h
  | oq a => exact h
  | ol a =>
    simp only [g] at h
    rcases h with h | ⟨ts, rfl, h⟩
    · simp only [tplA, g]; exact .inl h
    · cases e
  | od a =>
    simp only [g] at h
    rcases h with h | ⟨k, ks, ts, rfl, h⟩
    · exact g_im h
    · cases e
  | oo c ns as =>
    simp only [g] at h
    rcases h with h | ⟨ts, rfl, h⟩
    · exact g_im h
    · cases e
  | rd k s =>
    have h0 := h
    simp only [g] at h
    obtain ⟨nf, c, v, hv, ev⟩ := h
    have top : g (.rd k .any) t := by simp only [g]; exact ⟨nf, c, t, nf, rfl⟩
    cases s with
    | ot as => exact h0
    | oq a => exact h0
    | ol a =>
      simp only [g] at hv
      rcases hv with hv | ⟨us, rfl, _⟩
      · have i := nf_imm nf (by rw [← ev]; exact imT_er hv)
        simp only [tplA, g]; exact .inl i
      · rw [← ev] at e; cases e
    | _ => exact top
theorem tplA_l {a : A} {t : T} {ds : List D} {ts : List T} (h : g a t) (e : lD t.er = some ds) (it : Its t ts ds) (gi : ∀ u ∈ ts, g (itA a) u) : g (tplA a) (mkTp ts) := by
  cases a with
  | no => simp [g] at h
  | im => exact (imT_notL (by simpa [g] using h) e).elim
  | any => simp only [g, tplA] at h ⊢; exact mkTp_nf (it.nf h)
  | ol a => exact mkTp_ok gi
  | ot as =>
    simp only [g] at h
    rcases h with h | ⟨us, rfl, _⟩
    · exact (imT_notL h e).elim
    · cases e
  | oq as =>
    simp only [g] at h
    rcases h with h | ⟨us, rfl, _⟩
    · exact (imT_notL h e).elim
    · cases e
  | od a =>
    simp only [g] at h
    rcases h with h | ⟨k, ks, us, rfl, h⟩
    · exact (imT_notL h e).elim
    · cases e
  | oo c ns as =>
    simp only [g] at h
    rcases h with h | ⟨us, rfl, h⟩
    · exact (imT_notL h e).elim
    · cases e
  | rd k s =>
    have h0 := h
    simp only [g] at h
    obtain ⟨nf, c, v, hv, ev⟩ := h
    have top : g (.rd k .any) (mkTp ts) := by
      simp only [g]
      have n := mkTp_nf (it.nf nf)
      exact ⟨n, mkTp_k fun u hu => its_k it c hu, _, n, rfl⟩
    cases s with
    | ot as =>
      simp only [g] at hv
      rcases hv with hv | ⟨us, rfl, _⟩
      · exact (imT_notL hv (by rw [ev]; exact e)).elim
      · rw [← ev] at e; cases e
    | oq a =>
      simp only [g] at hv
      rcases hv with hv | ⟨us, rfl, _⟩
      · exact (imT_notL hv (by rw [ev]; exact e)).elim
      · rw [← ev] at e; cases e
    | ol a => exact mkTp_ok gi
    | _ => exact top
theorem ers_one {ts : List T} {d : D} (h : T.ers ts = [d]) : ∃ x, ts = [x] ∧ x.er = d := by
  cases ts with
  | nil => cases h
  | cons x ts => cases ts with
    | nil => simp only [T.ers] at h; injection h with h _; exact ⟨x, rfl, h⟩
    | cons y ts => simp [T.ers] at h
theorem ers_two {ts : List T} {d e : D} (h : T.ers ts = [d, e]) : ∃ x y, ts = [x, y] ∧ x.er = d ∧ y.er = e := by
  cases ts with
  | nil => cases h
  | cons x ts =>
    simp only [T.ers] at h
    injection h with h1 h2
    obtain ⟨y, rfl, h3⟩ := ers_one h2
    exact ⟨x, y, rfl, h1, h3⟩
theorem gs_one {xs : List A} {t : T} (h : gs xs [t]) : ∃ a, xs = [a] ∧ g a t := by
  cases xs with
  | nil => simp [gs] at h
  | cons a xs => cases xs with
    | nil => simp only [gs] at h; exact ⟨a, rfl, h.1⟩
    | cons b xs => simp [gs] at h
theorem gs_two {xs : List A} {t u : T} (h : gs xs [t, u]) : ∃ a b, xs = [a, b] ∧ g a t ∧ g b u := by
  cases xs with
  | nil => simp [gs] at h
  | cons a xs =>
    simp only [gs] at h
    obtain ⟨b, rfl, h2⟩ := gs_one h.2
    exact ⟨a, b, rfl, h.1, h2⟩
theorem lints_sim {a : A} {x : T} {ns : List Int} (h : g a x) (e : (lD x.er).bind intsD = some ns) : (lOnly x).bind intsT = some ns := by
  rcases lints_eq h with q | q
  · rw [q]; exact e
  · rw [q] at e; cases e
theorem bind_eq' {α β : Type} {o : Option α} {f : α → Option β} {b : β} (h : o.bind f = some b) : ∃ a, o = some a ∧ f a = some b := by
  cases o with
  | none => cases h
  | some a => exact ⟨a, rfl, h⟩
theorem map_eq' {α β : Type} {o : Option α} {f : α → β} {b : β} (h : o.map f = some b) : ∃ a, o = some a ∧ f a = b := by
  cases o with
  | none => cases h
  | some a => exact ⟨a, rfl, by simpa using h⟩
theorem isNil_ok {a : A} {t : T} (h : g a t) (c : isNil a = true) (e : t.er = .lst []) : t = .l [] := by
  cases a with
  | ol b => cases b with
    | no =>
      simp only [g] at h
      rcases h with h | ⟨ts, rfl, h⟩
      · exact (imT_notL h (ds := []) (by rw [e]; rfl)).elim
      · cases ts with
        | nil => rfl
        | cons u us => exact (h u (by simp)).elim
    | _ => cases c
  | _ => cases c
theorem sortD_sim {x : T} {d : D} (p : sortDD (dicD x.er) = some d) : lOnly x = none ∧ ∃ ns, sortDT (dicQ x) = some (.l ((sortI ns).map fun i => .v (.int i))) ∧ d = .lst ((sortI ns).map .int) := by
  have key : ∀ (t : Bool) (ks vs : List D) (us : List T), sortDD (some (t, ks, vs)) = some d → ∃ ns, sortDT (some (t, ks, us)) = some (.l ((sortI ns).map fun i => .v (.int i))) ∧ d = .lst ((sortI ns).map .int) := by
    intro t ks vs us h
    cases t with
    | true => cases h
    | false =>
      simp only [sortDD] at h
      cases e : intsD ks with
      | none => rw [e] at h; cases h
      | some ns =>
        rw [e] at h
        by_cases c : ns.length < 64
        · simp only [if_pos c] at h
          cases h
          exact ⟨ns, by simp only [sortDT, e, if_pos c], rfl⟩
        · simp only [if_neg c] at h; cases h
  cases x with
  | v dd => cases dd <;> first | exact ⟨rfl, key _ _ _ _ p⟩ | cases p
  | w dd => cases dd <;> first | exact ⟨rfl, key _ _ _ _ p⟩ | cases p
  | b dd => cases dd <;> first | exact ⟨rfl, key _ _ _ _ p⟩ | cases p
  | dc => exact ⟨rfl, key _ _ _ _ p⟩
  | _ => cases p
theorem blt_sim {f : BF} {xs : List A} {ts : List T} {r : A} {d : D} (h : gs xs ts) (e : bltA f xs = some r) (p : bltD f (T.ers ts) = some d) : ∃ t, bltT f ts = some t ∧ t.er = d ∧ g r t := by
  unfold bltD at p
  split at p
  · rename_i t0 q
    obtain ⟨x, rfl, rfl⟩ := ers_one q
    obtain ⟨a, rfl, ha⟩ := gs_one h
    cases e
    obtain ⟨n, hn, rfl⟩ := map_eq' p
    exact ⟨.v (.int n), by simp only [bltT, size_sim ha hn]; rfl, rfl, g_im rfl⟩
  · rename_i i j q
    obtain ⟨x, y, rfl, hx, hy⟩ := ers_two q
    obtain ⟨a, b, rfl, ha, hb⟩ := gs_two h
    cases e; cases p
    rw [nf_int (g_nf ha) hx, nf_int (g_nf hb) hy]
    exact ⟨_, rfl, rfl, g_im rfl⟩
  · rename_i i j q
    obtain ⟨x, y, rfl, hx, hy⟩ := ers_two q
    obtain ⟨a, b, rfl, ha, hb⟩ := gs_two h
    cases e; cases p
    rw [nf_int (g_nf ha) hx, nf_int (g_nf hb) hy]
    exact ⟨_, rfl, rfl, g_im rfl⟩
  · rename_i t0 q
    obtain ⟨x, rfl, rfl⟩ := ers_one q
    obtain ⟨a, rfl, ha⟩ := gs_one h
    cases e
    split at p
    · rename_i m r q2
      cases p
      exact ⟨.v (.int (maxL m r)), by simp only [bltT, lints_sim ha q2], rfl, g_im rfl⟩
    · cases p
  · rename_i t0 q
    obtain ⟨x, rfl, rfl⟩ := ers_one q
    obtain ⟨a, rfl, ha⟩ := gs_one h
    cases e
    split at p
    · rename_i m r q2
      cases p
      exact ⟨.v (.int (minL m r)), by simp only [bltT, lints_sim ha q2], rfl, g_im rfl⟩
    · cases p
  · rename_i t0 q
    obtain ⟨x, rfl, rfl⟩ := ers_one q
    obtain ⟨a, rfl, ha⟩ := gs_one h
    cases e
    obtain ⟨ns, hn, rfl⟩ := map_eq' p
    exact ⟨.v (.int ns.sum), by simp only [bltT, lints_sim ha hn]; rfl, rfl, g_im rfl⟩
  · rename_i t0 q
    obtain ⟨x, y, rfl, rfl, hy⟩ := ers_two q
    obtain ⟨a, b, rfl, ha, hb⟩ := gs_two h
    simp only [bltA] at e
    split at e
    · rename_i c
      cases e
      have hy' := isNil_ok hb c hy
      subst hy'
      split at p
      · rename_i rs q2
        obtain ⟨ds, q3, q4⟩ := bind_eq' q2
        obtain ⟨us, o1, it, gi⟩ := lO_sim ha q3
        obtain ⟨vs, r1, r2, r3⟩ := rows_sim gi (by rw [it.er]; exact q4)
        split at p
        · rename_i hl
          cases p
          have l : vs.flatten.length ≤ LIM := by
            have : T.ers vs.flatten = rs.flatten := by rw [← r2, ers_map, List.map_flatten]; congr 1; exact List.map_congr_left fun x _ => (ers_map x).symm
            rw [ers_len this]; exact hl
          refine ⟨.l vs.flatten, ?_, ?_, ol_mk fun u hu => ?_⟩
          · have o2 : (lOnly x).bind rowsT = some vs := by rw [o1]; exact r1
            simp only [bltT, o2]
            rw [if_pos l]
          · show D.lst (T.ers _) = _
            rw [← r2, ers_map, List.map_flatten]
            congr 2
            exact List.map_congr_left fun x _ => (ers_map x).symm
          · obtain ⟨l, hl1, hl2⟩ := List.mem_flatten.mp hu
            exact r3 l hl1 u hl2
        · cases p
      · cases p
    · cases e
  · rename_i t0 q
    obtain ⟨x, rfl, rfl⟩ := ers_one q
    obtain ⟨a, rfl, ha⟩ := gs_one h
    cases e
    split at p
    · rename_i ns q2
      cases p
      refine ⟨.l ((sortI ns).map fun i => .v (.int i)), by simp only [bltT, lints_sim ha q2], ?_, ol_mk fun u hu => ?_⟩
      · show D.lst (T.ers _) = _; rw [map_er_i]
      · obtain ⟨i, _, rfl⟩ := List.mem_map.mp hu; exact g_im rfl
    · rename_i q2
      split at p
      rotate_left
      · rename_i q3
        obtain ⟨n1, ns, n5, rfl⟩ := sortD_sim p
        refine ⟨.l ((sortI ns).map fun i => .v (.int i)), by simp only [bltT, n1, Option.bind_none]; exact n5, ?_, ol_mk fun u hu => ?_⟩
        · show D.lst (T.ers _) = _; rw [map_er_i]
        · obtain ⟨i, _, rfl⟩ := List.mem_map.mp hu; exact g_im rfl
      rename_i ps q3
      cases p
      obtain ⟨ds, q4, q5⟩ := bind_eq' q3
      obtain ⟨us, o1, it, gi⟩ := lO_sim ha q4
      have n2 : (lOnly x).bind intsT = none := by
        rcases lints_eq ha with z | z
        · rw [z]; exact q2
        · rw [z] at q4; cases q4
      have n3 : (lOnly x).bind pairsT = some ps := by rw [o1]; show pairsT us = _; rw [pairs_eq (nfm it (g_nf ha)), it.er]; exact q5
      refine ⟨.l ((sortP ps).map pairTp), by simp only [bltT, n2, n3], ?_, ol_mk fun u hu => ?_⟩
      · show D.lst (T.ers _) = _; rw [ers_map, List.map_map]; rfl
      · obtain ⟨i, _, rfl⟩ := List.mem_map.mp hu; exact g_im rfl
  · rename_i t0 q
    obtain ⟨x, rfl, rfl⟩ := ers_one q
    obtain ⟨a, rfl, ha⟩ := gs_one h
    cases e
    obtain ⟨bs, hn, rfl⟩ := map_eq' p
    obtain ⟨ds, q4, q5⟩ := bind_eq' hn
    obtain ⟨us, o1, it, gi⟩ := lO_sim ha q4
    have n3 : (lOnly x).bind boolsT = some bs := by rw [o1]; show boolsT us = _; rw [bools_eq (nfm it (g_nf ha)), it.er]; exact q5
    exact ⟨.v (.bl (bs.all id)), by simp only [bltT, n3]; rfl, rfl, g_im rfl⟩
  · rename_i t0 q
    obtain ⟨x, rfl, rfl⟩ := ers_one q
    obtain ⟨a, rfl, ha⟩ := gs_one h
    cases e
    obtain ⟨ds, hn, rfl⟩ := map_eq' p
    obtain ⟨us, o1, it, gi⟩ := q_sim ha hn
    refine ⟨.l us, by simp only [bltT, o1]; rfl, ?_, ol_mk gi⟩
    show D.lst (T.ers _) = _; rw [it.er]
  · rename_i ds q
    obtain ⟨x, rfl, hx⟩ := ers_one q
    obtain ⟨a, rfl, ha⟩ := gs_one h
    simp only [bltA] at e
    split at e
    · rename_i c
      cases e; cases p
      exact ⟨x, tpl_ok ha (g_noB ha c) hx, hx, tplA_t ha hx⟩
    · cases e
  · rename_i t0 _ q
    obtain ⟨x, rfl, rfl⟩ := ers_one q
    obtain ⟨a, rfl, ha⟩ := gs_one h
    simp only [bltA] at e
    split at e
    · rename_i c
      cases e
      obtain ⟨ds, hn, rfl⟩ := map_eq' p
      obtain ⟨us, o1, it, gi⟩ := lO_sim ha hn
      refine ⟨mkTp us, ?_, (mkTp_er us).trans (by rw [it.er]), tplA_l ha hn it gi⟩
      cases x with
      | v d => cases d <;> first | (cases hn; done) | (simp only [bltT, o1]; rfl)
      | w d => cases d <;> first | (cases hn; done) | (simp only [bltT, o1]; rfl)
      | b d => cases d <;> first | (cases hn; done) | (simp only [bltT, o1]; rfl)
      | l ts => simp only [bltT, o1]; rfl
      | _ => cases hn
    · cases e
  · rename_i i q
    obtain ⟨x, rfl, hx⟩ := ers_one q
    obtain ⟨a, rfl, ha⟩ := gs_one h
    cases e
    rw [nf_int (g_nf ha) hx]
    split at p
    · rename_i c; cases p; exact ⟨.v (.str (showI i)), by simp only [bltT]; rw [if_pos c], rfl, g_im rfl⟩
    · cases p
  · rename_i i q
    obtain ⟨x, rfl, hx⟩ := ers_one q
    obtain ⟨a, rfl, ha⟩ := gs_one h
    cases e; cases p
    rw [nf_int (g_nf ha) hx]
    exact ⟨_, rfl, rfl, g_im rfl⟩
  · rename_i i q
    obtain ⟨x, rfl, hx⟩ := ers_one q
    obtain ⟨a, rfl, ha⟩ := gs_one h
    cases e; cases p
    rw [nf_bl (g_nf ha) hx]
    exact ⟨_, rfl, rfl, g_im rfl⟩
  · rename_i i q
    obtain ⟨x, rfl, hx⟩ := ers_one q
    obtain ⟨a, rfl, ha⟩ := gs_one h
    cases e; cases p
    rw [nf_int (g_nf ha) hx]
    exact ⟨_, rfl, rfl, g_im rfl⟩
  · cases p
theorem findIdx_eq {ts : List T} {ds : List D} (h : T.ers ts = ds) (f : D → Bool) : (ts.findIdx? fun t => f t.er) = ds.findIdx? f := by
  rw [← h, ers_map, List.findIdx?_map]; rfl
theorem filter_len {ts : List T} {ds : List D} (h : T.ers ts = ds) (f : D → Bool) : (ts.filter fun t => f t.er).length = (ds.filter f).length := by
  rw [← h, ers_map, List.filter_map, List.length_map]; rfl
theorem meth_sim {m : MF} {a b : A} {x y : T} {d : D} (ha : g a x) (hb : g b y) (p : methD m x.er y.er = some d) : ∃ t, methT m x y = some t ∧ t.er = d ∧ g .im t := by
  cases m with
  | join =>
    simp only [methD] at p
    split at p
    · rename_i s hs
      rw [nf_str (g_nf ha) hs]
      split at p
      · rename_i ss q
        obtain ⟨ds, q1, q2⟩ := bind_eq' q
        obtain ⟨us, o1, it, gi⟩ := q_sim hb q1
        have n3 : (asQ y).bind strsT = some ss := by rw [o1]; show strsT us = _; rw [strs_eq (nfm it (g_nf hb)), it.er]; exact q2
        split at p
        · rename_i c
          cases p
          exact ⟨.v (.str (TL.joinL s ss)), by simp only [methT, n3]; rw [if_pos c], rfl, g_im rfl⟩
        · cases p
      · cases p
    · cases p
  | find =>
    simp only [methD] at p
    split at p
    · rename_i s u h1 h2
      rw [nf_str (g_nf ha) h1, nf_str (g_nf hb) h2]
      cases p
      exact ⟨_, rfl, rfl, g_im rfl⟩
    · cases p
  | count =>
    simp only [methD] at p
    split at p
    · rename_i ds q
      obtain ⟨us, o1, it, gi⟩ := lO_sim ha q
      split at p
      · rename_i c
        cases p
        refine ⟨.v (.int ((ds.filter fun t => eqD t y.er).length : Nat)), ?_, rfl, g_im rfl⟩
        simp only [methT, o1]
        rw [all_eq it.er D.flat, if_pos c, filter_len it.er fun z => eqD z y.er]
      · cases p
    · cases p
  | index =>
    simp only [methD] at p
    split at p
    · rename_i ds q
      obtain ⟨us, o1, it, gi⟩ := lO_sim ha q
      split at p
      · rename_i c
        obtain ⟨j, hj, rfl⟩ := map_eq' p
        refine ⟨.v (.int (j : Nat)), ?_, rfl, g_im rfl⟩
        simp only [methT, o1]
        rw [all_eq it.er D.flat, if_pos c, findIdx_eq it.er fun z => eqD z y.er, hj]; rfl
      · cases p
    · cases p
theorem mTy_sim {m : MF} {a : A} {x : T} (ha : g a x) (p : mTyD m x.er = true) : mTy m x = true := by
  have l : (lD x.er).isSome = true → (lOnly x).isSome = true := fun p => by
    cases e : lD x.er with
    | none => rw [e] at p; cases p
    | some ds => obtain ⟨us, o1, _⟩ := lO_sim ha e; rw [o1]; rfl
  cases m with
  | join =>
    simp only [mTyD] at p
    split at p
    · rename_i s hs; rw [nf_str (g_nf ha) hs]; rfl
    · cases p
  | find =>
    simp only [mTyD] at p
    split at p
    · rename_i s hs; rw [nf_str (g_nf ha) hs]; rfl
    · cases p
  | count => exact l p
  | index => exact l p
theorem atI_at {α : Type} {xs : List α} {k : Int} {x : α} (h : L2.atI xs k = some x) : ∃ n, L2.ixN xs.length k = some n ∧ xs[n]? = some x := by
  unfold L2.atI at h
  obtain ⟨n, h1, h2⟩ := bind_eq' h
  exact ⟨n, h1, h2⟩
theorem atI_mk {α : Type} {xs : List α} {k : Int} {n : Nat} {x : α} (h : L2.ixN xs.length k = some n) (e : xs[n]? = some x) : L2.atI xs k = some x := by
  unfold L2.atI; rw [h]; exact e
theorem ers_at2 {ts : List T} {ds : List D} (h : T.ers ts = ds) {i : Nat} {d : D} (e : ds[i]? = some d) : ∃ u, ts[i]? = some u ∧ u.er = d := by
  rw [← h, ers_map, List.getElem?_map] at e
  cases q : ts[i]? with
  | none => rw [q] at e; cases e
  | some u => rw [q] at e; exact ⟨u, rfl, by simpa using e⟩
end Tv

namespace Tv
open PySem PySem.Spec

theorem no_im {a : A} {t u : T} (h : g a t) (i : imT u = true) : g (itQ a) u := by
  induction a using A.rec (motive_2 := fun _ => True) generalizing t with
  | no => simp [g] at h
  | any => simp only [itQ, g]; exact imT_nf i
  | rd k s ih =>
    simp only [g] at h
    obtain ⟨_, _, v, hv, _⟩ := h
    exact rd_ok (imT_nf i) (imT_kd i) (ih hv) rfl
  | ol a _ => exact up_ok (.inl i)
  | oq a _ => exact up_ok (.inl i)
  | ot as _ => exact up_ok (.inl i)
  | nil => trivial
  | cons => trivial
  | _ => exact g_im i
theorem no_imN {n : Nat} {a : A} {t u : T} (h : g a t) (i : imT u = true) : g (ixN1 a n) u := by
  induction a using A.rec (motive_2 := fun _ => True) generalizing t with
  | rd k s ih =>
    simp only [g] at h
    obtain ⟨_, _, v, hv, _⟩ := h
    exact rd_ok (imT_nf i) (imT_kd i) (ih hv) rfl
  | ot as _ =>
    simp only [ixN1]
    split
    · exact up_ok (.inl i)
    · exact g_im i
  | nil => trivial
  | cons => trivial
  | _ => exact no_im h i
theorem isOt_inv {e : E} {n : Nat} (h : isOt e = some n) : e = .int (n : Int) := by
  cases e <;> first | (cases h; done) | skip
  rename_i i
  simp only [isOt] at h
  split at h
  · rename_i c; cases h; congr 1; exact (Int.toNat_of_nonneg c).symm
  · cases h
theorem ixN_nn {len n m : Nat} (h : L2.ixN len (n : Int) = some m) : m = n := by
  unfold L2.ixN at h
  rw [if_pos (by omega)] at h
  split at h
  · cases h; rfl
  · cases h
theorem ix_sim {i : E} {a : A} {x y : T} {d : D} (ha : g a x) (ny : y.nf = true) (hi : ∀ n : Nat, isOt i = some n → y.er = .int (n : Int)) (p : ixD x.er y.er = some d) : ∃ t, ixT x y = some t ∧ t.er = d ∧ g (ixA a i) t := by
  unfold ixD at p
  split at p
  · rename_i s k h1 h2
    obtain ⟨c, hc, rfl⟩ := map_eq' p
    rw [nf_str (g_nf ha) h1, nf_int ny h2]
    refine ⟨.v (.str [c]), by simp only [ixT, hc]; rfl, rfl, ?_⟩
    unfold ixA
    split
    · exact no_imN ha rfl
    · exact no_im ha rfl
  · rename_i k h2 hn
    obtain ⟨ds, q, hk⟩ := bind_eq' p
    obtain ⟨n, k1, k2⟩ := atI_at hk
    obtain ⟨us, o1, it⟩ := asQ_sim q
    obtain ⟨u, hu, ue⟩ := ers_at2 it.er k2
    rw [nf_int ny h2]
    refine ⟨u, ?_, ue, ?_⟩
    · have k3 : L2.atI us k = some u := atI_mk (by rw [ers_len it.er]; exact k1) hu
      have : (asQ x).bind (fun ts => L2.atI ts k) = some u := by rw [o1]; exact k3
      cases x with
      | v dd => cases dd <;> first | (cases q; done) | exact this
      | _ => exact this
    · unfold ixA
      split
      · rename_i m hm
        have := hi m hm
        rw [h2] at this
        cases this
        have e := ixN_nn k1
        subst e
        exact ixN_ok ha q o1 it hu
      · exact itQ_ok ha q o1 it hu
  · cases p
theorem cutL_ers {ts : List T} {ds : List D} (h : T.ers ts = ds) (lo hi : Option Int) : T.ers (cutL ts lo hi) = cutL ds lo hi := by
  have l := ers_len h
  unfold cutL
  rw [← h, ers_map, ers_map, List.map_take, List.map_drop, List.length_map]
theorem cutL_sub {α : Type} {xs : List α} {lo hi : Option Int} {x : α} (h : x ∈ cutL xs lo hi) : x ∈ xs := List.mem_of_mem_drop (List.mem_of_mem_take h)
theorem sl_sim {a : A} {x : T} {d : D} {lo hi : Option Int} (ha : g a x) (p : slD x.er lo hi = some d) : ∃ t, slT x lo hi = some t ∧ t.er = d ∧ g (.ol (upA (itA a))) t := by
  unfold slD at p
  split at p
  · rename_i s h1
    cases p
    rw [nf_str (g_nf ha) h1]
    exact ⟨_, rfl, rfl, imOl rfl⟩
  · rename_i h
    obtain ⟨ds, q, rfl⟩ := map_eq' p
    obtain ⟨us, o1, it, gi⟩ := lO_sim ha q
    refine ⟨.l (cutL us lo hi), ?_, ?_, ol_mk fun u hu => up_ok (.inr (gi u (cutL_sub hu)))⟩
    · have : (lOnly x).map (fun ts => T.l (cutL ts lo hi)) = some (.l (cutL us lo hi)) := by rw [o1]; rfl
      cases x with
      | v dd => cases dd <;> first | (cases q; done) | exact this
      | _ => exact this
    · show D.lst (T.ers _) = _; rw [cutL_ers it.er]
theorem rev_sim {a : A} {x : T} {d : D} (ha : g a x) (p : revD x.er = some d) : ∃ t, revT x = some t ∧ t.er = d ∧ g (.ol (upA (itA a))) t := by
  obtain ⟨ds, q, rfl⟩ := map_eq' p
  obtain ⟨us, o1, it, gi⟩ := lO_sim ha q
  refine ⟨.l us.reverse, by simp only [revT, o1]; rfl, ?_, ol_mk fun u hu => up_ok (.inr (gi u (List.mem_reverse.mp hu)))⟩
  show D.lst (T.ers _) = _
  rw [ers_map, List.map_reverse, ← ers_map, it.er]
/-! dicts, objects -/
theorem dicQ_sim {t : T} {k : Bool} {ks ds : List D} (e : dicD t.er = some (k, ks, ds)) : ∃ ts, dicQ t = some (k, ks, ts) ∧ Its t ts ds := by
  cases t with
  | v d => cases d with
    | dct k' ks' xs =>
      cases e
      exact ⟨_, rfl, map_er_v _, fun _ => nfs_of fun u hu => by obtain ⟨x, _, rfl⟩ := List.mem_map.mp hu; rfl, fun h => by simp [T.cl, D.imm] at h, fun _ => noBs_of fun u hu => by obtain ⟨x, _, rfl⟩ := List.mem_map.mp hu; rfl⟩
    | _ => cases e
  | w d => cases d with
    | dct k' ks' xs =>
      cases e
      exact ⟨_, rfl, map_er_w _, fun _ => nfs_of fun u hu => by obtain ⟨x, _, rfl⟩ := List.mem_map.mp hu; exact subW_nf x, fun _ => cls_of fun u hu => by obtain ⟨x, _, rfl⟩ := List.mem_map.mp hu; exact subW_cl x, fun _ => noBs_of fun u hu => by obtain ⟨x, _, rfl⟩ := List.mem_map.mp hu; exact subW_noB x⟩
    | _ => cases e
  | b d => cases d with
    | dct k' ks' xs =>
      cases e
      exact ⟨_, rfl, map_er_b _, fun _ => nfs_of fun u hu => by obtain ⟨x, _, rfl⟩ := List.mem_map.mp hu; exact subB_nf x, fun h => by simp [T.cl] at h, fun h => by simp [T.noB] at h⟩
    | _ => cases e
  | dc k' ks' ts => cases e; exact ⟨ts, rfl, rfl, fun h => h, fun h => h, fun h => h⟩
  | _ => cases e
theorem imT_notD {t : T} {r : Bool × List D × List D} (h : imT t = true) (e : dicD t.er = some r) : False := by
  obtain ⟨d, rfl, i⟩ := imT_inv h
  cases d with
  | dct k ks xs => simp [D.imm] at i
  | _ => cases e
theorem dic_sim {a : A} {t : T} {k : Bool} {ks ds : List D} (h : g a t) (e : dicD t.er = some (k, ks, ds)) : ∃ ts, dicQ t = some (k, ks, ts) ∧ Its t ts ds ∧ ∀ u ∈ ts, g (valA a) u := by
  obtain ⟨ts, q, it⟩ := dicQ_sim e
  refine ⟨ts, q, it, ?_⟩
  suffices H : ∀ (a : A) {t : T} {ts : List T}, g a t → dicD t.er = some (k, ks, ds) → dicQ t = some (k, ks, ts) → Its t ts ds → ∀ (i : Nat) (u : T), ts[i]? = some u → g (valA a) u from fun u hu => by
    obtain ⟨i, hi⟩ := List.mem_iff_getElem?.mp hu
    exact H a h e q it i u hi
  intro a
  induction a using A.rec (motive_2 := fun _ => True) with
  | rd kk s ih =>
    intro t ts h e q it i u eu
    simp only [g] at h
    obtain ⟨n, c, v, hv, ev⟩ := h
    obtain ⟨us, qu, iu⟩ := dicQ_sim (t := v) (by rw [ev]; exact e)
    obtain ⟨w, ew, er⟩ := ers_at (it.er.trans iu.er.symm) eu
    exact rd_ok (nfs_mem (it.nf n) (List.mem_of_getElem? eu)) (its_k it c (List.mem_of_getElem? eu)) (ih hv (by rw [ev]; exact e) qu iu i w ew) er
  | nil => trivial
  | cons => trivial
  | no => intro t ts h; simp [g] at h
  | im => intro t ts h e; exact (imT_notD (by simpa [g] using h) e).elim
  | any => intro t ts h e q it i u eu; simp only [g, valA] at h ⊢; exact nfs_mem (it.nf h) (List.mem_of_getElem? eu)
  | od a _ =>
    intro t ts h e q it i u eu
    simp only [g] at h
    rcases h with h | ⟨k', ks', us, rfl, h⟩
    · exact (imT_notD h e).elim
    · cases q; exact h u (List.mem_of_getElem? eu)
  | ol a _ =>
    intro t ts h e
    simp only [g] at h
    rcases h with h | ⟨us, rfl, h⟩
    · exact (imT_notD h e).elim
    · cases e
  | oq a _ =>
    intro t ts h e
    simp only [g] at h
    rcases h with h | ⟨us, rfl, h⟩
    · exact (imT_notD h e).elim
    · cases e
  | ot a _ =>
    intro t ts h e
    simp only [g] at h
    rcases h with h | ⟨us, rfl, h⟩
    · exact (imT_notD h e).elim
    · cases e
  | oo c ns as _ =>
    intro t ts h e
    simp only [g] at h
    rcases h with h | ⟨us, rfl, h⟩
    · exact (imT_notD h e).elim
    · cases e
theorem zip_find {α β γ : Type} (f : β → γ) (p : α → Bool) : ∀ (ks : List α) (ts : List β), ((ks.zip (ts.map f)).find? fun q => p q.1).map Prod.snd = (((ks.zip ts).find? fun q => p q.1).map Prod.snd).map f
  | [], ts => by simp
  | k :: ks, [] => by simp
  | k :: ks, t :: ts => by
    simp only [List.map_cons, List.zip_cons_cons, List.find?_cons]
    cases p k with
    | true => rfl
    | false => exact zip_find f p ks ts
theorem dGet_ers {ks : List D} {ts : List T} {ds : List D} (h : T.ers ts = ds) (k : D) : dGet ks ds k = (dGet ks ts k).map T.er := by
  rw [← h, ers_map]; exact zip_find T.er (fun x => eqD x k) ks ts
theorem dGet_mem {α : Type} {ks : List D} {ts : List α} {k : D} {u : α} (h : dGet ks ts k = some u) : u ∈ ts := by
  unfold dGet at h
  obtain ⟨p, hp, rfl⟩ := map_eq' h
  exact (List.of_mem_zip (List.mem_of_find?_eq_some hp)).2
theorem dix_sim {a : A} {x y : T} {d : D} (ha : g a x) (p : dixD x.er y.er = some d) : ∃ t, dixT x y = some t ∧ t.er = d ∧ g (valA a) t := by
  obtain ⟨⟨k, ks, ds⟩, q, r⟩ := bind_eq' p
  obtain ⟨ts, o1, it, gi⟩ := dic_sim ha q
  dsimp only at r
  split at r
  · rename_i c
    rw [dGet_ers it.er] at r
    obtain ⟨u, hu, rfl⟩ := map_eq' r
    refine ⟨u, ?_, rfl, gi u (dGet_mem hu)⟩
    simp only [dixT, o1, Option.bind_some]
    rw [if_pos c]; exact hu
  · cases r
theorem din_sim {a : A} {x y : T} {d : Bool} (ha : g a x) (p : dinD x.er y.er = some d) : dinT x y = some d := by
  obtain ⟨⟨k, ks, ds⟩, q, r⟩ := bind_eq' p
  obtain ⟨ts, o1, it, gi⟩ := dic_sim ha q
  simp only [dinT, o1, Option.bind_some]
  exact r
theorem objQ_sim {t : T} {c : String} {ns : List String} {ds : List D} (e : objD t.er = some (c, ns, ds)) : ∃ ts, objQ t = some (c, ns, ts) ∧ Its t ts ds := by
  cases t with
  | v d => cases d with
    | obj k' ks' xs =>
      cases e
      exact ⟨_, rfl, map_er_v _, fun _ => nfs_of fun u hu => by obtain ⟨x, _, rfl⟩ := List.mem_map.mp hu; rfl, fun h => by simp [T.cl, D.imm] at h, fun _ => noBs_of fun u hu => by obtain ⟨x, _, rfl⟩ := List.mem_map.mp hu; rfl⟩
    | _ => cases e
  | w d => cases d with
    | obj k' ks' xs =>
      cases e
      exact ⟨_, rfl, map_er_w _, fun _ => nfs_of fun u hu => by obtain ⟨x, _, rfl⟩ := List.mem_map.mp hu; exact subW_nf x, fun _ => cls_of fun u hu => by obtain ⟨x, _, rfl⟩ := List.mem_map.mp hu; exact subW_cl x, fun _ => noBs_of fun u hu => by obtain ⟨x, _, rfl⟩ := List.mem_map.mp hu; exact subW_noB x⟩
    | _ => cases e
  | b d => cases d with
    | obj k' ks' xs =>
      cases e
      exact ⟨_, rfl, map_er_b _, fun _ => nfs_of fun u hu => by obtain ⟨x, _, rfl⟩ := List.mem_map.mp hu; exact subB_nf x, fun h => by simp [T.cl] at h, fun h => by simp [T.noB] at h⟩
    | _ => cases e
  | ob k' ks' ts => cases e; exact ⟨ts, rfl, rfl, fun h => h, fun h => h, fun h => h⟩
  | _ => cases e
theorem imT_notO {t : T} {r : String × List String × List D} (h : imT t = true) (e : objD t.er = some r) : False := by
  obtain ⟨d, rfl, i⟩ := imT_inv h
  cases d with
  | obj k ks xs => simp [D.imm] at i
  | _ => cases e
theorem zip_gs {p : String → Bool} : ∀ {ns : List String} {as : List A} {ts : List T} {a : A} {u : T}, gs as ts → ((ns.zip as).find? fun q => p q.1).map Prod.snd = some a → ((ns.zip ts).find? fun q => p q.1).map Prod.snd = some u → g a u
  | [], _, _, _, _, _, e, _ => by simp at e
  | n :: ns, [], _, _, _, _, e, _ => by simp at e
  | n :: ns, a :: as, [], _, _, h, _, _ => by simp [gs] at h
  | n :: ns, a :: as, t :: ts, _, _, h, e1, e2 => by
    simp only [gs] at h
    simp only [List.zip_cons_cons, List.find?_cons] at e1 e2
    cases hp : p n with
    | true => simp only [hp] at e1 e2; cases e1; cases e2; exact h.1
    | false => simp only [hp] at e1 e2; exact zip_gs (ns := ns) h.2 e1 e2
theorem fld_sim {a r : A} {x : T} {f : String} {d : D} (ha : g a x) (e : fldA a f = some r) (p : fldD x.er f = some d) : ∃ t, fldT x f = some t ∧ t.er = d ∧ g r t := by
  obtain ⟨⟨c, ns, ds⟩, q, w⟩ := bind_eq' p
  obtain ⟨ts, o1, it⟩ := objQ_sim q
  dsimp only at w
  have w2 : (((ns.zip ts).find? fun q => q.1 == f).map Prod.snd).map T.er = some d := by
    rw [← w, ← it.er, ers_map]; exact (zip_find T.er (fun n => n == f) ns ts).symm
  obtain ⟨u, hu, rfl⟩ := map_eq' w2
  refine ⟨u, by simp only [fldT, o1, Option.bind_some]; exact hu, rfl, ?_⟩
  have mem : u ∈ ts := by
    obtain ⟨pp, hp, rfl⟩ := map_eq' hu
    exact (List.of_mem_zip (List.mem_of_find?_eq_some hp)).2
  suffices H : ∀ (a : A) {r : A} {t : T} {ts : List T} {u : T}, g a t → fldA a f = some r → objD t.er = some (c, ns, ds) → objQ t = some (c, ns, ts) → Its t ts ds → ((ns.zip ts).find? fun q => q.1 == f).map Prod.snd = some u → g r u from H a ha e q o1 it hu
  clear ha e p q w o1 it w2 hu mem
  intro a
  induction a using A.rec (motive_2 := fun _ => True) with
  | rd kk s ih =>
    intro r t ts u h e q o1 it hu
    simp only [g] at h
    obtain ⟨n, cc, v, hv, ev⟩ := h
    obtain ⟨us, qu, iu⟩ := objQ_sim (t := v) (by rw [ev]; exact q)
    obtain ⟨r', e', rfl⟩ := map_eq' (show (fldA s f).map (rd' kk) = some r from e)
    have mem : u ∈ ts := by
      obtain ⟨pp, hp, rfl⟩ := map_eq' hu
      exact (List.of_mem_zip (List.mem_of_find?_eq_some hp)).2
    have w : (((ns.zip us).find? fun q => q.1 == f).map Prod.snd).map T.er = some u.er := by
      rw [← zip_find T.er (fun n => n == f) ns us, ← ers_map, iu.er, ← it.er, ers_map, zip_find T.er (fun n => n == f) ns ts, hu]; rfl
    obtain ⟨w0, hw, er⟩ := map_eq' w
    exact rd_ok (nfs_mem (it.nf n) mem) (its_k it cc mem) (ih hv e' (by rw [ev]; exact q) qu iu hw) er
  | any =>
    intro r t ts u h e q o1 it hu
    cases e
    have mem : u ∈ ts := by
      obtain ⟨pp, hp, rfl⟩ := map_eq' hu
      exact (List.of_mem_zip (List.mem_of_find?_eq_some hp)).2
    simp only [g] at h ⊢
    exact nfs_mem (it.nf h) mem
  | oo c' ns' as _ =>
    intro r t ts u h e q o1 it hu
    simp only [g] at h
    rcases h with h | ⟨us, rfl, h⟩
    · exact (imT_notO h q).elim
    · cases o1
      exact zip_gs (p := fun n => n == f) (ns := ns) h e hu
  | nil => trivial
  | cons => trivial
  | _ => intro r t ts u h e; cases e
end Tv

namespace Tv
open PySem PySem.Spec

/-! ### the slots, by value and as owned -/
structure Sm (As : AEnv) (Γ : Env) (G : PEnv) : Prop where
  len : Γ.length = G.length
  at_ : ∀ (i : Nat) (a : A), As[i]? = some (some a) → ∃ t, Γ[i]? = some (some t) ∧ g a t ∧ t.noB = true ∧ G[i]? = some (some t.er)
theorem set_at {α : Type} {xs : List α} {i j : Nat} {x y : α} (h : (xs.set i x)[j]? = some y) : (i = j ∧ x = y) ∨ (i ≠ j ∧ xs[j]? = some y) := by
  by_cases c : i = j
  · subst c
    left
    have : i < (xs.set i x).length := (List.getElem?_eq_some_iff.mp h).1
    rw [List.getElem?_set_self (by simpa using this)] at h
    exact ⟨rfl, by simpa using h⟩
  · right
    rw [List.getElem?_set_ne c] at h
    exact ⟨c, h⟩
section
variable {As Bs : AEnv} {Γ : Env} {G : PEnv} {i : Nat} {a : A} {t : T}
theorem Sm.put (s : Sm As Γ G) (hi : i < Γ.length) (h : g a t) (b : t.noB = true) : Sm (As.set i (some a)) (Γ.set i (some t)) (G.set i (some t.er)) := by
  refine ⟨by simp [s.len], fun j c hj => ?_⟩
  rcases set_at hj with ⟨rfl, e⟩ | ⟨ne, hj⟩
  · cases e
    exact ⟨t, List.getElem?_set_self hi, h, b, List.getElem?_set_self (by rw [← s.len]; exact hi)⟩
  · obtain ⟨u, h1, h2, h3, h4⟩ := s.at_ j c hj
    exact ⟨u, by rw [List.getElem?_set_ne ne]; exact h1, h2, h3, by rw [List.getElem?_set_ne ne]; exact h4⟩
theorem Sm.re (s : Sm As Γ G) (h : g a t) (b : t.noB = true) (e : G[i]? = some (some t.er)) : Sm (As.set i (some a)) (Γ.set i (some t)) G := by
  have hi : i < Γ.length := by rw [s.len]; exact (List.getElem?_eq_some_iff.mp e).1
  refine ⟨by simp [s.len], fun j c hj => ?_⟩
  rcases set_at hj with ⟨rfl, e'⟩ | ⟨ne, hj⟩
  · cases e'
    exact ⟨t, List.getElem?_set_self hi, h, b, e⟩
  · obtain ⟨u, h1, h2, h3, h4⟩ := s.at_ j c hj
    exact ⟨u, by rw [List.getElem?_set_ne ne]; exact h1, h2, h3, h4⟩
theorem Sm.keep (s : Sm As Γ G) (h : g a t) (b : t.noB = true) (e1 : Γ[i]? = some (some t)) (e : G[i]? = some (some t.er)) : Sm (As.set i (some a)) Γ G := by
  refine ⟨s.len, fun j c hj => ?_⟩
  rcases set_at hj with ⟨rfl, e'⟩ | ⟨ne, hj⟩
  · cases e'; exact ⟨t, e1, h, b, e⟩
  · exact s.at_ j c hj
theorem Sm.kill1 (s : Sm As Γ G) : Sm (As.set i none) (Γ.set i none) G := by
  refine ⟨by simp [s.len], fun j c hj => ?_⟩
  rcases set_at hj with ⟨_, e'⟩ | ⟨ne, hj⟩
  · cases e'
  · obtain ⟨u, h1, h2, h3, h4⟩ := s.at_ j c hj
    exact ⟨u, by rw [List.getElem?_set_ne ne]; exact h1, h2, h3, h4⟩
theorem Sm.kill2 (s : Sm As Γ G) {o : Option T} {o' : Option D} : Sm (As.set i none) (Γ.set i o) (G.set i o') := by
  refine ⟨by simp [s.len], fun j c hj => ?_⟩
  rcases set_at hj with ⟨_, e'⟩ | ⟨ne, hj⟩
  · cases e'
  · obtain ⟨u, h1, h2, h3, h4⟩ := s.at_ j c hj
    exact ⟨u, by rw [List.getElem?_set_ne ne]; exact h1, h2, h3, by rw [List.getElem?_set_ne ne]; exact h4⟩
theorem leE_at : ∀ {As Bs : AEnv} {i : Nat} {b : A}, leE As Bs = true → Bs[i]? = some (some b) → ∃ a, As[i]? = some (some a) ∧ le a b = true
  | _, [], _, _, _, e => by simp at e
  | As, none :: Bs, 0, _, _, e => by simp at e
  | As, none :: Bs, i + 1, b, h, e => by
    simp only [leE] at h
    obtain ⟨a, h1, h2⟩ := leE_at (i := i) (b := b) h (by simpa using e)
    exact ⟨a, by cases As with
      | nil => simp at h1
      | cons x xs => simpa using h1, h2⟩
  | [], some b :: Bs, _, _, h, _ => by simp [leE] at h
  | none :: As, some b :: Bs, _, _, h, _ => by simp [leE] at h
  | some a :: As, some b :: Bs, 0, c, h, e => by
    simp only [leE, Bool.and_eq_true] at h
    simp at e; subst e
    exact ⟨a, rfl, h.1⟩
  | some a :: As, some b :: Bs, i + 1, c, h, e => by
    simp only [leE, Bool.and_eq_true] at h
    obtain ⟨x, h1, h2⟩ := leE_at (i := i) (b := c) h.2 (by simpa using e)
    exact ⟨x, by simpa using h1, h2⟩
theorem Sm.le (s : Sm As Γ G) (h : leE As Bs = true) : Sm Bs Γ G := ⟨s.len, fun i b hb => by
  obtain ⟨a, h1, h2⟩ := leE_at h hb
  obtain ⟨t, g1, g2, g3, g4⟩ := s.at_ i a h1
  exact ⟨t, g1, le_ok b h2 g2, g3, g4⟩⟩
theorem jnE_at : ∀ {As Bs : AEnv} {i : Nat} {c : A}, (jnE As Bs)[i]? = some (some c) → ∃ a b, As[i]? = some (some a) ∧ Bs[i]? = some (some b) ∧ c = jn a b
  | some a :: As, some b :: Bs, 0, c, e => by simp [jnE] at e; exact ⟨a, b, rfl, rfl, e.symm⟩
  | some a :: As, some b :: Bs, i + 1, c, e => by
    obtain ⟨x, y, h1, h2, h3⟩ := jnE_at (As := As) (Bs := Bs) (i := i) (c := c) (by simpa [jnE] using e)
    exact ⟨x, y, by simpa using h1, by simpa using h2, h3⟩
  | none :: As, b :: Bs, 0, c, e => by simp [jnE] at e
  | none :: As, b :: Bs, i + 1, c, e => by
    obtain ⟨x, y, h1, h2, h3⟩ := jnE_at (As := As) (Bs := Bs) (i := i) (c := c) (by simpa [jnE] using e)
    exact ⟨x, y, by simpa using h1, by simpa using h2, h3⟩
  | some a :: As, none :: Bs, 0, c, e => by simp [jnE] at e
  | some a :: As, none :: Bs, i + 1, c, e => by
    obtain ⟨x, y, h1, h2, h3⟩ := jnE_at (As := As) (Bs := Bs) (i := i) (c := c) (by simpa [jnE] using e)
    exact ⟨x, y, by simpa using h1, by simpa using h2, h3⟩
  | [], _, _, _, e => by simp [jnE] at e
  | some _ :: _, [], _, _, e => by simp [jnE] at e
  | none :: _, [], _, _, e => by simp [jnE] at e
theorem Sm.jl (s : Sm As Γ G) : Sm (jnE As Bs) Γ G := ⟨s.len, fun i b hb => by
  obtain ⟨x, y, h1, h2, rfl⟩ := jnE_at hb
  obtain ⟨t, g1, g2, g3, g4⟩ := s.at_ i x h1
  exact ⟨t, g1, jn_l g2, g3, g4⟩⟩
theorem Sm.jr (s : Sm Bs Γ G) : Sm (jnE As Bs) Γ G := ⟨s.len, fun i b hb => by
  obtain ⟨x, y, h1, h2, rfl⟩ := jnE_at hb
  obtain ⟨t, g1, g2, g3, g4⟩ := s.at_ i y h2
  exact ⟨t, g1, jn_r g2, g3, g4⟩⟩
def SX (x : Option AEnv) (Γ : Env) (G : PEnv) : Prop := ∃ X, x = some X ∧ Sm X Γ G
theorem SX.l {x y : Option AEnv} (h : SX x Γ G) : SX (jnO x y) Γ G := by
  obtain ⟨X, rfl, s⟩ := h
  cases y with
  | none => exact ⟨X, rfl, s⟩
  | some Y => exact ⟨_, rfl, s.jl⟩
theorem SX.r {x y : Option AEnv} (h : SX y Γ G) : SX (jnO x y) Γ G := by
  obtain ⟨X, rfl, s⟩ := h
  cases x with
  | none => exact ⟨X, rfl, s⟩
  | some Y => exact ⟨_, rfl, s.jr⟩
theorem wipeA_at : ∀ {vs : List Nat} {As : AEnv} {i : Nat} {a : A}, (wipeA As vs)[i]? = some (some a) → i ∉ vs ∧ As[i]? = some (some a)
  | [], _, _, _, h => ⟨by simp, h⟩
  | v :: vs, As, i, a, h => by
    rcases set_at (show ((wipeA As vs).set v none)[i]? = _ from h) with ⟨_, e⟩ | ⟨ne, h⟩
    · cases e
    · obtain ⟨h1, h2⟩ := wipeA_at h
      exact ⟨by simp [h1, Ne.symm ne], h2⟩
theorem wipeE_at : ∀ {vs : List Nat} {Γ : Env} {i : Nat}, i ∉ vs → (wipeE Γ vs)[i]? = Γ[i]?
  | [], _, _, _ => rfl
  | v :: vs, Γ, i, h => by
    simp only [List.mem_cons, not_or] at h
    show ((wipeE Γ vs).set v none)[i]? = _
    rw [List.getElem?_set_ne (Ne.symm h.1), wipeE_at h.2]
theorem wipeD_at : ∀ {vs : List Nat} {G : PEnv} {i : Nat}, i ∉ vs → (wipeD G vs)[i]? = G[i]?
  | [], _, _, _ => rfl
  | v :: vs, G, i, h => by
    simp only [List.mem_cons, not_or] at h
    show ((wipeD G vs).set v none)[i]? = _
    rw [List.getElem?_set_ne (Ne.symm h.1), wipeD_at h.2]
theorem wipeD_len : ∀ {vs : List Nat} {G : PEnv}, (wipeD G vs).length = G.length
  | [], _ => rfl
  | v :: vs, G => by show ((wipeD G vs).set v none).length = _; rw [List.length_set, wipeD_len]
theorem restE_at {Γ1 : Env} : ∀ {vs : List Nat} {Γ : Env} {i : Nat}, i ∉ vs → (restE Γ1 Γ vs)[i]? = Γ[i]?
  | [], _, _, _ => rfl
  | v :: vs, Γ, i, h => by
    simp only [List.mem_cons, not_or] at h
    show (restE Γ1 (Γ.set v _) vs)[i]? = _
    rw [restE_at h.2, List.getElem?_set_ne (Ne.symm h.1)]
theorem restE_len {Γ1 : Env} : ∀ {vs : List Nat} {Γ : Env}, (restE Γ1 Γ vs).length = Γ.length
  | [], _ => rfl
  | v :: vs, Γ => by show (restE Γ1 (Γ.set v _) vs).length = _; rw [restE_len, List.length_set]
theorem Sm.wipe (s : Sm As Γ G) (vs : List Nat) : Sm (wipeA As vs) (wipeE Γ vs) (wipeD G vs) := ⟨by rw [wipeE_len, wipeD_len, s.len], fun i a h => by
  obtain ⟨h1, h2⟩ := wipeA_at h
  obtain ⟨t, g1, g2⟩ := s.at_ i a h2
  exact ⟨t, by rw [wipeE_at h1]; exact g1, by rw [wipeD_at h1]; exact g2⟩⟩
/-- behind a turn of a comprehension -/
theorem Sm.turn {G3 : PEnv} (s : Sm As Γ G3) (vs : List Nat) (hl : G3.length = G.length) (h : ∀ i, i ∉ vs → G3[i]? = G[i]?) : Sm (wipeA As vs) (wipeE Γ vs) G := ⟨by rw [wipeE_len, s.len, hl], fun i a hi => by
  obtain ⟨h1, h2⟩ := wipeA_at hi
  obtain ⟨t, g1, g2⟩ := s.at_ i a h2
  exact ⟨t, by rw [wipeE_at h1]; exact g1, by rw [← h i h1]; exact g2⟩⟩
theorem Sm.rest {Γ1 : Env} {vs : List Nat} (s : Sm As Γ (wipeD G vs)) : Sm (wipeA As vs) (restE Γ1 Γ vs) G := ⟨by rw [restE_len, s.len, wipeD_len], fun i a hi => by
  obtain ⟨h1, h2⟩ := wipeA_at hi
  obtain ⟨t, g1, g2, g3, g4⟩ := s.at_ i a h2
  exact ⟨t, by rw [restE_at h1]; exact g1, g2, g3, by rw [← wipeD_at (vs := vs) h1]; exact g4⟩⟩
end

/-! ### runs -/
def Sim {α β γ : Type} (rel : γ → α → β → Prop) (s : AR γ) (G : PEnv) (r : R α) (p : PR β) : Prop := match p with
  | .bad => True
  | .ok d => ∃ t Γ, r = .ok t Γ ∧ rel s.a t d ∧ Sm s.e Γ G
  | .ex x => ∃ Γ, r = .ex x Γ ∧ SX s.x Γ G
theorem AB_inv {α β : Type} {m : Option (AR α)} {k : α → AEnv → Option (AR β)} {s : AR β} (h : AB m k = some s) : ∃ r s2, m = some r ∧ k r.a r.e = some s2 ∧ s = ⟨s2.a, s2.e, jnO r.x s2.x⟩ := by
  unfold AB at h
  cases m with
  | none => cases h
  | some r =>
    dsimp only at h
    cases e : k r.a r.e with
    | none => rw [e] at h; cases h
    | some s2 => rw [e] at h; cases h; exact ⟨r, s2, rfl, e, rfl⟩
theorem RA_inv {α : Type} {a : α} {As : AEnv} {s : AR α} (h : RA a As = some s) : s = ⟨a, As, none⟩ := by cases h; rfl
section
variable {α β γ δ ε ζ : Type} {rel : γ → α → β → Prop} {rel2 : ε → δ → ζ → Prop} {s : AR γ} {s2 : AR ε} {G : PEnv}
theorem Sim.bind {r : R α} {p : PR β} {f : α → Env → R δ} {q : β → PR ζ} (H : Sim rel s G r p)
    (K : ∀ t d Γ, rel s.a t d → Sm s.e Γ G → Sim rel2 s2 G (f t Γ) (q d)) : Sim rel2 ⟨s2.a, s2.e, jnO s.x s2.x⟩ G (r.bind f) (p.bind q) := by
  cases p with
  | bad => trivial
  | ok d =>
    obtain ⟨t, Γ, rfl, h1, h2⟩ := H
    have k := K t d Γ h1 h2
    show Sim _ _ _ (f t Γ) (q d)
    cases e : q d with
    | bad => trivial
    | ok z => rw [e] at k; exact k
    | ex x => rw [e] at k; obtain ⟨Γ', k1, k2⟩ := k; exact ⟨Γ', k1, k2.r⟩
  | ex x => obtain ⟨Γ, rfl, h⟩ := H; exact ⟨Γ, rfl, h.l⟩
theorem Sim.bind' {r : R α} {p : PR β} {f : α → Env → R δ} {q : β → PR ζ} (H : Sim rel s G r p)
    (K : ∀ t d Γ, p = .ok d → rel s.a t d → Sm s.e Γ G → Sim rel2 s2 G (f t Γ) (q d)) : Sim rel2 ⟨s2.a, s2.e, jnO s.x s2.x⟩ G (r.bind f) (p.bind q) := by
  cases p with
  | bad => trivial
  | ok d =>
    obtain ⟨t, Γ, rfl, h1, h2⟩ := H
    have k := K t d Γ rfl h1 h2
    show Sim _ _ _ (f t Γ) (q d)
    cases e : q d with
    | bad => trivial
    | ok z => rw [e] at k; exact k
    | ex x => rw [e] at k; obtain ⟨Γ', k1, k2⟩ := k; exact ⟨Γ', k1, k2.r⟩
  | ex x => obtain ⟨Γ, rfl, h⟩ := H; exact ⟨Γ, rfl, h.l⟩
theorem Sim.op {o : Option α} {o' : Option β} {Γ : Env} (sm : Sm s.e Γ G) (h : ∀ d, o' = some d → ∃ t, o = some t ∧ rel s.a t d) : Sim rel s G (R.op o Γ) (PR.op o') := by
  cases o' with
  | none => trivial
  | some d => obtain ⟨t, rfl, r⟩ := h d rfl; exact ⟨t, Γ, rfl, r, sm⟩
theorem Sim.ret {Γ : Env} {t : α} {d : β} (sm : Sm s.e Γ G) (h : rel s.a t d) : Sim rel s G (.ok t Γ) (.ok d) := ⟨t, Γ, rfl, h, sm⟩
end
abbrev relE : A → T → D → Prop := fun a t d => t.er = d ∧ g a t
abbrev relEs : List A → List T → List D → Prop := fun as ts ds => T.ers ts = ds ∧ gs as ts
def gI : IA → T → Prop
  | .u a, t => g a t ∧ t.noB = true
  | .p a b, t => ∃ x y, t = .tp [x, y] ∧ g a x ∧ g b y ∧ x.noB = true ∧ y.noB = true
abbrev relI : IA → List T → List D → Prop := fun ia ts ds => T.ers ts = ds ∧ ∀ u ∈ ts, gI ia u
def SimC (r : A) (os : List A) (c : CR) (p : PC) : Prop := match p with
  | .bad => True
  | .ret d ds => ∃ t us, c = .ret t us ∧ t.er = d ∧ g r t ∧ t.noB = true ∧ T.ers us = ds ∧ gs os us ∧ T.noBs us = true
  | .ex x ds => ∃ us, c = .ex x us ∧ T.ers us = ds
def CallOk (sm : Sum) (cl : Calls) (pcl : PCalls) : Prop := ∀ f ps r os, sm f ps = some (r, os) → ∀ ts, gs ps ts → argOk (List.range os.length) 0 ts = true → SimC r os (cl f ts) (pcl f (T.ers ts))
theorem arg_ok {a : A} {t : T} (h : g a t) : g (argA a) (.v t.er) := by
  cases a with
  | no => simp [g] at h
  | _ => exact rd_ok (k := .n) (t := .v t.er) rfl (show (T.v t.er).noB = true from rfl) h rfl
theorem args_ok : ∀ {as : List A} {ts : List T}, gs as ts → gs (as.map argA) ((T.ers ts).map .v)
  | [], [], _ => by simp [gs, T.ers]
  | a :: as, t :: ts, h => by simp only [gs] at h; simp only [List.map_cons, T.ers, gs]; exact ⟨arg_ok h.1, args_ok h.2⟩
  | [], _ :: _, h => by simp [gs] at h
  | _ :: _, [], h => by simp [gs] at h
theorem argOk_v (io : List Nat) : ∀ (ds : List D) (i : Nat), argOk io i (ds.map .v) = true
  | [], _ => rfl
  | d :: ds, i => by simp only [List.map_cons, argOk, Bool.true_and]; exact argOk_v io ds (i + 1)
theorem ers_nil' {us : List T} (h : T.ers us = []) : us = [] := by
  cases us with
  | nil => rfl
  | cons u us => simp [T.ers] at h
theorem mayX_inv {α : Type} {As A1 : AEnv} {c : Bool} {r : α} {s : AR α} (h : mayX As (gdA c (RA r A1)) = some s) : c = true ∧ s = ⟨r, A1, some As⟩ := by
  cases c with
  | false => cases h
  | true => cases h; exact ⟨rfl, rfl⟩
section
variable {sm : Sum} {cl : Calls} {pcl : PCalls} {con : String → Option D}
theorem callOk_ret (H : CallOk sm cl pcl) {f : String} {xs : List A} {ts : List T} {r : A} {A1 : AEnv} {s : AR A} {Γ : Env} {G : PEnv} (e1 : sm f (xs.map argA) = some (r, [])) (e2 : mayX A1 (gdA (noBAs xs || clA r) (RA r A1)) = some s) (h : gs xs ts) (hs : Sm A1 Γ G) :
    Sim relE s G (callT ts (cl f ((T.ers ts).map .v)) Γ) (callP (pcl f (T.ers ts))) := by
  obtain ⟨c, rfl⟩ := mayX_inv e2
  have k := H f _ r [] e1 _ (args_ok h) (argOk_v _ _ _)
  rw [map_er_v] at k
  cases e : pcl f (T.ers ts) with
  | bad => trivial
  | ret d ds =>
    rw [e] at k
    obtain ⟨t, us, q, k1, k2, k3, k4, k5, k6⟩ := k
    cases ds with
    | nil =>
      have := ers_nil' k4
      subst this
      refine ⟨t, Γ, ?_, ⟨k1, k2⟩, hs⟩
      rw [q]
      show (if T.noBs ts || t.cl then R.ok t Γ else .bad) = _
      rw [if_pos]
      rcases Bool.or_eq_true_iff.mp c with c | c
      · rw [gs_noB h c]; rfl
      · rw [g_cl k2 c, Bool.or_true]
    | cons d' ds => trivial
  | ex x ds =>
    rw [e] at k
    obtain ⟨us, q, k1⟩ := k
    cases ds with
    | nil =>
      have := ers_nil' k1
      subst this
      rw [q]
      exact ⟨Γ, rfl, _, rfl, hs⟩
    | cons d' ds => trivial
/-- a walk's turn: the target -/
theorem slA_sim : ∀ {is : List Nat} {xs : List A} {ts : List T} {As As' : AEnv} {Γ : Env} {G G' : PEnv}, slA As is xs = some As' → Sm As Γ G → (∀ (i : Nat) (a : A) (t : T), xs[i]? = some a → ts[i]? = some t → g a t) → T.noBs ts = true → xs.length = ts.length → setD G is (T.ers ts) = some G' →
    ∃ Γ', setSlots Γ is ts = some Γ' ∧ Sm As' Γ' G'
  | [], [], [], As, As', Γ, G, G', h, s, _, _, _, e => by cases h; cases e; exact ⟨Γ, rfl, s⟩
  | i :: is, a :: xs, t :: ts, As, As', Γ, G, G', h, s, hg, hb, hl, e => by
    simp only [T.ers, setD] at e
    simp only [T.noBs, Bool.and_eq_true] at hb
    split at e
    · rename_i c
      have c' : i < Γ.length := by rw [s.len]; exact c
      have s2 := s.put c' (hg 0 a t rfl rfl) hb.1
      obtain ⟨Γ', k1, k2⟩ := slA_sim (is := is) (xs := xs) (ts := ts) (show slA (As.set i (some a)) is xs = some As' from h) s2 (fun j b u h1 h2 => hg (j + 1) b u (by simpa using h1) (by simpa using h2)) hb.2 (by simpa using hl) e
      exact ⟨Γ', by simp only [setSlots]; rw [if_pos c']; exact k1, k2⟩
    · cases e
  | [], [], t :: ts, _, _, _, _, _, _, _, _, _, hl, _ => by simp at hl
  | i :: is, a :: xs, [], _, _, _, _, _, _, _, _, _, hl, _ => by simp at hl
  | [], a :: xs, _, _, _, _, _, _, h, _, _, _, _, _ => by cases h
  | i :: is, [], _, _, _, _, _, _, h, _, _, _, _, _ => by cases h
theorem setD_len : ∀ {is : List Nat} {ds : List D} {G G' : PEnv}, setD G is ds = some G' → is.length = ds.length
  | [], [], _, _, _ => rfl
  | i :: is, d :: ds, G, G', h => by
    simp only [setD] at h
    split at h
    · simp [setD_len h]
    · cases h
  | [], _ :: _, _, _, h => by cases h
  | _ :: _, [], _, _, h => by cases h
theorem setD_keep : ∀ {is : List Nat} {ds : List D} {G G' : PEnv}, setD G is ds = some G' → G'.length = G.length ∧ ∀ i, i ∉ is → G'[i]? = G[i]?
  | [], [], _, _, h => by cases h; exact ⟨rfl, fun _ _ => rfl⟩
  | i :: is, d :: ds, G, G', h => by
    simp only [setD] at h
    split at h
    · obtain ⟨h1, h2⟩ := setD_keep h
      refine ⟨by rw [h1, List.length_set], fun j hj => ?_⟩
      simp only [List.mem_cons, not_or] at hj
      rw [h2 j hj.2, List.getElem?_set_ne (Ne.symm hj.1)]
    · cases h
  | [], _ :: _, _, _, h => by cases h
  | _ :: _, [], _, _, h => by cases h
theorem bindD_keep {tg : Tg} {own : List Nat} {d : D} {G G' : PEnv} (hi : tg.ins own = true) (h : bindD tg d G = some G') : G'.length = G.length ∧ ∀ i, i ∉ own → G'[i]? = G[i]? := by
  cases tg with
  | nm j =>
    simp only [bindD] at h
    split at h
    · cases h
      refine ⟨by simp, fun i hn => ?_⟩
      rw [List.getElem?_set_ne fun e => hn (by subst e; simpa [Tg.ins] using hi)]
    · cases h
  | tp is =>
    obtain ⟨ds, h1, h2⟩ := bind_eq' h
    obtain ⟨k1, k2⟩ := setD_keep h2
    exact ⟨k1, fun i hn => k2 i fun m => hn (by simp only [Tg.ins, List.all_eq_true] at hi; simpa using hi i m)⟩
theorem part_at {n : Nat} {a : A} {i : Nat} {b : A} (h : (partA n a)[i]? = some b) : i < n ∧ b = ixN1 a i := by
  unfold partA at h
  rw [List.getElem?_map] at h
  obtain ⟨j, h1, h2⟩ := map_eq' h
  have hi : i < n := by
    have := (List.getElem?_eq_some_iff.mp h1).1
    simpa using this
  rw [List.getElem?_range hi] at h1
  cases h1
  exact ⟨hi, h2.symm⟩
theorem part_len (n : Nat) (a : A) : (partA n a).length = n := by unfold partA; simp
theorem tup_sim {a : A} {t : T} {ds : List D} (h : g a t) (b : t.noB = true) (e : t.er = .tup ds) : ∃ ts, asQ t = some ts ∧ tupT t = some ts ∧ seqT t = some ts ∧ Its t ts ds := by
  obtain ⟨ts, q, it⟩ := asQ_sim (t := t) (ds := ds) (by rw [e]; rfl)
  refine ⟨ts, q, ?_, ?_, it⟩
  · cases t with
    | v d => cases e; exact q
    | w d => cases e; exact q
    | b d => simp [T.noB] at b
    | tp ts => exact q
    | _ => cases e
  · cases t with
    | v d => cases e; exact q
    | w d => cases e; exact q
    | b d => simp [T.noB] at b
    | tp ts => exact q
    | _ => cases e
theorem bind_sim {tg : Tg} {ia : IA} {As As' : AEnv} {t : T} {Γ : Env} {G G' : PEnv} (h : bindA tg ia As = some As') (hg : gI ia t) (s : Sm As Γ G) (e : bindD tg t.er G = some G') : ∃ Γ', bindTg tg t Γ = some Γ' ∧ Sm As' Γ' G' := by
  cases tg with
  | nm i => cases ia with
    | u a =>
      simp only [bindA] at h
      split at h
      · cases h
        simp only [bindD] at e
        split at e
        · rename_i c
          cases e
          have c' : i < Γ.length := by rw [s.len]; exact c
          exact ⟨_, by simp only [bindTg]; rw [if_pos c'], s.put c' hg.1 hg.2⟩
        · cases e
      · cases h
    | p a b => cases h
  | tp is => cases ia with
    | u a =>
      simp only [bindA] at h
      split at h
      · obtain ⟨ds, e1, e2⟩ := bind_eq' e
        have e1' : t.er = .tup ds := by
          cases q : t.er <;> rw [q] at e1 <;> first | (cases e1; rfl) | cases e1
        obtain ⟨ts, q, q1, q2, it⟩ := tup_sim hg.1 hg.2 e1'
        have hn := setD_len e2
        have hl : ts.length = ds.length := ers_len it.er
        obtain ⟨Γ', k1, k2⟩ := slA_sim (ts := ts) h s (fun i b u h1 h2 => by
          obtain ⟨_, rfl⟩ := part_at h1
          exact ixN_ok hg.1 (by rw [e1']; rfl) q it h2) (it.nb hg.2) (by rw [part_len]; omega) (by rw [it.er]; exact e2)
        exact ⟨Γ', by simp only [bindTg, q1, Option.bind_some]; exact k1, k2⟩
      · cases h
    | p a b =>
      simp only [bindA] at h
      split at h
      · obtain ⟨x, y, rfl, g1, g2, b1, b2⟩ := hg
        have e2 : setD G is (T.ers [x, y]) = some G' := e
        obtain ⟨Γ', k1, k2⟩ := slA_sim (ts := [x, y]) h s (fun i c u h1 h2 => by
          match i, h1, h2 with
          | 0, h1, h2 => simp at h1 h2; subst h1; subst h2; exact g1
          | 1, h1, h2 => simp at h1 h2; subst h1; subst h2; exact g2
          | i + 2, h1, h2 => simp at h1) (by simp [T.noBs, b1, b2]) rfl e2
        exact ⟨Γ', k1, k2⟩
      · cases h
theorem fixE_inv {f : AEnv → Option (AR A)} {A0 : AEnv} : ∀ {n : Nat} {X : AEnv} {r : A × AEnv}, fixE f A0 n X = some r → ∃ s, f r.2 = some s ∧ s.a = r.1 ∧ leE s.e r.2 = true ∧ leE A0 r.2 = true
  | 0, _, _, h => by cases h
  | n + 1, X, r, h => by
    simp only [fixE] at h
    cases e : f X with
    | none => rw [e] at h; cases h
    | some s =>
      rw [e] at h
      dsimp only at h
      split at h
      · rename_i c
        cases h
        simp only [Bool.and_eq_true] at c
        exact ⟨s, e, rfl, c.1, c.2⟩
      · exact fixE_inv h
/-- all turns of a comprehension -/
theorem lc_sim {ia : IA} {r : A} {X : AEnv} {G : PEnv} {st : T → Env → R (Option T)} {sp : D → PR (Option D)}
    (H : ∀ u Γ, gI ia u → Sm X Γ G → match sp u.er with
      | .ok none => ∃ Γ', st u Γ = .ok none Γ' ∧ Sm X Γ' G
      | .ok (some d) => ∃ t Γ', st u Γ = .ok (some t) Γ' ∧ t.er = d ∧ g r t ∧ Sm X Γ' G
      | _ => True) : ∀ (ts : List T) (acc : List T) (Γ : Env), (∀ u ∈ ts, gI ia u) → Sm X Γ G → match lcP sp (T.ers ts) with
      | .bad => True
      | .ok ds => ∃ us Γ', lcL st ts Γ acc = .ok (acc ++ us) Γ' ∧ T.ers us = ds ∧ (∀ u ∈ us, g r u) ∧ Sm X Γ' G
      | .ex _ => False
  | [], acc, Γ, _, s => ⟨[], Γ, by simp [lcL], rfl, fun u h => by simp at h, s⟩
  | t :: ts, acc, Γ, hi, s => by
    have h1 := H t Γ (hi t (by simp)) s
    have hi' : ∀ u ∈ ts, gI ia u := fun u hu => hi u (by simp [hu])
    simp only [T.ers, lcP]
    cases e : sp t.er with
    | bad => trivial
    | ex x => trivial
    | ok o =>
      rw [e] at h1
      cases o with
      | none =>
        obtain ⟨Γ', k1, k2⟩ := h1
        have ih := lc_sim H ts acc Γ' hi' k2
        dsimp only
        cases e2 : lcP sp (T.ers ts) with
        | bad => trivial
        | ex x => rw [e2] at ih; exact ih
        | ok ds =>
          rw [e2] at ih
          obtain ⟨us, Γ2, j1, j2⟩ := ih
          exact ⟨us, Γ2, by simp only [lcL, k1]; exact j1, j2⟩
      | some d =>
        obtain ⟨u, Γ', k1, k2, k3, k4⟩ := h1
        have ih := lc_sim H ts (acc ++ [u]) Γ' hi' k4
        dsimp only
        cases e2 : lcP sp (T.ers ts) with
        | bad => trivial
        | ex x => rw [e2] at ih; exact ih.elim
        | ok ds =>
          rw [e2] at ih
          obtain ⟨us, Γ2, j1, j2, j3, j4⟩ := ih
          refine ⟨u :: us, Γ2, by simp only [lcL, k1]; rw [j1]; simp, by simp only [T.ers, k2, j2], fun w hw => ?_, j4⟩
          rcases List.mem_cons.mp hw with rfl | hw
          · exact k3
          · exact j3 w hw
end
end Tv

namespace Tv
open PySem PySem.Spec

section
variable (sm : Sum) (cl : Calls) (pcl : PCalls) (con : String → Option D)
def KE (e : E) : Prop := ∀ As s, aE sm con e As = some s → ∀ Γ G, Sm As Γ G → Sim relE s G (evE cl con e Γ) (pE pcl con e G)
def KX (e : OE) : Prop := ∀ As s, aX sm con e As = some s → ∀ Γ G, Sm As Γ G → Sim relE s G (evX cl con e Γ) (pX pcl con e G)
def KC (e : OE) : Prop := ∀ As s, aX sm con e As = some s → ∀ Γ G, Sm As Γ G → Sim (fun _ b b' => b = b') s G (evC cl con e Γ) (pC pcl con e G)
def KO (e : OE) : Prop := ∀ As s, aX sm con e As = some s → ∀ Γ G, Sm As Γ G → Sim (fun _ b b' => b = b') s G (evO cl con e Γ) (pO pcl con e G)
def KEs (e : Es) : Prop := ∀ As s, aEs sm con e As = some s → ∀ Γ G, Sm As Γ G → Sim relEs s G (evEs cl con e Γ) (pEs pcl con e G)
def KI (e : I) : Prop := ∀ As s, aI sm con e As = some s → ∀ Γ G, Sm As Γ G → Sim relI s G (evI cl con e Γ) (pI pcl con e G)
end
section
variable {sm : Sum} {cl : Calls} {pcl : PCalls} {con : String → Option D}
theorem ke_var {i : Nat} : KE sm cl pcl con (.var i) := by
  intro As s h Γ G hs
  simp only [aE] at h
  split at h
  · rename_i a e
    cases RA_inv h
    obtain ⟨t, h1, h2, h3, h4⟩ := hs.at_ i a e
    simp only [evE, pE, getP0, h1, h4]
    exact Sim.ret hs ⟨bor_er t, bor_ok h2⟩
  · cases h
theorem ke_frz {i : Nat} : KE sm cl pcl con (.frz i) := by
  intro As s h Γ G hs
  simp only [aE] at h
  split at h
  · rename_i a e
    cases RA_inv h
    obtain ⟨t, h1, h2, h3, h4⟩ := hs.at_ i a e
    simp only [evE, pE, getP0, h1, h4]
    by_cases c : isF t = true
    · rw [if_pos c]
      exact Sim.ret (hs.keep (fr_ok h2 h3) h3 h1 h4) ⟨rfl, fr_ok h2 h3⟩
    · rw [if_neg c]
      obtain ⟨u, u1, u2, u3, u4, u5⟩ := fz_sim h2 h3
      rw [u1]
      exact Sim.ret (hs.re u3 u4 (by rw [u2]; exact h4)) ⟨u2, u3⟩
  · cases h
theorem ke_mov {i : Nat} : KE sm cl pcl con (.mov i) := by
  intro As s h Γ G hs
  simp only [aE] at h
  split at h
  · rename_i a e
    cases RA_inv h
    obtain ⟨t, h1, h2, h3, h4⟩ := hs.at_ i a e
    simp only [evE, pE, getP0, h1, h4]
    exact Sim.ret hs.kill1 ⟨rfl, h2⟩
  · cases h
theorem ke_int {i : Int} : KE sm cl pcl con (.int i) := fun As s h Γ G hs => by cases RA_inv h; exact Sim.ret hs ⟨rfl, g_im rfl⟩
theorem ke_str {i : List Nat} : KE sm cl pcl con (.str i) := fun As s h Γ G hs => by cases RA_inv h; exact Sim.ret hs ⟨rfl, g_im rfl⟩
theorem ke_non : KE sm cl pcl con .non := fun As s h Γ G hs => by cases RA_inv h; exact Sim.ret hs ⟨rfl, g_im rfl⟩
theorem ke_bl {i : Bool} : KE sm cl pcl con (.bl i) := fun As s h Γ G hs => by cases RA_inv h; exact Sim.ret hs ⟨rfl, g_im rfl⟩
theorem ke_glb {x : String} : KE sm cl pcl con (.glb x) := by
  intro As s h Γ G hs
  simp only [aE] at h
  simp only [evE, pE]
  cases e : con x with
  | none => trivial
  | some d =>
    rw [e] at h
    cases RA_inv h
    refine Sim.ret hs ⟨rfl, ?_⟩
    by_cases c : d.imm = true
    · rw [if_pos c]; exact g_im c
    · rw [if_neg c]; simp only [g]; exact ⟨rfl, rfl, .v d, rfl, rfl⟩
theorem ke_bin {o : BOp} {a b : E} (ha : KE sm cl pcl con a) (hb : KE sm cl pcl con b) : KE sm cl pcl con (.bin o a b) := by
  intro As s h Γ G hs
  simp only [aE] at h
  replace h := AB_inv h
  obtain ⟨r1, s1, e1, h, rfl⟩ := h
  replace h := AB_inv h
  obtain ⟨r2, s2, e2, h, rfl⟩ := h
  simp only [evE, pE]
  refine (ha _ _ e1 _ _ hs).bind fun x dx Γ1 hx sm1 => (hb _ _ e2 _ _ sm1).bind fun y dy Γ2 hy sm2 => ?_
  cases q : binA o r1.a r2.a with
  | none => rw [q] at h; cases h
  | some r =>
    rw [q] at h
    cases RA_inv h
    obtain ⟨rfl, gx⟩ := hx
    obtain ⟨rfl, gy⟩ := hy
    exact Sim.op sm2 fun d p => by
      obtain ⟨t, t1, t2, t3⟩ := bin_sim gx gy q p
      exact ⟨t, t1, t2, t3⟩
theorem ke_neg {a : E} (ha : KE sm cl pcl con a) : KE sm cl pcl con (.neg a) := by
  intro As s h Γ G hs
  simp only [aE] at h
  replace h := AB_inv h
  obtain ⟨r1, s1, e1, h, rfl⟩ := h
  simp only [evE, pE]
  refine (ha _ _ e1 _ _ hs).bind fun x dx Γ1 hx sm1 => ?_
  cases RA_inv h
  obtain ⟨rfl, gx⟩ := hx
  try dsimp only
  cases q : x.er <;> first | trivial | skip
  rw [nf_int (g_nf gx) q]
  exact Sim.ret sm1 ⟨rfl, g_im rfl⟩
theorem ke_not {a : E} (ha : KE sm cl pcl con a) : KE sm cl pcl con (.not a) := by
  intro As s h Γ G hs
  simp only [aE] at h
  replace h := AB_inv h
  obtain ⟨r1, s1, e1, h, rfl⟩ := h
  simp only [evE, pE]
  refine (ha _ _ e1 _ _ hs).bind fun x dx Γ1 hx sm1 => ?_
  cases RA_inv h
  obtain ⟨rfl, gx⟩ := hx
  try dsimp only
  cases q : x.er <;> first | trivial | skip
  rw [nf_bl (g_nf gx) q]
  exact Sim.ret sm1 ⟨rfl, g_im rfl⟩
theorem ke_cmp {o : COp} {a b : E} (ha : KE sm cl pcl con a) (hb : KE sm cl pcl con b) : KE sm cl pcl con (.cmp o a b) := by
  intro As s h Γ G hs
  simp only [aE] at h
  replace h := AB_inv h
  obtain ⟨r1, s1, e1, h, rfl⟩ := h
  replace h := AB_inv h
  obtain ⟨r2, s2, e2, h, rfl⟩ := h
  simp only [evE, pE]
  refine (ha _ _ e1 _ _ hs).bind fun x dx Γ1 hx sm1 => (hb _ _ e2 _ _ sm1).bind fun y dy Γ2 hy sm2 => ?_
  cases RA_inv h
  obtain ⟨rfl, gx⟩ := hx
  obtain ⟨rfl, gy⟩ := hy
  exact Sim.op sm2 fun d p => by
    obtain ⟨k, k1, rfl⟩ := map_eq' p
    exact ⟨.v (.bl k), by rw [cmp_sim gx gy k1]; rfl, rfl, g_im rfl⟩
theorem ke_isN {a : E} (ha : KE sm cl pcl con a) : KE sm cl pcl con (.isN a) := by
  intro As s h Γ G hs
  simp only [aE] at h
  replace h := AB_inv h
  obtain ⟨r1, s1, e1, h, rfl⟩ := h
  simp only [evE, pE]
  refine (ha _ _ e1 _ _ hs).bind fun x dx Γ1 hx sm1 => ?_
  cases RA_inv h
  obtain ⟨rfl, gx⟩ := hx
  exact Sim.ret sm1 ⟨rfl, g_im rfl⟩
theorem ke_notN {a : E} (ha : KE sm cl pcl con a) : KE sm cl pcl con (.notN a) := by
  intro As s h Γ G hs
  simp only [aE] at h
  replace h := AB_inv h
  obtain ⟨r1, s1, e1, h, rfl⟩ := h
  simp only [evE, pE]
  refine (ha _ _ e1 _ _ hs).bind fun x dx Γ1 hx sm1 => ?_
  cases RA_inv h
  obtain ⟨rfl, gx⟩ := hx
  exact Sim.ret sm1 ⟨rfl, g_im rfl⟩
theorem orE_inv {As : AEnv} {m : Option (AR A)} {s : AR A} (h : orE As m = some s) : ∃ r, m = some r ∧ s = ⟨jn .im r.a, jnE As r.e, r.x⟩ := by
  cases m with
  | none => cases h
  | some r => cases h; exact ⟨r, rfl, rfl⟩
theorem Sim.orl {As : AEnv} {Γ : Env} {G : PEnv} {r : AR A} {t : T} {d : D} (hs : Sm As Γ G) (i : imT t = true) (e : t.er = d) : Sim relE ⟨jn .im r.a, jnE As r.e, r.x⟩ G (.ok t Γ) (.ok d) := ⟨t, Γ, rfl, ⟨e, jn_l (g_im i)⟩, hs.jl⟩
theorem Sim.orr {As : AEnv} {G : PEnv} {r : AR A} {x : R T} {p : PR D} (H : Sim relE r G x p) : Sim relE ⟨jn .im r.a, jnE As r.e, r.x⟩ G x p := by
  cases p with
  | bad => trivial
  | ok d => obtain ⟨t, Γ, h1, h2, h3⟩ := H; exact ⟨t, Γ, h1, ⟨h2.1, jn_r h2.2⟩, h3.jr⟩
  | ex e => exact H
theorem ke_and {a b : E} (ha : KE sm cl pcl con a) (hb : KE sm cl pcl con b) : KE sm cl pcl con (.and a b) := by
  intro As s h Γ G hs
  simp only [aE] at h
  replace h := AB_inv h
  obtain ⟨r1, s1, e1, h, rfl⟩ := h
  obtain ⟨r2, e2, es⟩ := orE_inv h
  simp only [evE, pE]
  refine (ha _ _ e1 _ _ hs).bind fun x dx Γ1 hx sm1 => ?_
  subst es
  obtain ⟨rfl, gx⟩ := hx
  try dsimp only
  cases q : x.er <;> first | trivial | skip
  rename_i k
  rw [nf_bl (g_nf gx) q]
  cases k with
  | true => exact (hb _ _ e2 _ _ sm1).orr
  | false => exact Sim.orl sm1 rfl rfl
theorem ke_or {a b : E} (ha : KE sm cl pcl con a) (hb : KE sm cl pcl con b) : KE sm cl pcl con (.or a b) := by
  intro As s h Γ G hs
  simp only [aE] at h
  replace h := AB_inv h
  obtain ⟨r1, s1, e1, h, rfl⟩ := h
  obtain ⟨r2, e2, es⟩ := orE_inv h
  simp only [evE, pE]
  refine (ha _ _ e1 _ _ hs).bind fun x dx Γ1 hx sm1 => ?_
  subst es
  obtain ⟨rfl, gx⟩ := hx
  try dsimp only
  cases q : x.er <;> first | trivial | skip
  rename_i k
  rw [nf_bl (g_nf gx) q]
  cases k with
  | false => exact (hb _ _ e2 _ _ sm1).orr
  | true => exact Sim.orl sm1 rfl rfl
theorem ke_cmp2 {o p : COp} {a b c : E} (ha : KE sm cl pcl con a) (hb : KE sm cl pcl con b) (hc : KE sm cl pcl con c) : KE sm cl pcl con (.cmp2 o p a b c) := by
  intro As s h Γ G hs
  simp only [aE] at h
  replace h := AB_inv h
  obtain ⟨r1, s1, e1, h, rfl⟩ := h
  replace h := AB_inv h
  obtain ⟨r2, s2, e2, h, rfl⟩ := h
  replace h := orE_inv h
  obtain ⟨r3, e3, es⟩ := h
  replace e3 := AB_inv e3
  obtain ⟨r4, s4, e4, h, e5⟩ := e3
  simp only [evE, pE]
  refine (ha _ _ e1 _ _ hs).bind fun x dx Γ1 hx sm1 => (hb _ _ e2 _ _ sm1).bind fun y dy Γ2 hy sm2 => ?_
  subst es; subst e5
  dsimp only
  obtain ⟨rfl, gx⟩ := hx
  obtain ⟨rfl, gy⟩ := hy
  try dsimp only
  cases q : cmpD o x.er y.er with
  | none => trivial
  | some k =>
    rw [cmp_sim gx gy q]
    cases k with
    | false => exact Sim.orl sm2 rfl rfl
    | true =>
      refine Sim.orr (r := ⟨s4.a, s4.e, jnO r4.x s4.x⟩) ?_
      refine (hc _ _ e4 _ _ sm2).bind fun z dz Γ3 hz sm3 => ?_
      cases RA_inv h
      obtain ⟨rfl, gz⟩ := hz
      exact Sim.op sm3 fun d p => by
        obtain ⟨k, k1, rfl⟩ := map_eq' p
        exact ⟨.v (.bl k), by rw [cmp_sim gy gz k1]; rfl, rfl, g_im rfl⟩
theorem ke_lrn {a : E} (ha : KE sm cl pcl con a) : KE sm cl pcl con (.lrn a) := by
  intro As s h Γ G hs
  simp only [aE] at h
  replace h := AB_inv h
  obtain ⟨r1, s1, e1, h, rfl⟩ := h
  simp only [evE, pE]
  refine (ha _ _ e1 _ _ hs).bind fun x dx Γ1 hx sm1 => ?_
  cases RA_inv h
  obtain ⟨rfl, gx⟩ := hx
  try dsimp only
  cases q : x.er <;> first | trivial | skip
  rename_i j
  rw [nf_int (g_nf gx) q]
  dsimp only
  split
  · refine Sim.ret sm1 ⟨?_, ol_mk fun u hu => ?_⟩
    · show D.lst (T.ers _) = _; rw [ers_map, List.map_map]; rfl
    · obtain ⟨i, _, rfl⟩ := List.mem_map.mp hu; exact g_im rfl
  · trivial
theorem ke_call (H : CallOk sm cl pcl) {f : String} {as : Es} (ha : KEs sm cl pcl con as) : KE sm cl pcl con (.call f as) := by
  intro As s h Γ G hs
  simp only [aE] at h
  replace h := AB_inv h
  obtain ⟨r1, s1, e1, h, rfl⟩ := h
  simp only [evE, pE]
  refine (ha _ _ e1 _ _ hs).bind fun ts ds Γ1 hx sm1 => ?_
  obtain ⟨rfl, gx⟩ := hx
  try dsimp only
  split at h
  · rename_i r q
    exact callOk_ret H q h gx sm1
  · cases h
theorem gs_cons {a : A} {as : List A} {t : T} {ts : List T} (h : g a t) (hs : gs as ts) : gs (a :: as) (t :: ts) := by simp only [gs]; exact ⟨h, hs⟩
theorem ke_cme (H : CallOk sm cl pcl) {c m : String} {o : E} {as : Es} (ho : KE sm cl pcl con o) (ha : KEs sm cl pcl con as) : KE sm cl pcl con (.cme c m o as) := by
  intro As s h Γ G hs
  simp only [aE] at h
  replace h := AB_inv h
  obtain ⟨r1, s1, e1, h, rfl⟩ := h
  replace h := AB_inv h
  obtain ⟨r2, s2, e2, h, rfl⟩ := h
  simp only [evE, pE]
  refine (ho _ _ e1 _ _ hs).bind (s2 := ⟨s2.a, s2.e, jnO r2.x s2.x⟩) fun x dx Γ1 hx sm1 => ?_
  obtain ⟨rfl, gx⟩ := hx
  try dsimp only
  cases q : objD x.er with
  | none => trivial
  | some p =>
    obtain ⟨c', ns, ds⟩ := p
    obtain ⟨us, o1, it⟩ := objQ_sim q
    rw [o1]
    dsimp only
    split
    · refine (ha _ _ e2 _ _ sm1).bind fun ts ds Γ2 hx sm2 => ?_
      obtain ⟨rfl, gs'⟩ := hx
      split at h
      · rename_i r q
        exact callOk_ret (ts := x :: ts) H q h (gs_cons gx gs') sm2
      · cases h
    · trivial
theorem ke_new (H : CallOk sm cl pcl) {c : String} {as : Es} (ha : KEs sm cl pcl con as) : KE sm cl pcl con (.new c as) := by
  intro As s h Γ G hs
  simp only [aE] at h
  replace h := AB_inv h
  obtain ⟨r1, s1, e1, h, rfl⟩ := h
  simp only [evE, pE]
  refine (ha _ _ e1 _ _ hs).bind fun ts ds Γ1 hx sm1 => ?_
  obtain ⟨rfl, gx⟩ := hx
  try dsimp only
  split at h
  · rename_i r0 o q
    obtain ⟨cc, rfl⟩ := mayX_inv h
    have g0 : g (.oo c [] []) (.ob c [] []) := by simp only [g]; exact .inr ⟨[], rfl, by simp [gs]⟩
    have k := H _ _ _ _ q (.ob c [] [] :: (T.ers ts).map .v) (gs_cons g0 (args_ok gx)) (by
      simp only [argOk, List.length_cons, List.length_nil, Bool.and_eq_true]
      exact ⟨by simp [T.noB, T.noBs, List.range, List.range.loop], argOk_v _ _ _⟩)
    have e0 : T.ers (.ob c [] [] :: (T.ers ts).map .v) = .obj c [] [] :: T.ers ts := by simp only [T.ers, map_er_v]; rfl
    rw [e0] at k
    cases e : pcl (c ++ ".__init__") (.obj c [] [] :: T.ers ts) with
    | bad => trivial
    | ret d ds =>
      rw [e] at k
      obtain ⟨t, us, q1, k1, k2, k3, k4, k5, k6⟩ := k
      cases d <;> first | trivial | skip
      cases ds with
      | nil => trivial
      | cons d1 ds => cases ds with
        | cons d2 ds => trivial
        | nil =>
          obtain ⟨u, rfl, hu⟩ := ers_one k4
          obtain ⟨o', ho, go'⟩ := gs_one k5
          cases ho
          have := nf_non (g_nf k2) k1
          subst this
          refine ⟨u, Γ1, ?_, ⟨hu, go'⟩, sm1⟩
          rw [q1]
          show (if T.noBs ts || u.cl then R.ok u Γ1 else .bad) = _
          rw [if_pos]
          rcases Bool.or_eq_true_iff.mp cc with cc | cc
          · rw [gs_noB gx cc]; rfl
          · rw [g_cl go' cc, Bool.or_true]
    | ex x ds =>
      rw [e] at k
      obtain ⟨us, q1, _⟩ := k
      rw [q1]
      exact ⟨Γ1, rfl, _, rfl, sm1⟩
  · cases h
theorem ke_blt {f : BF} {as : Es} (ha : KEs sm cl pcl con as) : KE sm cl pcl con (.blt f as) := by
  intro As s h Γ G hs
  simp only [aE] at h
  replace h := AB_inv h
  obtain ⟨r1, s1, e1, h, rfl⟩ := h
  simp only [evE, pE]
  refine (ha _ _ e1 _ _ hs).bind fun ts ds Γ1 hx sm1 => ?_
  obtain ⟨rfl, gx⟩ := hx
  try dsimp only
  split at h
  · rename_i r q
    cases RA_inv h
    exact Sim.op sm1 fun d p => by
      obtain ⟨t, t1, t2, t3⟩ := blt_sim gx q p
      exact ⟨t, t1, t2, t3⟩
  · cases h
theorem ke_meth {m : MF} {a b : E} (ha : KE sm cl pcl con a) (hb : KE sm cl pcl con b) : KE sm cl pcl con (.meth m a b) := by
  intro As s h Γ G hs
  simp only [aE] at h
  replace h := AB_inv h
  obtain ⟨r1, s1, e1, h, rfl⟩ := h
  replace h := AB_inv h
  obtain ⟨r2, s2, e2, h, rfl⟩ := h
  simp only [evE, pE]
  refine (ha _ _ e1 _ _ hs).bind (s2 := ⟨s2.a, s2.e, jnO r2.x s2.x⟩) fun x dx Γ1 hx sm1 => ?_
  obtain ⟨rfl, gx⟩ := hx
  try dsimp only
  by_cases c : mTyD m x.er = true
  · rw [if_pos c, if_pos (mTy_sim gx c)]
    refine (hb _ _ e2 _ _ sm1).bind fun y dy Γ2 hy sm2 => ?_
    cases RA_inv h
    obtain ⟨rfl, gy⟩ := hy
    exact Sim.op sm2 fun d p => by
      obtain ⟨t, t1, t2, t3⟩ := meth_sim gx gy p
      exact ⟨t, t1, t2, t3⟩
  · rw [if_neg c]; trivial
theorem ke_get {d k : E} {x : OE} (hd : KE sm cl pcl con d) (hk : KE sm cl pcl con k) (hx : KX sm cl pcl con x) : KE sm cl pcl con (.get d k x) := by
  intro As s h Γ G hs
  simp only [aE] at h
  replace h := AB_inv h
  obtain ⟨r1, s1, e1, h, rfl⟩ := h
  replace h := AB_inv h
  obtain ⟨r2, s2, e2, h, rfl⟩ := h
  replace h := AB_inv h
  obtain ⟨r3, s3, e3, h, rfl⟩ := h
  simp only [evE, pE]
  refine (hd _ _ e1 _ _ hs).bind (s2 := ⟨s3.a, s3.e, jnO r2.x (jnO r3.x s3.x)⟩) fun x dx Γ1 hx' sm1 => ?_
  obtain ⟨rfl, gx⟩ := hx'
  try dsimp only
  cases q : dicD x.er with
  | none => trivial
  | some p =>
    obtain ⟨kd, ks, ds⟩ := p
    obtain ⟨ts, o1, it, gi⟩ := dic_sim gx q
    rw [o1]
    refine (hk _ _ e2 _ _ sm1).bind fun y dy Γ2 hy sm2 => (hx _ _ e3 _ _ sm2).bind fun z dz Γ3 hz sm3 => ?_
    obtain ⟨rfl, gy⟩ := hy
    obtain ⟨rfl, gz⟩ := hz
    cases RA_inv h
    try dsimp only
    split
    · refine Sim.ret sm3 ⟨?_, ?_⟩
      · rw [dGet_ers it.er]; cases dGet ks ts y.er <;> rfl
      · cases e : dGet ks ts y.er with
        | none => exact jn_r gz
        | some u => exact jn_l (gi u (dGet_mem e))
    · trivial
theorem ke_isi {a : E} {t : Ty} (ha : KE sm cl pcl con a) : KE sm cl pcl con (.isi a t) := by
  intro As s h Γ G hs
  simp only [aE] at h
  replace h := AB_inv h
  obtain ⟨r1, s1, e1, h, rfl⟩ := h
  simp only [evE, pE]
  refine (ha _ _ e1 _ _ hs).bind fun x dx Γ1 hx sm1 => ?_
  cases RA_inv h
  obtain ⟨rfl, gx⟩ := hx
  try dsimp only
  split
  · exact Sim.ret sm1 ⟨rfl, g_im rfl⟩
  · trivial
theorem ke_ix {a i : E} (ha : KE sm cl pcl con a) (hb : KE sm cl pcl con i) : KE sm cl pcl con (.ix a i) := by
  intro As s h Γ G hs
  simp only [aE] at h
  replace h := AB_inv h
  obtain ⟨r1, s1, e1, h, rfl⟩ := h
  replace h := AB_inv h
  obtain ⟨r2, s2, e2, h, rfl⟩ := h
  simp only [evE, pE]
  refine (ha _ _ e1 _ _ hs).bind fun x dx Γ1 hx sm1 => (hb _ _ e2 _ _ sm1).bind' fun y dy Γ2 hp hy sm2 => ?_
  cases RA_inv h
  obtain ⟨rfl, gx⟩ := hx
  obtain ⟨rfl, gy⟩ := hy
  exact Sim.op sm2 fun d p => by
    obtain ⟨t, t1, t2, t3⟩ := ix_sim (i := i) gx (g_nf gy) (fun n hn => by
      rw [isOt_inv hn] at hp
      simp only [pE, PR.ok.injEq] at hp
      exact hp.symm) p
    exact ⟨t, t1, t2, t3⟩
theorem ke_dix {a i : E} (ha : KE sm cl pcl con a) (hb : KE sm cl pcl con i) : KE sm cl pcl con (.dix a i) := by
  intro As s h Γ G hs
  simp only [aE] at h
  replace h := AB_inv h
  obtain ⟨r1, s1, e1, h, rfl⟩ := h
  replace h := AB_inv h
  obtain ⟨r2, s2, e2, h, rfl⟩ := h
  simp only [evE, pE]
  refine (ha _ _ e1 _ _ hs).bind fun x dx Γ1 hx sm1 => (hb _ _ e2 _ _ sm1).bind fun y dy Γ2 hy sm2 => ?_
  cases RA_inv h
  obtain ⟨rfl, gx⟩ := hx
  obtain ⟨rfl, gy⟩ := hy
  exact Sim.op sm2 fun d p => by
    obtain ⟨t, t1, t2, t3⟩ := dix_sim gx p
    exact ⟨t, t1, t2, t3⟩
theorem ke_din {n : Bool} {k d : E} (ha : KE sm cl pcl con k) (hb : KE sm cl pcl con d) : KE sm cl pcl con (.din n k d) := by
  intro As s h Γ G hs
  simp only [aE] at h
  replace h := AB_inv h
  obtain ⟨r1, s1, e1, h, rfl⟩ := h
  replace h := AB_inv h
  obtain ⟨r2, s2, e2, h, rfl⟩ := h
  simp only [evE, pE]
  refine (ha _ _ e1 _ _ hs).bind fun x dx Γ1 hx sm1 => (hb _ _ e2 _ _ sm1).bind fun y dy Γ2 hy sm2 => ?_
  cases RA_inv h
  obtain ⟨rfl, gx⟩ := hx
  obtain ⟨rfl, gy⟩ := hy
  exact Sim.op sm2 fun d p => by
    obtain ⟨k, k1, rfl⟩ := map_eq' p
    exact ⟨.v (.bl (if n then !k else k)), by rw [din_sim gy k1]; rfl, rfl, g_im rfl⟩
theorem ke_fld {a : E} {f : String} (ha : KE sm cl pcl con a) : KE sm cl pcl con (.fld a f) := by
  intro As s h Γ G hs
  simp only [aE] at h
  replace h := AB_inv h
  obtain ⟨r1, s1, e1, h, rfl⟩ := h
  simp only [evE, pE]
  refine (ha _ _ e1 _ _ hs).bind fun x dx Γ1 hx sm1 => ?_
  obtain ⟨rfl, gx⟩ := hx
  try dsimp only
  split at h
  · rename_i r q
    cases RA_inv h
    exact Sim.op sm1 fun d p => by
      obtain ⟨t, t1, t2, t3⟩ := fld_sim gx q p
      exact ⟨t, t1, t2, t3⟩
  · cases h
theorem ke_sl {a : E} {lo hi : OE} (ha : KE sm cl pcl con a) (hl : KO sm cl pcl con lo) (hh : KO sm cl pcl con hi) : KE sm cl pcl con (.sl a lo hi) := by
  intro As s h Γ G hs
  simp only [aE] at h
  replace h := AB_inv h
  obtain ⟨r1, s1, e1, h, rfl⟩ := h
  replace h := AB_inv h
  obtain ⟨r2, s2, e2, h, rfl⟩ := h
  replace h := AB_inv h
  obtain ⟨r3, s3, e3, h, rfl⟩ := h
  simp only [evE, pE]
  refine (ha _ _ e1 _ _ hs).bind fun x dx Γ1 hx sm1 => (hl _ _ e2 _ _ sm1).bind fun y dy Γ2 hy sm2 => (hh _ _ e3 _ _ sm2).bind fun z dz Γ3 hz sm3 => ?_
  cases RA_inv h
  obtain ⟨rfl, gx⟩ := hx
  try dsimp only
  subst hy; subst hz
  exact Sim.op sm3 fun d p => by
    obtain ⟨t, t1, t2, t3⟩ := sl_sim gx p
    exact ⟨t, t1, t2, t3⟩
theorem ke_rev {a : E} (ha : KE sm cl pcl con a) : KE sm cl pcl con (.rev a) := by
  intro As s h Γ G hs
  simp only [aE] at h
  replace h := AB_inv h
  obtain ⟨r1, s1, e1, h, rfl⟩ := h
  simp only [evE, pE]
  refine (ha _ _ e1 _ _ hs).bind fun x dx Γ1 hx sm1 => ?_
  cases RA_inv h
  obtain ⟨rfl, gx⟩ := hx
  exact Sim.op sm1 fun d p => by
    obtain ⟨t, t1, t2, t3⟩ := rev_sim gx p
    exact ⟨t, t1, t2, t3⟩
theorem gs_mem {as : List A} {ts : List T} {u : T} (h : gs as ts) (hu : u ∈ ts) : g (jns as) u := by
  obtain ⟨i, hi⟩ := List.mem_iff_getElem?.mp hu
  obtain ⟨a, h1, h2⟩ := gs_at h hi
  exact jns_ok (List.mem_of_getElem? h1) h2
theorem ke_lst {as : Es} (ha : KEs sm cl pcl con as) : KE sm cl pcl con (.lst as) := by
  intro As s h Γ G hs
  simp only [aE] at h
  replace h := AB_inv h
  obtain ⟨r1, s1, e1, h, rfl⟩ := h
  simp only [evE, pE]
  refine (ha _ _ e1 _ _ hs).bind fun ts ds Γ1 hx sm1 => ?_
  cases RA_inv h
  obtain ⟨rfl, gx⟩ := hx
  try dsimp only
  rw [← ers_len (ts := ts) rfl]
  split
  · exact Sim.ret sm1 ⟨rfl, ol_mk fun u hu => gs_mem gx hu⟩
  · trivial
theorem tupA_ok {as : List A} {ts : List T} (h : gs as ts) : g (tupA as) (mkTp ts) := by
  unfold tupA
  split
  · rename_i c
    rw [List.all_eq_true] at c
    have i : ∀ u ∈ ts, imT u = true := fun u hu => by
      obtain ⟨i, hi⟩ := List.mem_iff_getElem?.mp hu
      obtain ⟨a, h1, h2⟩ := gs_at h hi
      exact isIm_ok h2 (c a (List.mem_of_getElem? h1))
    have e : D.imms (T.ers ts) = true := by
      rw [imms_all, List.all_eq_true]
      intro d hd
      rw [ers_map] at hd
      obtain ⟨u, hu, rfl⟩ := List.mem_map.mp hd
      exact imT_er (i u hu)
    unfold mkTp
    rw [if_pos e]
    exact g_im (by show (D.tup _).imm = true; simpa [D.imm] using e)
  · simp only [g]
    unfold mkTp
    split
    · rename_i c; left; show (D.tup _).imm = true; simpa [D.imm] using c
    · rename_i c; exact .inr ⟨ts, rfl, by simpa using c, h⟩
theorem ke_tup {as : Es} (ha : KEs sm cl pcl con as) : KE sm cl pcl con (.tup as) := by
  intro As s h Γ G hs
  simp only [aE] at h
  replace h := AB_inv h
  obtain ⟨r1, s1, e1, h, rfl⟩ := h
  simp only [evE, pE]
  refine (ha _ _ e1 _ _ hs).bind fun ts ds Γ1 hx sm1 => ?_
  cases RA_inv h
  obtain ⟨rfl, gx⟩ := hx
  try dsimp only
  rw [← ers_len (ts := ts) rfl]
  split
  · exact Sim.ret sm1 ⟨mkTp_er ts, tupA_ok gx⟩
  · trivial
theorem ke_dic0 {k : Bool} : KE sm cl pcl con (.dic0 k) := fun As s h Γ G hs => by
  cases RA_inv h
  refine Sim.ret hs ⟨rfl, ?_⟩
  simp only [g]
  exact .inr ⟨k, [], [], rfl, fun u h => by simp at h⟩
theorem gdA_inv {α : Type} {c : Bool} {r : Option α} {s : α} (h : gdA c r = some s) : c = true ∧ r = some s := by
  cases c with
  | false => cases h
  | true => exact ⟨rfl, h⟩
theorem lc_end {ia : IA} {r : A} {X : AEnv} {G : PEnv} {own : List Nat} {Γ1 : Env} {st : T → Env → R (Option T)} {sp : D → PR (Option D)}
    (H : ∀ u Γ, gI ia u → Sm X Γ (wipeD G own) → match sp u.er with
      | .ok none => ∃ Γ', st u Γ = .ok none Γ' ∧ Sm X Γ' (wipeD G own)
      | .ok (some d) => ∃ t Γ', st u Γ = .ok (some t) Γ' ∧ t.er = d ∧ g r t ∧ Sm X Γ' (wipeD G own)
      | _ => True) {ts : List T} (gi : ∀ u ∈ ts, gI ia u) (s0 : Sm X (wipeE Γ1 own) (wipeD G own)) :
    Sim relE ⟨.ol r, wipeA X own, none⟩ G ((lcL st ts (wipeE Γ1 own) []).bind fun ts Γ6 => .ok (.l ts) (restE Γ1 Γ6 own)) ((lcP sp (T.ers ts)).bind fun ts => .ok (.lst ts)) := by
  have all := lc_sim H ts [] _ gi s0
  cases hp : lcP sp (T.ers ts) with
  | bad => trivial
  | ex x => rw [hp] at all; exact all.elim
  | ok ds =>
    rw [hp] at all
    obtain ⟨us, Γ', u1, u2, u3, u4⟩ := all
    rw [u1, List.nil_append]
    exact Sim.ret u4.rest ⟨by show D.lst (T.ers us) = _; rw [u2], ol_mk u3⟩
theorem ke_lc {own : List Nat} {tg : Tg} {it : I} {c : OE} {e : E} (hi : KI sm cl pcl con it) (hc : KC sm cl pcl con c) (he : KE sm cl pcl con e) : KE sm cl pcl con (.lc own tg it c e) := by
  intro As s h Γ G hs
  simp only [aE] at h
  replace h := AB_inv h
  obtain ⟨r1, s1, e1, h, rfl⟩ := h
  split at h
  · rename_i ct
    split at h
    · rename_i r X q
      obtain ⟨s2, f1, f2, f3, f4⟩ := fixE_inv q
      simp only [evE, pE]
      refine (hi _ _ e1 _ _ hs).bind fun ts ds Γ1 hx sm1 => ?_
      cases RA_inv h
      obtain ⟨rfl, gi⟩ := hx
      rw [← ers_len (ts := ts) rfl]
      split
      · split at f1
        · cases f1
        · rename_i X1 hb
          replace f1 := AB_inv f1
          obtain ⟨k1, k2, g1, f1, rfl⟩ := f1
          replace f1 := AB_inv f1
          obtain ⟨k3, k4, g2, f1, rfl⟩ := f1
          obtain ⟨cb, f1⟩ := gdA_inv f1
          cases RA_inv f1
          try dsimp only at f2 f3 f4
          subst f2
          have s0 : Sm X (wipeE Γ1 own) (wipeD G own) := (sm1.wipe own).le f4
          refine lc_end (fun u Γ2 hu su => ?_) gi s0
          try dsimp only
          cases b1 : bindD tg u.er (wipeD G own) with
          | none => trivial
          | some G3 =>
            obtain ⟨Γ3, b2, b3⟩ := bind_sim hb hu su b1
            obtain ⟨w1, w2⟩ := bindD_keep ct b1
            rw [b2]
            dsimp only
            have hC := hc _ _ g1 _ _ b3
            cases p1 : pC pcl con c G3 with
            | bad => trivial
            | ex x => trivial
            | ok b =>
              rw [p1] at hC
              obtain ⟨b', Γ4, v1, v2, v3⟩ := hC
              subst v2
              rw [v1]
              cases b' with
              | false => exact ⟨wipeE Γ4 own, rfl, ((v3.jl (Bs := k3.e)).turn own w1 w2).le f3⟩
              | true =>
                have hE := he _ _ g2 _ _ v3
                show (match ((pE pcl con e G3).bind fun t => PR.ok (some t)) with | .ok none => _ | .ok (some d) => _ | _ => _)
                cases p2 : pE pcl con e G3 with
                | bad => trivial
                | ex x => trivial
                | ok d =>
                  rw [p2] at hE
                  obtain ⟨t, Γ5, z1, z2, z3⟩ := hE
                  refine ⟨t, wipeE Γ5 own, ?_, z2.1, z2.2, ((z3.jr (As := k1.e)).turn own w1 w2).le f3⟩
                  show (evE cl con e Γ4).bind _ = _
                  rw [z1]
                  show (if t.noB then _ else _) = _
                  rw [if_pos (g_noB z2.2 cb)]
      · trivial
    · cases h
  · cases h
theorem kx_no : KX sm cl pcl con .no := fun As s h Γ G hs => by cases RA_inv h; exact Sim.ret hs ⟨rfl, g_im rfl⟩
theorem kx_so {e : E} (he : KE sm cl pcl con e) : KX sm cl pcl con (.so e) := fun As s h Γ G hs => he As s h Γ G hs
theorem kc_no : KC sm cl pcl con .no := fun As s h Γ G hs => by cases RA_inv h; exact Sim.ret hs rfl
theorem Sim.last {α β γ δ ε : Type} {rel : γ → α → β → Prop} {s : AR γ} {G : PEnv} {r : R α} {p : PR β} {f : α → Env → R δ} {q : β → PR ε} {rel2 : γ → δ → ε → Prop} (H : Sim rel s G r p)
    (K : ∀ t d Γ, rel s.a t d → Sm s.e Γ G → q d = .bad ∨ ∃ z w, f t Γ = .ok z Γ ∧ q d = .ok w ∧ rel2 s.a z w) : Sim rel2 s G (r.bind f) (p.bind q) := by
  cases p with
  | bad => trivial
  | ok d =>
    obtain ⟨t, Γ, rfl, h1, h2⟩ := H
    show Sim _ _ _ (f t Γ) (q d)
    rcases K t d Γ h1 h2 with e | ⟨z, w, e1, e2, e3⟩
    · rw [e]; trivial
    · rw [e1, e2]; exact ⟨z, Γ, rfl, e3, h2⟩
  | ex x => obtain ⟨Γ, rfl, h⟩ := H; exact ⟨Γ, rfl, h⟩
theorem kc_so {e : E} (he : KE sm cl pcl con e) : KC sm cl pcl con (.so e) := fun As s h Γ G hs => by
  simp only [evC, pC]
  refine (he As s h Γ G hs).last fun t d Γ' hx _ => ?_
  obtain ⟨rfl, gx⟩ := hx
  try dsimp only
  cases q : t.er <;> first | exact .inl rfl | skip
  rename_i b
  rw [nf_bl (g_nf gx) q]
  exact .inr ⟨b, b, rfl, rfl, rfl⟩
theorem ko_no : KO sm cl pcl con .no := fun As s h Γ G hs => by cases RA_inv h; exact Sim.ret hs rfl
theorem ko_so {e : E} (he : KE sm cl pcl con e) : KO sm cl pcl con (.so e) := fun As s h Γ G hs => by
  simp only [evO, pO]
  refine (he As s h Γ G hs).last fun t d Γ' hx _ => ?_
  obtain ⟨rfl, gx⟩ := hx
  try dsimp only
  cases q : t.er <;> first | exact .inl rfl | skip
  rename_i b
  rw [nf_int (g_nf gx) q]
  exact .inr ⟨some b, some b, rfl, rfl, rfl⟩
theorem kes_nil : KEs sm cl pcl con .nil := fun As s h Γ G hs => by cases RA_inv h; exact Sim.ret hs ⟨rfl, by simp [gs]⟩
theorem kes_cons {e : E} {es : Es} (he : KE sm cl pcl con e) (hes : KEs sm cl pcl con es) : KEs sm cl pcl con (.cons e es) := by
  intro As s h Γ G hs
  simp only [aEs] at h
  replace h := AB_inv h
  obtain ⟨r1, s1, e1, h, rfl⟩ := h
  replace h := AB_inv h
  obtain ⟨r2, s2, e2, h, rfl⟩ := h
  simp only [evEs, pEs]
  refine (he _ _ e1 _ _ hs).bind fun x dx Γ1 hx sm1 => (hes _ _ e2 _ _ sm1).bind fun y dy Γ2 hy sm2 => ?_
  cases RA_inv h
  obtain ⟨rfl, gx⟩ := hx
  obtain ⟨rfl, gy⟩ := hy
  exact Sim.ret sm2 ⟨rfl, gs_cons gx gy⟩
theorem ki_rangeD (lo : Int) (n : Nat) (c : Int) : T.ers (rangeT lo n c) = rangeD lo n c := by
  unfold rangeT rangeD; rw [ers_map, List.map_map]; rfl
theorem ki_range {lo : Int} {n : Nat} {c : Int} : ∀ u ∈ rangeT lo n c, gI (.u .im) u := fun u hu => by
  obtain ⟨i, _, rfl⟩ := List.mem_map.mp hu
  exact ⟨g_im rfl, rfl⟩
theorem itF_ok {a : A} {t : T} {ds : List D} (h : g a t) (b : t.noB = true) (e : qD t.er = some ds) : ∃ u ts, t.fz = some u ∧ asQ u = some ts ∧ u.er = t.er ∧ isF u = true ∧ T.ers ts = ds ∧ ∀ w ∈ ts, g (itF a) w ∧ w.noB = true := by
  obtain ⟨u, f1, f2, f3, f4, f5⟩ := fz_sim h b
  obtain ⟨ts, q, it, gi⟩ := q_sim f3 (ds := ds) (by rw [f2]; exact e)
  exact ⟨u, ts, f1, q, f2, f5, it.er, fun w hw => ⟨gi w hw, noBs_mem (it.nb f4) hw⟩⟩
theorem ki_seq {e : E} (he : KE sm cl pcl con e) : KI sm cl pcl con (.seq e) := by
  intro As s h Γ G hs
  simp only [aI] at h
  replace h := AB_inv h
  obtain ⟨r1, s1, e1, h, rfl⟩ := h
  obtain ⟨cb, h⟩ := gdA_inv h
  simp only [evI, pI]
  refine (he _ _ e1 _ _ hs).bind fun x dx Γ1 hx sm1 => ?_
  cases RA_inv h
  obtain ⟨rfl, gx⟩ := hx
  try dsimp only
  have bx := g_noB gx cb
  refine Sim.op sm1 fun ds p => ?_
  have gen : qD x.er = some ds → (∀ u : T, isF u = true → u.er = x.er → itemsT u = asQ u) → ∃ ts, x.fz.bind itemsT = some ts ∧ relI (.u (itF r1.a)) ts ds := fun hq hu => by
    obtain ⟨u, ts, f1, f2, f3, f4, f5, f6⟩ := itF_ok gx bx hq
    exact ⟨ts, by rw [f1]; show itemsT u = _; rw [hu u f4 f3, f2], f5, f6⟩
  have fv : ∀ {u : T} {d : D}, isF u = true → u.er = d → u = .v d ∨ u = .w d := fun {u d} h e => by
    cases u <;> first | (cases h; done) | (cases e; first | exact .inl rfl | exact .inr rfl)
  cases q : x.er with
  | lst xs => rw [q] at p; cases p; exact gen (by rw [q]; rfl) fun u h1 h2 => by rcases fv h1 (h2.trans q) with rfl | rfl <;> rfl
  | tup xs => rw [q] at p; cases p; exact gen (by rw [q]; rfl) fun u h1 h2 => by rcases fv h1 (h2.trans q) with rfl | rfl <;> rfl
  | scr xs => rw [q] at p; cases p; exact gen (by rw [q]; rfl) fun u h1 h2 => by rcases fv h1 (h2.trans q) with rfl | rfl <;> rfl
  | str z =>
    rw [q] at p; cases p
    have := nf_str (g_nf gx) q
    subst this
    refine ⟨z.map fun c => .v (.str [c]), rfl, by rw [ers_map, List.map_map]; rfl, fun u hu => ?_⟩
    obtain ⟨c, _, rfl⟩ := List.mem_map.mp hu
    refine ⟨?_, rfl⟩
    exact no_im (a := frA r1.a) (fr_ok gx rfl) rfl
  | _ => rw [q] at p; cases p
theorem ki_rng1 {a : E} (ha : KE sm cl pcl con a) : KI sm cl pcl con (.rng1 a) := by
  intro As s h Γ G hs
  simp only [aI] at h
  replace h := AB_inv h
  obtain ⟨r1, s1, e1, h, rfl⟩ := h
  simp only [evI, pI]
  refine (ha _ _ e1 _ _ hs).bind fun x dx Γ1 hx sm1 => ?_
  cases RA_inv h
  obtain ⟨rfl, gx⟩ := hx
  try dsimp only
  cases q : x.er <;> first | trivial | skip
  rename_i j
  rw [nf_int (g_nf gx) q]
  dsimp only
  split
  · exact Sim.ret sm1 ⟨ki_rangeD _ _ _, ki_range⟩
  · trivial
theorem ki_rng2 {a b : E} (ha : KE sm cl pcl con a) (hb : KE sm cl pcl con b) : KI sm cl pcl con (.rng2 a b) := by
  intro As s h Γ G hs
  simp only [aI] at h
  replace h := AB_inv h
  obtain ⟨r1, s1, e1, h, rfl⟩ := h
  replace h := AB_inv h
  obtain ⟨r2, s2, e2, h, rfl⟩ := h
  simp only [evI, pI]
  refine (ha _ _ e1 _ _ hs).bind fun x dx Γ1 hx sm1 => (hb _ _ e2 _ _ sm1).bind fun y dy Γ2 hy sm2 => ?_
  cases RA_inv h
  obtain ⟨rfl, gx⟩ := hx
  obtain ⟨rfl, gy⟩ := hy
  try dsimp only
  cases q : x.er <;> first | trivial | skip
  cases q2 : y.er <;> first | trivial | skip
  rw [nf_int (g_nf gx) q, nf_int (g_nf gy) q2]
  dsimp only
  split
  · exact Sim.ret sm2 ⟨ki_rangeD _ _ _, ki_range⟩
  · trivial
theorem ki_rng3 {a b c : E} (ha : KE sm cl pcl con a) (hb : KE sm cl pcl con b) (hc : KE sm cl pcl con c) : KI sm cl pcl con (.rng3 a b c) := by
  intro As s h Γ G hs
  simp only [aI] at h
  replace h := AB_inv h
  obtain ⟨r1, s1, e1, h, rfl⟩ := h
  replace h := AB_inv h
  obtain ⟨r2, s2, e2, h, rfl⟩ := h
  replace h := AB_inv h
  obtain ⟨r3, s3, e3, h, rfl⟩ := h
  simp only [evI, pI]
  refine (ha _ _ e1 _ _ hs).bind fun x dx Γ1 hx sm1 => (hb _ _ e2 _ _ sm1).bind fun y dy Γ2 hy sm2 => (hc _ _ e3 _ _ sm2).bind fun z dz Γ3 hz sm3 => ?_
  cases RA_inv h
  obtain ⟨rfl, gx⟩ := hx
  obtain ⟨rfl, gy⟩ := hy
  obtain ⟨rfl, gz⟩ := hz
  try dsimp only
  cases q : x.er <;> first | trivial | skip
  cases q2 : y.er <;> first | trivial | skip
  cases q3 : z.er <;> first | trivial | skip
  rw [nf_int (g_nf gx) q, nf_int (g_nf gy) q2, nf_int (g_nf gz) q3]
  dsimp only
  split
  · exact Sim.ret sm3 ⟨ki_rangeD _ _ _, ki_range⟩
  · trivial
theorem itL_ok {a : A} {t : T} {ds : List D} (h : g a t) (b : t.noB = true) (e : lD t.er = some ds) : ∃ ts, t.fz.bind listT = some ts ∧ T.ers ts = ds ∧ ∀ w ∈ ts, g (itF a) w ∧ w.noB = true := by
  obtain ⟨_, e2⟩ := asQ_L e
  obtain ⟨u, ts, f1, f2, f3, f4, f5, f6⟩ := itF_ok h b e2
  refine ⟨ts, ?_, f5, f6⟩
  rw [f1]
  show listT u = _
  rw [← f3] at e
  cases u with
  | v d => cases d <;> first | (cases e; done) | exact f2
  | w d => cases d <;> first | (cases e; done) | exact f2
  | _ => cases f4
theorem ki_enum {e : E} (he : KE sm cl pcl con e) : KI sm cl pcl con (.enum e) := by
  intro As s h Γ G hs
  simp only [aI] at h
  replace h := AB_inv h
  obtain ⟨r1, s1, e1, h, rfl⟩ := h
  obtain ⟨cb, h⟩ := gdA_inv h
  simp only [evI, pI]
  refine (he _ _ e1 _ _ hs).bind fun x dx Γ1 hx sm1 => ?_
  cases RA_inv h
  obtain ⟨rfl, gx⟩ := hx
  try dsimp only
  cases q : lD x.er with
  | none => trivial
  | some ds =>
    obtain ⟨ts, f1, rfl, f3⟩ := itL_ok gx (g_noB gx cb) q
    rw [f1]
    refine Sim.ret sm1 ⟨?_, fun u hu => ?_⟩
    · rw [ers_map, ers_map, List.zipIdx_map, List.map_map, List.map_map]; rfl
    · obtain ⟨p, hp, rfl⟩ := List.mem_map.mp hu
      have := f3 p.1 (List.fst_mem_of_mem_zipIdx hp)
      exact ⟨_, _, rfl, g_im rfl, this.1, rfl, this.2⟩
theorem ki_rvd {e : E} (he : KE sm cl pcl con e) : KI sm cl pcl con (.rvd e) := by
  intro As s h Γ G hs
  simp only [aI] at h
  replace h := AB_inv h
  obtain ⟨r1, s1, e1, h, rfl⟩ := h
  obtain ⟨cb, h⟩ := gdA_inv h
  simp only [evI, pI]
  refine (he _ _ e1 _ _ hs).bind fun x dx Γ1 hx sm1 => ?_
  cases RA_inv h
  obtain ⟨rfl, gx⟩ := hx
  try dsimp only
  cases q : lD x.er with
  | none => trivial
  | some ds =>
    obtain ⟨ts, f1, rfl, f3⟩ := itL_ok gx (g_noB gx cb) q
    rw [f1]
    exact Sim.ret sm1 ⟨by rw [ers_map, ers_map, List.map_reverse], fun u hu => f3 u (List.mem_reverse.mp hu)⟩
theorem ki_zip {a b : E} (ha : KE sm cl pcl con a) (hb : KE sm cl pcl con b) : KI sm cl pcl con (.zip a b) := by
  intro As s h Γ G hs
  simp only [aI] at h
  replace h := AB_inv h
  obtain ⟨r1, s1, e1, h, rfl⟩ := h
  replace h := AB_inv h
  obtain ⟨r2, s2, e2, h, rfl⟩ := h
  obtain ⟨cb, h⟩ := gdA_inv h
  simp only [Bool.and_eq_true] at cb
  simp only [evI, pI]
  refine (ha _ _ e1 _ _ hs).bind fun x dx Γ1 hx sm1 => (hb _ _ e2 _ _ sm1).bind fun y dy Γ2 hy sm2 => ?_
  cases RA_inv h
  obtain ⟨rfl, gx⟩ := hx
  obtain ⟨rfl, gy⟩ := hy
  try dsimp only
  cases q : lD x.er with
  | none => trivial
  | some ds =>
    cases q2 : lD y.er with
    | none => trivial
    | some es =>
      obtain ⟨ts, f1, rfl, f3⟩ := itL_ok gx (g_noB gx cb.1) q
      obtain ⟨us, f4, rfl, f6⟩ := itL_ok gy (g_noB gy cb.2) q2
      rw [f1, f4]
      refine Sim.ret sm2 ⟨?_, fun u hu => ?_⟩
      · rw [ers_map, ers_map, ers_map, List.zip_map, List.map_map, List.map_map]; rfl
      · obtain ⟨p, hp, rfl⟩ := List.mem_map.mp hu
        have m := List.of_mem_zip hp
        have h1 := f3 _ m.1
        have h2 := f6 _ m.2
        exact ⟨_, _, rfl, h1.1, h2.1, h1.2, h2.2⟩
theorem dicF_ok {a : A} {t : T} {k : Bool} {ks ds : List D} (h : g a t) (b : t.noB = true) (e : dicD t.er = some (k, ks, ds)) : ∃ ts, t.fz.bind dicQ = some (k, ks, ts) ∧ T.ers ts = ds ∧ ∀ w ∈ ts, g (valA (frA a)) w ∧ w.noB = true := by
  obtain ⟨u, f1, f2, f3, f4, f5⟩ := fz_sim h b
  obtain ⟨ts, q, it, gi⟩ := dic_sim f3 (k := k) (ks := ks) (ds := ds) (by rw [f2]; exact e)
  exact ⟨ts, by rw [f1]; exact q, it.er, fun w hw => ⟨gi w hw, noBs_mem (it.nb f4) hw⟩⟩
theorem ers_v (ks : List D) : T.ers (ks.map T.v) = ks := by
  rw [ers_map, List.map_map]
  exact List.map_id ks
theorem im_v {ks : List D} (h : D.imms ks = true) : ∀ u ∈ ks.map T.v, gI (.u .im) u := fun u hu => by
  obtain ⟨d, hd, rfl⟩ := List.mem_map.mp hu
  rw [imms_all] at h
  exact ⟨g_im (List.all_eq_true.mp h d hd), rfl⟩
theorem ki_keys {e : E} (he : KE sm cl pcl con e) : KI sm cl pcl con (.keys e) := by
  intro As s h Γ G hs
  simp only [aI] at h
  replace h := AB_inv h
  obtain ⟨r1, s1, e1, h, rfl⟩ := h
  obtain ⟨cb, h⟩ := gdA_inv h
  simp only [evI, pI]
  refine (he _ _ e1 _ _ hs).bind fun x dx Γ1 hx sm1 => ?_
  cases RA_inv h
  obtain ⟨rfl, gx⟩ := hx
  try dsimp only
  cases q : dicD x.er with
  | none => trivial
  | some p =>
    obtain ⟨k, ks, ds⟩ := p
    obtain ⟨ts, f1, rfl, f3⟩ := dicF_ok gx (g_noB gx cb) q
    rw [f1]
    dsimp only
    split
    · rename_i c
      exact Sim.ret sm1 ⟨ers_v ks, im_v c⟩
    · trivial
theorem ki_keysM {e : E} (he : KE sm cl pcl con e) : KI sm cl pcl con (.keysM e) := by
  intro As s h Γ G hs
  simp only [aI] at h
  replace h := AB_inv h
  obtain ⟨r1, s1, e1, h, rfl⟩ := h
  obtain ⟨cb, h⟩ := gdA_inv h
  simp only [evI, pI]
  refine (he _ _ e1 _ _ hs).bind fun x dx Γ1 hx sm1 => ?_
  cases RA_inv h
  obtain ⟨rfl, gx⟩ := hx
  try dsimp only
  cases q : dicD x.er with
  | none => trivial
  | some p =>
    obtain ⟨k, ks, ds⟩ := p
    cases k with
    | true => trivial
    | false =>
      obtain ⟨ts, f1, rfl, f3⟩ := dicF_ok gx (g_noB gx cb) q
      rw [f1]
      dsimp only
      split
      · rename_i c
        exact Sim.ret sm1 ⟨ers_v ks, im_v c⟩
      · trivial
theorem ki_dvals {e : E} (he : KE sm cl pcl con e) : KI sm cl pcl con (.dvals e) := by
  intro As s h Γ G hs
  simp only [aI] at h
  replace h := AB_inv h
  obtain ⟨r1, s1, e1, h, rfl⟩ := h
  obtain ⟨cb, h⟩ := gdA_inv h
  simp only [evI, pI]
  refine (he _ _ e1 _ _ hs).bind fun x dx Γ1 hx sm1 => ?_
  cases RA_inv h
  obtain ⟨rfl, gx⟩ := hx
  try dsimp only
  cases q : dicD x.er with
  | none => trivial
  | some p =>
    obtain ⟨k, ks, ds⟩ := p
    cases k with
    | true => trivial
    | false =>
      obtain ⟨ts, f1, rfl, f3⟩ := dicF_ok gx (g_noB gx cb) q
      rw [f1]
      exact Sim.ret sm1 ⟨rfl, fun u hu => f3 u hu⟩
theorem ki_ditems {e : E} (he : KE sm cl pcl con e) : KI sm cl pcl con (.ditems e) := by
  intro As s h Γ G hs
  simp only [aI] at h
  replace h := AB_inv h
  obtain ⟨r1, s1, e1, h, rfl⟩ := h
  obtain ⟨cb, h⟩ := gdA_inv h
  simp only [evI, pI]
  refine (he _ _ e1 _ _ hs).bind fun x dx Γ1 hx sm1 => ?_
  cases RA_inv h
  obtain ⟨rfl, gx⟩ := hx
  try dsimp only
  cases q : dicD x.er with
  | none => trivial
  | some p =>
    obtain ⟨k, ks, ds⟩ := p
    cases k with
    | true => trivial
    | false =>
      obtain ⟨ts, f1, rfl, f3⟩ := dicF_ok gx (g_noB gx cb) q
      rw [f1]
      dsimp only
      split
      · rename_i c
        refine Sim.ret sm1 ⟨?_, fun u hu => ?_⟩
        · rw [ers_map, ers_map, List.zip_map_right, List.map_map, List.map_map]; rfl
        · obtain ⟨p, hp, rfl⟩ := List.mem_map.mp hu
          have m := List.of_mem_zip hp
          have h2 := f3 _ m.2
          rw [imms_all] at c
          exact ⟨_, _, rfl, g_im (List.all_eq_true.mp c _ m.1), h2.1, rfl, h2.2⟩
      · trivial
end
section
variable {sm : Sum} {cl : Calls} {pcl : PCalls} (con : String → Option D) (H : CallOk sm cl pcl)
include H
mutual
theorem kE : ∀ e : E, KE sm cl pcl con e
  | .var _ => ke_var
  | .frz _ => ke_frz
  | .mov _ => ke_mov
  | .int _ => ke_int
  | .str _ => ke_str
  | .non => ke_non
  | .bl _ => ke_bl
  | .glb _ => ke_glb
  | .bin _ a b => ke_bin (kE a) (kE b)
  | .neg a => ke_neg (kE a)
  | .not a => ke_not (kE a)
  | .cmp _ a b => ke_cmp (kE a) (kE b)
  | .isN a => ke_isN (kE a)
  | .notN a => ke_notN (kE a)
  | .cmp2 _ _ a b c => ke_cmp2 (kE a) (kE b) (kE c)
  | .and a b => ke_and (kE a) (kE b)
  | .or a b => ke_or (kE a) (kE b)
  | .call _ as => ke_call H (kEs as)
  | .cme _ _ o as => ke_cme H (kE o) (kEs as)
  | .new _ as => ke_new H (kEs as)
  | .lrn a => ke_lrn (kE a)
  | .blt _ as => ke_blt (kEs as)
  | .meth _ a b => ke_meth (kE a) (kE b)
  | .get d k x => ke_get (kE d) (kE k) (kX x)
  | .isi a _ => ke_isi (kE a)
  | .ix a i => ke_ix (kE a) (kE i)
  | .dix a i => ke_dix (kE a) (kE i)
  | .din _ k d => ke_din (kE k) (kE d)
  | .fld a _ => ke_fld (kE a)
  | .sl a lo hi => ke_sl (kE a) (kO lo) (kO hi)
  | .rev a => ke_rev (kE a)
  | .lst es => ke_lst (kEs es)
  | .tup es => ke_tup (kEs es)
  | .dic0 _ => ke_dic0
  | .lc _ _ it c e => ke_lc (kI it) (kC c) (kE e)
theorem kX : ∀ e : OE, KX sm cl pcl con e
  | .no => kx_no
  | .so e => kx_so (kE e)
theorem kC : ∀ e : OE, KC sm cl pcl con e
  | .no => kc_no
  | .so e => kc_so (kE e)
theorem kO : ∀ e : OE, KO sm cl pcl con e
  | .no => ko_no
  | .so e => ko_so (kE e)
theorem kEs : ∀ e : Es, KEs sm cl pcl con e
  | .nil => kes_nil
  | .cons e es => kes_cons (kE e) (kEs es)
theorem kI : ∀ e : I, KI sm cl pcl con e
  | .seq e => ki_seq (kE e)
  | .rng1 a => ki_rng1 (kE a)
  | .rng2 a b => ki_rng2 (kE a) (kE b)
  | .rng3 a b c => ki_rng3 (kE a) (kE b) (kE c)
  | .enum e => ki_enum (kE e)
  | .zip a b => ki_zip (kE a) (kE b)
  | .rvd a => ki_rvd (kE a)
  | .keys a => ki_keys (kE a)
  | .keysM a => ki_keysM (kE a)
  | .dvals a => ki_dvals (kE a)
  | .ditems a => ki_ditems (kE a)
end
end
end Tv

namespace Tv
open PySem PySem.Spec

/-! ### places -/
def pm : List AK → List PK → Prop
  | [], [] => True
  | .n o :: p, .n k :: r => (∀ j, o = some j → k = j) ∧ pm p r
  | .f s :: p, .f s' :: r => s = s' ∧ pm p r
  | _, _ => False
theorem pm_snoc : ∀ {p : List AK} {r : List PK} {a : AK} {k : PK}, pm p r → pm [a] [k] → pm (p ++ [a]) (r ++ [k])
  | [], [], _, _, _, h => h
  | .n o :: p, .n j :: r, a, k, h, h2 => ⟨h.1, pm_snoc h.2 h2⟩
  | .f s :: p, .f j :: r, a, k, h, h2 => ⟨h.1, pm_snoc h.2 h2⟩
  | [], _ :: _, _, _, h, _ => by simp [pm] at h
  | .n _ :: _, [], _, _, h, _ => by simp [pm] at h
  | .f _ :: _, [], _, _, h, _ => by simp [pm] at h
  | .n _ :: _, .f _ :: _, _, _, h, _ => by simp [pm] at h
  | .f _ :: _, .n _ :: _, _, _, h, _ => by simp [pm] at h
theorem gtP_imm : ∀ {r : List PK} {e d : D}, e.imm = true → gtP e r = some d → d.imm = true
  | [], e, d, i, h => by cases e <;> (simp only [gtP] at h; cases h; exact i)
  | k :: r, e, d, i, h => by
    cases e with
    | tup ts => cases k with
      | n k =>
        simp only [gtP] at h
        split at h
        · rename_i t ht
          exact gtP_imm (imms_mem (by simpa [D.imm] using i) (List.mem_of_getElem? ht)) h
        · cases h
      | f s => simp [gtP] at h
    | lst ts => simp [D.imm] at i
    | obj c ns ts => simp [D.imm] at i
    | _ => simp [gtP] at h
theorem imm_get {t : T} (h : imT t = true) {r : List PK} {d : D} (e : gtP t.er r = some d) (n : d.imm = false) : False := by
  rw [gtP_imm (imT_er h) e] at n; cases n
/-- what stands at a place, and another thing put there -/
theorem lens_sim : ∀ {p : List AK} {r : List PK} {a x : A} {t : T} {d : D}, g a t → t.noB = true → gtA a p = some x → pm p r → gtP t.er r = some d → d.imm = false →
    ∃ u, getP t r = some u ∧ u.er = d ∧ g x u ∧ u.noB = true ∧ ∀ (x' : A) (u' : T), g x' u' → u'.noB = true → u'.er.imm = false → g (stA a p x') (setP t r u') ∧ (setP t r u').er = stP t.er r u'.er ∧ (setP t r u').noB = true ∧ (setP t r u').er.imm = false
  | [], [], a, x, t, d, h, b, e, _, e2, n => by
    have : a = x := by cases a <;> (simp only [gtA] at e; cases e; rfl)
    subst this
    have : t.er = d := by
      cases q : t.er <;> (rw [q] at e2; simp only [gtP] at e2; cases e2; rfl)
    refine ⟨t, by cases t <;> rfl, this, h, b, fun x' u' g1 b1 n1 => ?_⟩
    have e3 : setP t [] u' = u' := by cases t <;> rfl
    have e4 : stA a [] x' = x' := by cases a <;> rfl
    have e5 : stP t.er [] u'.er = u'.er := by cases t.er <;> rfl
    rw [e3, e4, e5]
    exact ⟨g1, rfl, b1, n1⟩
  | .n o :: p, .n k :: r, a, x, t, d, h, b, e, m, e2, n => by
    cases a with
    | ol a0 =>
      simp only [g] at h
      rcases h with h | ⟨ts, rfl, h⟩
      · exact (imm_get h e2 n).elim
      · simp only [T.er, gtP] at e2
        split at e2
        · rename_i t0 ht
          obtain ⟨w, hw, rfl⟩ := ers_at2 rfl ht
          have mem := List.mem_of_getElem? hw
          have bw := noBs_mem (by simpa [T.noB] using b) mem
          obtain ⟨u, k1, k2, k3, k4, k5⟩ := lens_sim (p := p) (r := r) (a := a0) (x := x) (h w mem) bw (by simpa [gtA] using e) m.2 e2 n
          refine ⟨u, by simp only [getP, hw]; exact k1, k2, k3, k4, fun x' u' g1 b1 n1 => ?_⟩
          obtain ⟨j1, j2, j3, j4⟩ := k5 x' u' g1 b1 n1
          have es : setP (.l ts) (.n k :: r) u' = .l (ts.set k (setP w r u')) := by simp only [setP, hw]
          rw [es]
          refine ⟨?_, ?_, ?_, by simp [T.er, D.imm]⟩
          · simp only [stA]
            refine ol_mk fun z hz => ?_
            rcases List.mem_or_eq_of_mem_set hz with hz | rfl
            · exact jn_l (h z hz)
            · exact jn_r j1
          · simp only [T.er, stP, ht]
            rw [ers_map, List.map_set, ← ers_map, j2]
          · simp only [T.noB]; exact noBs_set (by simpa [T.noB] using b) j3
        · cases e2
    | ot as =>
      cases o with
      | none => cases e
      | some j =>
        have := m.1 j rfl
        subst this
        simp only [gtA] at e
        simp only [g] at h
        rcases h with h | ⟨ts, rfl, h0, h⟩
        · exact (imm_get h e2 n).elim
        · simp only [T.er, gtP] at e2
          split at e2
          · rename_i t0 ht
            obtain ⟨w, hw, rfl⟩ := ers_at2 rfl ht
            obtain ⟨a0, ha, hg⟩ := gs_at h hw
            rw [ha] at e
            have mem := List.mem_of_getElem? hw
            have bw := noBs_mem (by simpa [T.noB] using b) mem
            obtain ⟨u, k1, k2, k3, k4, k5⟩ := lens_sim (p := p) (r := r) (a := a0) (x := x) hg bw e m.2 e2 n
            refine ⟨u, by simp only [getP, hw]; exact k1, k2, k3, k4, fun x' u' g1 b1 n1 => ?_⟩
            obtain ⟨j1, j2, j3, j4⟩ := k5 x' u' g1 b1 n1
            have es : setP (.tp ts) (.n k :: r) u' = .tp (ts.set k (setP w r u')) := by simp only [setP, hw]
            have hk : k < ts.length := (List.getElem?_eq_some_iff.mp hw).1
            have nim : D.imms (T.ers (ts.set k (setP w r u'))) = false := by
              cases q : D.imms (T.ers (ts.set k (setP w r u'))) with
              | false => rfl
              | true =>
                have := imms_mem q (d := (setP w r u').er) (by
                  rw [ers_map]
                  exact List.mem_map_of_mem (List.mem_of_getElem? (List.getElem?_set_self hk)))
                rw [j4] at this; cases this
            rw [es]
            refine ⟨?_, ?_, ?_, by simp only [T.er, D.imm]; exact nim⟩
            · simp only [stA, ha, g]
              refine .inr ⟨_, rfl, nim, gs_of (by rw [List.length_set, List.length_set]; exact gs_len h) fun i b z h1 h2 => ?_⟩
              rcases set_at h1 with ⟨rfl, rfl⟩ | ⟨ne, h1⟩
              · rw [List.getElem?_set_self hk] at h2; cases h2; exact j1
              · rw [List.getElem?_set_ne ne] at h2
                obtain ⟨c, hc, gc⟩ := gs_at h h2
                rw [h1] at hc; cases hc; exact gc
            · simp only [T.er, stP, ht]
              rw [ers_map, List.map_set, ← ers_map, j2]
            · simp only [T.noB]; exact noBs_set (by simpa [T.noB] using b) j3
          · cases e2
    | _ => cases e
  | .f s :: p, .f s' :: r, a, x, t, d, h, b, e, m, e2, n => by
    obtain ⟨rfl, m⟩ := m
    cases a with
    | oo c ns as =>
      simp only [gtA] at e
      simp only [g] at h
      rcases h with h | ⟨ts, rfl, h⟩
      · exact (imm_get h e2 n).elim
      · simp only [T.er, gtP] at e2
        split at e
        · rename_i k hk
          rw [hk] at e2
          dsimp only at e2
          split at e2
          · rename_i t0 ht
            obtain ⟨w, hw, rfl⟩ := ers_at2 rfl ht
            obtain ⟨a0, ha, hg⟩ := gs_at h hw
            rw [ha] at e
            have mem := List.mem_of_getElem? hw
            have bw := noBs_mem (by simpa [T.noB] using b) mem
            obtain ⟨u, k1, k2, k3, k4, k5⟩ := lens_sim (p := p) (r := r) (a := a0) (x := x) hg bw e m e2 n
            refine ⟨u, by simp only [getP, hk, hw]; exact k1, k2, k3, k4, fun x' u' g1 b1 n1 => ?_⟩
            obtain ⟨j1, j2, j3, j4⟩ := k5 x' u' g1 b1 n1
            have es : setP (.ob c ns ts) (.f s :: r) u' = .ob c ns (ts.set k (setP w r u')) := by simp only [setP, hk, hw]
            have hk2 : k < ts.length := (List.getElem?_eq_some_iff.mp hw).1
            rw [es]
            refine ⟨?_, ?_, ?_, by simp [T.er, D.imm]⟩
            · simp only [stA, hk, ha, g]
              refine .inr ⟨_, rfl, gs_of (by rw [List.length_set, List.length_set]; exact gs_len h) fun i b z h1 h2 => ?_⟩
              rcases set_at h1 with ⟨rfl, rfl⟩ | ⟨ne, h1⟩
              · rw [List.getElem?_set_self hk2] at h2; cases h2; exact j1
              · rw [List.getElem?_set_ne ne] at h2
                obtain ⟨c, hc, gc⟩ := gs_at h h2
                rw [h1] at hc; cases hc; exact gc
            · simp only [T.er, stP, hk, ht]
              rw [ers_map, List.map_set, ← ers_map, j2]
            · simp only [T.noB]; exact noBs_set (by simpa [T.noB] using b) j3
          · cases e2
        · cases e
    | _ => cases e
  | [], _ :: _, _, _, _, _, _, _, _, m, _, _ => by simp [pm] at m
  | .n _ :: _, [], _, _, _, _, _, _, _, m, _, _ => by simp [pm] at m
  | .f _ :: _, [], _, _, _, _, _, _, _, m, _, _ => by simp [pm] at m
  | .n _ :: _, .f _ :: _, _, _, _, _, _, _, _, m, _, _ => by simp [pm] at m
  | .f _ :: _, .n _ :: _, _, _, _, _, _, _, _, m, _, _ => by simp [pm] at m
abbrev relP : PthA → Pth → Pth → Prop := fun q r r' => r = r' ∧ q.1 = r.1 ∧ pm q.2 r.2
theorem gt_sim {As : AEnv} {Γ : Env} {G : PEnv} {q : PthA} {r : Pth} {x : A} {d : D} (hs : Sm As Γ G) (e : gtAs As q = some x) (m1 : q.1 = r.1) (m2 : pm q.2 r.2) (e2 : gtG G r = some d) (n : d.imm = false) :
    ∃ u, getΓ Γ r = some u ∧ u.er = d ∧ g x u ∧ u.noB = true ∧ ∀ (x' : A) (u' : T), g x' u' → u'.noB = true → u'.er.imm = false → Sm (stAs As q x') (setΓ Γ r u') (stG G r u'.er) := by
  unfold gtAs at e
  split at e
  · rename_i a ha
    obtain ⟨t, h1, h2, h3, h4⟩ := hs.at_ q.1 a ha
    rw [m1] at h1 h4
    unfold gtG at e2
    rw [h4] at e2
    obtain ⟨u, k1, k2, k3, k4, k5⟩ := lens_sim h2 h3 e m2 e2 n
    refine ⟨u, by unfold getΓ; rw [h1]; exact k1, k2, k3, k4, fun x' u' g1 b1 n1 => ?_⟩
    obtain ⟨j1, j2, j3, j4⟩ := k5 x' u' g1 b1 n1
    unfold stAs setΓ stG
    rw [ha, h1, h4]
    dsimp only
    rw [← j2, m1]
    exact hs.put (List.getElem?_eq_some_iff.mp h1).1 j1 j3
  · cases e
section
variable (sm : Sum) (cl : Calls) (pcl : PCalls) (con : String → Option D)
def KP (e : Pl) : Prop := ∀ As s, aPl sm con e As = some s → ∀ Γ G, Sm As Γ G → Sim relP s G (evPl cl con e Γ) (pPl pcl con e G)
end
theorem own_of {x : A} {u : T} {ts : List D} (h : g x u) (c : isQA (some x) = true) (e : wrQ (some u.er) = some ts) : ∃ us, ownQ (some u) = some us ∧ T.ers us = ts := by
  have n : u.er.imm = false := by
    unfold wrQ at e
    split at e
    · rename_i xs q; injection q with q; rw [q]; simp [D.imm]
    · rename_i xs q
      injection q with q
      rw [q]
      split at e
      · cases e
      · rename_i c; simpa [D.imm] using c
    · cases e
  have notIm : imT u = true → False := fun h => by rw [imT_er h] at n; cases n
  cases x with
  | ol a =>
    simp only [g] at h
    rcases h with h | ⟨us, rfl, h⟩
    · exact (notIm h).elim
    · cases e; exact ⟨us, rfl, rfl⟩
  | ot as =>
    simp only [g] at h
    rcases h with h | ⟨us, rfl, h0, h⟩
    · exact (notIm h).elim
    · simp only [T.er, wrQ, h0] at e
      refine ⟨us, rfl, by simpa using e⟩
  | _ => cases c
theorem wrQ_imm {d : D} {ts : List D} (e : wrQ (some d) = some ts) : d.imm = false := by
  unfold wrQ at e
  split at e
  · rename_i xs q; injection q with q; rw [q]; simp [D.imm]
  · rename_i xs q
    injection q with q
    rw [q]
    split at e
    · cases e
    · rename_i c; simpa [D.imm] using c
  · cases e
section
variable {sm : Sum} {cl : Calls} {pcl : PCalls} {con : String → Option D}
theorem kp_nm {i : Nat} : KP sm cl pcl con (.nm i) := by
  intro As s h Γ G hs
  simp only [aPl] at h
  split at h
  · rename_i a e
    cases RA_inv h
    obtain ⟨t, h1, h2, h3, h4⟩ := hs.at_ i a e
    simp only [evPl, pPl, h1, h4]
    exact Sim.ret hs ⟨rfl, rfl, by simp [pm]⟩
  · cases h
theorem own_at {As : AEnv} {Γ : Env} {G : PEnv} {q : PthA} {r : Pth} {ts : List D} (hs : Sm As Γ G) (m1 : q.1 = r.1) (m2 : pm q.2 r.2) (c : isQA (gtAs As q) = true) (e : wrQ (gtG G r) = some ts) : ∃ us, ownQ (getΓ Γ r) = some us ∧ T.ers us = ts := by
  cases q1 : gtAs As q with
  | none => rw [q1] at c; cases c
  | some x =>
    rw [q1] at c
    cases q2 : gtG G r with
    | none => rw [q2] at e; cases e
    | some d =>
      rw [q2] at e
      obtain ⟨u, u1, u2, u3, u4, u5⟩ := gt_sim hs q1 m1 m2 q2 (wrQ_imm e)
      rw [u1]
      exact own_of u3 c (by rw [u2]; exact e)
theorem kp_ix {p : Pl} {e : E} (hp : KP sm cl pcl con p) (he : KE sm cl pcl con e) : KP sm cl pcl con (.ix p e) := by
  intro As s h Γ G hs
  simp only [aPl] at h
  replace h := AB_inv h
  obtain ⟨r1, s1, e1, h, rfl⟩ := h
  replace h := AB_inv h
  obtain ⟨r2, s2, e2, h, rfl⟩ := h
  split at h
  · rename_i c
    simp only [Bool.and_eq_true] at c
    simp only [evPl, pPl]
    refine (hp _ _ e1 _ _ hs).bind (s2 := ⟨s2.a, s2.e, jnO r2.x s2.x⟩) fun q q' Γ1 hq sm1 => ?_
    obtain ⟨rfl, m1, m2⟩ := hq
    cases w : wrQ (gtG G q) with
    | none => trivial
    | some ts =>
      obtain ⟨us, o1, o2⟩ := own_at sm1 m1 m2 c.1 w
      rw [o1]
      refine (he _ _ e2 _ _ sm1).bind' fun k dk Γ2 hpk hk sm2 => ?_
      obtain ⟨rfl, gk⟩ := hk
      obtain ⟨vs, o3, o4⟩ := own_at sm2 m1 m2 c.2 w
      rw [o3]
      dsimp only
      have ln : vs.length = ts.length := ers_len o4
      cases z : ixD1 ts.length k.er with
      | none => trivial
      | some n =>
        cases RA_inv h
        cases y : k.er <;> rw [y] at z <;> first | (cases z; done) | skip
        rename_i j
        rw [nf_int (g_nf gk) y, ln]
        simp only [ixT1, ixD1] at z ⊢
        rw [z]
        refine Sim.ret sm2 ⟨rfl, m1, pm_snoc m2 ?_⟩
        simp only [pm, and_true]
        intro i hi
        rw [isOt_inv hi] at hpk
        simp only [pE, PR.ok.injEq] at hpk
        rw [y] at hpk
        cases hpk
        exact ixN_nn z
  · cases h
theorem kp_fl {p : Pl} {f : String} (hp : KP sm cl pcl con p) : KP sm cl pcl con (.fl p f) := by
  intro As s h Γ G hs
  simp only [aPl] at h
  replace h := AB_inv h
  obtain ⟨r1, s1, e1, h, rfl⟩ := h
  split at h
  · rename_i c
    simp only [evPl, pPl]
    refine (hp _ _ e1 _ _ hs).bind fun q q' Γ1 hq sm1 => ?_
    obtain ⟨rfl, m1, m2⟩ := hq
    cases RA_inv h
    cases w : gtG G q with
    | none => trivial
    | some d =>
      cases d <;> first | trivial | skip
      rename_i c' ns vs
      cases q1 : gtAs r1.e r1.a with
      | none => rw [q1] at c; cases c
      | some x =>
        rw [q1] at c
        obtain ⟨u, u1, u2, u3, u4, u5⟩ := gt_sim sm1 q1 m1 m2 w (by simp [D.imm])
        rw [u1]
        have : ∃ us, u = .ob c' ns us := by
          cases x with
          | oo c2 ns2 as =>
            simp only [g] at u3
            rcases u3 with u3 | ⟨us, rfl, u3⟩
            · have := imT_er u3; rw [u2] at this; simp [D.imm] at this
            · cases u2; exact ⟨us, rfl⟩
          | _ => cases c
        obtain ⟨us, rfl⟩ := this
        dsimp only
        cases z : fIx ns f with
        | none => trivial
        | some k => exact Sim.ret sm1 ⟨rfl, m1, pm_snoc m2 (by simp [pm])⟩
  · cases h
end
section
variable {sm : Sum} {cl : Calls} {pcl : PCalls} (con : String → Option D) (H : CallOk sm cl pcl)
include H
theorem kP : ∀ p : Pl, KP sm cl pcl con p
  | .nm _ => kp_nm
  | .ix p e => kp_ix (kP p) (kE con H e)
  | .fl p _ => kp_fl (kP p)
end
end Tv

namespace Tv
open PySem PySem.Spec

/-! ### statements -/
def SimS (O : AO) (r : SR) (p : PS) : Prop := match p with
  | .bad => True
  | .nx G => ∃ Γ, r = .nx Γ ∧ SX O.nx Γ G
  | .rt d G => ∃ t Γ a X, r = .rt t Γ ∧ O.rt = some (a, X) ∧ t.er = d ∧ g a t ∧ t.noB = true ∧ Sm X Γ G
  | .bk G => ∃ Γ, r = .bk Γ ∧ SX O.bk Γ G
  | .ct G => ∃ Γ, r = .ct Γ ∧ SX O.ct Γ G
  | .ex x G => ∃ Γ, r = .ex x Γ ∧ SX O.ex Γ G
theorem BO_inv {α : Type} {m : Option (AR α)} {k : α → AEnv → Option AO} {O : AO} (h : BO m k = some O) : ∃ r P, m = some r ∧ k r.a r.e = some P ∧ O = ⟨P.nx, P.bk, P.ct, P.rt, jnO r.x P.ex⟩ := by
  unfold BO at h
  cases m with
  | none => cases h
  | some r =>
    dsimp only at h
    cases e : k r.a r.e with
    | none => rw [e] at h; cases h
    | some s2 => rw [e] at h; cases h; exact ⟨r, s2, rfl, e, rfl⟩
theorem SimS.exr {O : AO} {x : Option AEnv} {r : SR} {p : PS} (h : SimS O r p) : SimS ⟨O.nx, O.bk, O.ct, O.rt, jnO x O.ex⟩ r p := by
  cases p with
  | ex y G => obtain ⟨Γ, h1, h2⟩ := h; exact ⟨Γ, h1, h2.r⟩
  | _ => exact h
section
variable {α β γ : Type} {rel : γ → α → β → Prop} {s : AR γ} {O : AO} {G : PEnv}
theorem Sim.lift {rel : γ → T → D → Prop} {r : R T} {p : PR D} {f : T → Env → SR} {q : D → PS} (H : Sim rel s G r p)
    (K : ∀ t d Γ, rel s.a t d → Sm s.e Γ G → SimS O (f t Γ) (q d)) : SimS ⟨O.nx, O.bk, O.ct, O.rt, jnO s.x O.ex⟩ (liftE r f) (lfE p q G) := by
  cases p with
  | bad => trivial
  | ok d =>
    obtain ⟨t, Γ, rfl, h1, h2⟩ := H
    exact (K t d Γ h1 h2).exr
  | ex x => obtain ⟨Γ, rfl, h⟩ := H; exact ⟨Γ, rfl, h.l⟩
theorem Sim.liftI {r : R α} {p : PR β} {f : α → Env → SR} {q : β → PS} (H : Sim rel s G r p)
    (K : ∀ t d Γ, rel s.a t d → Sm s.e Γ G → SimS O (f t Γ) (q d)) : SimS ⟨O.nx, O.bk, O.ct, O.rt, jnO s.x O.ex⟩ (Tv.liftI r f) (lfI p q G) := by
  cases p with
  | bad => trivial
  | ok d =>
    obtain ⟨t, Γ, rfl, h1, h2⟩ := H
    exact (K t d Γ h1 h2).exr
  | ex x => obtain ⟨Γ, rfl, h⟩ := H; exact ⟨Γ, rfl, h.l⟩
end
theorem SimS.go {As : AEnv} {Γ : Env} {G : PEnv} (h : Sm As Γ G) : SimS (go As) (.nx Γ) (.nx G) := ⟨Γ, rfl, As, rfl, h⟩
theorem jnR_l {x y : Option (A × AEnv)} {a : A} {X : AEnv} {t : T} {Γ : Env} {G : PEnv} (h : x = some (a, X)) (ha : g a t) (hs : Sm X Γ G) : ∃ a' X', jnR x y = some (a', X') ∧ g a' t ∧ Sm X' Γ G := by
  subst h
  cases y with
  | none => exact ⟨a, X, rfl, ha, hs⟩
  | some y => exact ⟨_, _, rfl, jn_l ha, hs.jl⟩
theorem jnR_r {x y : Option (A × AEnv)} {a : A} {X : AEnv} {t : T} {Γ : Env} {G : PEnv} (h : y = some (a, X)) (ha : g a t) (hs : Sm X Γ G) : ∃ a' X', jnR x y = some (a', X') ∧ g a' t ∧ Sm X' Γ G := by
  subst h
  cases x with
  | none => exact ⟨a, X, rfl, ha, hs⟩
  | some y => exact ⟨_, _, rfl, jn_r ha, hs.jr⟩
theorem SimS.jl {O Q : AO} {r : SR} {p : PS} (h : SimS O r p) : SimS (O.jn Q) r p := by
  cases p with
  | bad => trivial
  | nx G => obtain ⟨Γ, h1, h2⟩ := h; exact ⟨Γ, h1, h2.l⟩
  | bk G => obtain ⟨Γ, h1, h2⟩ := h; exact ⟨Γ, h1, h2.l⟩
  | ct G => obtain ⟨Γ, h1, h2⟩ := h; exact ⟨Γ, h1, h2.l⟩
  | ex x G => obtain ⟨Γ, h1, h2⟩ := h; exact ⟨Γ, h1, h2.l⟩
  | rt d G =>
    obtain ⟨t, Γ, a, X, h1, h2, h3, h4, h5, h6⟩ := h
    obtain ⟨a', X', k1, k2, k3⟩ := jnR_l (y := Q.rt) h2 h4 h6
    exact ⟨t, Γ, a', X', h1, k1, h3, k2, h5, k3⟩
theorem SimS.jr {O Q : AO} {r : SR} {p : PS} (h : SimS Q r p) : SimS (O.jn Q) r p := by
  cases p with
  | bad => trivial
  | nx G => obtain ⟨Γ, h1, h2⟩ := h; exact ⟨Γ, h1, h2.r⟩
  | bk G => obtain ⟨Γ, h1, h2⟩ := h; exact ⟨Γ, h1, h2.r⟩
  | ct G => obtain ⟨Γ, h1, h2⟩ := h; exact ⟨Γ, h1, h2.r⟩
  | ex x G => obtain ⟨Γ, h1, h2⟩ := h; exact ⟨Γ, h1, h2.r⟩
  | rt d G =>
    obtain ⟨t, Γ, a, X, h1, h2, h3, h4, h5, h6⟩ := h
    obtain ⟨a', X', k1, k2, k3⟩ := jnR_r (x := O.rt) h2 h4 h6
    exact ⟨t, Γ, a', X', h1, k1, h3, k2, h5, k3⟩
theorem fixS_inv {f : AEnv → Option AO} {A0 : AEnv} : ∀ {n : Nat} {X : AEnv} {r : AEnv × AO}, fixS f A0 n X = some r → f r.1 = some r.2 ∧ leO r.2.nx r.1 = true ∧ leO r.2.ct r.1 = true ∧ leE A0 r.1 = true
  | 0, _, _, h => by cases h
  | n + 1, X, r, h => by
    simp only [fixS] at h
    cases e : f X with
    | none => rw [e] at h; cases h
    | some s =>
      rw [e] at h
      dsimp only at h
      split at h
      · rename_i c
        cases h
        simp only [Bool.and_eq_true] at c
        exact ⟨e, c.1.1, c.1.2, c.2⟩
      · exact fixS_inv h
theorem SX.le {x : Option AEnv} {X : AEnv} {Γ : Env} {G : PEnv} (h : SX x Γ G) (l : leO x X = true) : Sm X Γ G := by
  obtain ⟨Y, rfl, hs⟩ := h
  exact hs.le l
theorem for_sim {ia : IA} {X : AEnv} {O : AO} {st : T → Env → SR} {sp : D → PEnv → PS} (H : ∀ u Γ G, gI ia u → Sm X Γ G → SimS O (st u Γ) (sp u.er G)) (l1 : leO O.nx X = true) (l2 : leO O.ct X = true) :
    ∀ (ts : List T) (Γ : Env) (G : PEnv), (∀ u ∈ ts, gI ia u) → Sm X Γ G → SimS ⟨jnO (some X) O.bk, none, none, O.rt, O.ex⟩ (forL st ts Γ) (forP sp (T.ers ts) G)
  | [], Γ, G, _, hs => ⟨Γ, rfl, SX.l ⟨X, rfl, hs⟩⟩
  | t :: ts, Γ, G, hi, hs => by
    have h1 := H t Γ G (hi t (by simp)) hs
    have hi' : ∀ u ∈ ts, gI ia u := fun u hu => hi u (by simp [hu])
    simp only [T.ers, forP]
    cases e : sp t.er G with
    | bad => trivial
    | nx G' =>
      rw [e] at h1
      obtain ⟨Γ', k1, k2⟩ := h1
      simp only [forL, k1]
      exact for_sim H l1 l2 ts Γ' G' hi' (k2.le l1)
    | ct G' =>
      rw [e] at h1
      obtain ⟨Γ', k1, k2⟩ := h1
      simp only [forL, k1]
      exact for_sim H l1 l2 ts Γ' G' hi' (k2.le l2)
    | bk G' =>
      rw [e] at h1
      obtain ⟨Γ', k1, k2⟩ := h1
      simp only [forL, k1]
      exact ⟨Γ', rfl, k2.r⟩
    | rt d G' =>
      rw [e] at h1
      obtain ⟨u, Γ', a, Y, k1, k2⟩ := h1
      simp only [forL, k1]
      exact ⟨u, Γ', a, Y, rfl, k2⟩
    | ex x G' =>
      rw [e] at h1
      obtain ⟨Γ', k1, k2⟩ := h1
      simp only [forL, k1]
      exact ⟨Γ', rfl, k2⟩
theorem whl_sim {X : AEnv} {r : AR A} {O : AO} {c : Env → R T} {c' : PEnv → PR D} {b : Env → SR} {b' : PEnv → PS} (hc : ∀ Γ G, Sm X Γ G → Sim relE r G (c Γ) (c' G)) (hb : ∀ Γ G, Sm r.e Γ G → SimS O (b Γ) (b' G))
    (l1 : leO O.nx X = true) (l2 : leO O.ct X = true) : ∀ (n : Nat) (Γ : Env) (G : PEnv), Sm X Γ G → SimS ⟨jnO (some r.e) O.bk, none, none, O.rt, jnO r.x O.ex⟩ (whlL c b n Γ) (whlP c' b' n G)
  | 0, _, _, _ => trivial
  | n + 1, Γ, G, hs => by
    have h0 := hc Γ G hs
    simp only [whlP]
    cases e : c' G with
    | bad => trivial
    | ex x =>
      rw [e] at h0
      obtain ⟨Γ1, k1, k2⟩ := h0
      simp only [whlL, k1]
      exact ⟨Γ1, rfl, k2.l⟩
    | ok d =>
      rw [e] at h0
      obtain ⟨t, Γ1, k1, ⟨k2, k3⟩, k4⟩ := h0
      cases d <;> first | trivial | skip
      rename_i v
      have := nf_bl (g_nf k3) k2
      subst this
      cases v with
      | false =>
        simp only [whlL, k1]
        exact ⟨Γ1, rfl, SX.l ⟨_, rfl, k4⟩⟩
      | true =>
        have h1 := hb Γ1 G k4
        dsimp only
        cases e2 : b' G with
        | bad => trivial
        | nx G' =>
          rw [e2] at h1
          obtain ⟨Γ', j1, j2⟩ := h1
          simp only [whlL, k1, j1]
          exact whl_sim hc hb l1 l2 n Γ' G' (j2.le l1)
        | ct G' =>
          rw [e2] at h1
          obtain ⟨Γ', j1, j2⟩ := h1
          simp only [whlL, k1, j1]
          exact whl_sim hc hb l1 l2 n Γ' G' (j2.le l2)
        | bk G' =>
          rw [e2] at h1
          obtain ⟨Γ', j1, j2⟩ := h1
          simp only [whlL, k1, j1]
          exact ⟨Γ', rfl, j2.r⟩
        | rt d G' =>
          rw [e2] at h1
          obtain ⟨u, Γ', a, Y, j1, j2⟩ := h1
          simp only [whlL, k1, j1]
          exact ⟨u, Γ', a, Y, rfl, j2⟩
        | ex x G' =>
          rw [e2] at h1
          obtain ⟨Γ', j1, j2⟩ := h1
          simp only [whlL, k1, j1]
          exact ⟨Γ', rfl, j2.r⟩
theorem Sm.keepIo {As : AEnv} {Γ : Env} {G : PEnv} (hs : Sm As Γ G) (io : List Nat) : Sm (keepA io As) (keepIo io Γ) (keepD io G) := by
  have key : ∀ (io : List Nat) (B : AEnv) (Γ' : Env) (G' : PEnv), Sm B Γ' G' → Γ'.length = Γ.length → Sm (io.foldl (fun B i => B.set i ((As[i]?).getD none)) B) (io.foldl (fun Γ' i => Γ'.set i ((Γ[i]?).getD none)) Γ') (io.foldl (fun G' i => G'.set i ((G[i]?).getD none)) G') := by
    intro io
    induction io with
    | nil => intro B Γ' G' h _; exact h
    | cons i io ih =>
      intro B Γ' G' h hl
      refine ih _ _ _ ?_ (by rw [List.length_set]; exact hl)
      dsimp only
      cases q : As[i]? with
      | none => exact h.kill2
      | some o => cases o with
        | none => exact h.kill2
        | some a =>
          obtain ⟨t, h1, h2, h3, h4⟩ := hs.at_ i a q
          rw [h1, h4]
          exact h.put (by rw [hl]; exact (List.getElem?_eq_some_iff.mp h1).1) h2 h3
  refine key io _ _ _ ⟨by simp [hs.len], fun i a h => ?_⟩ (by simp)
  exfalso
  have := List.mem_of_getElem? h
  rw [List.mem_replicate] at this
  cases this.2
section
variable (sm : Sum) (cl : Calls) (pcl : PCalls) (con : String → Option D)
def KS (e : S) : Prop := ∀ As O, aS sm con e As = some O → ∀ Γ G, Sm As Γ G → SimS O (evS cl con e Γ) (pS pcl con e G)
def KSs (e : Ss) : Prop := ∀ As O, aSs sm con e As = some O → ∀ Γ G, Sm As Γ G → SimS O (evSs cl con e Γ) (pSs pcl con e G)
end
theorem seq_sim {t : T} {ds : List D} (b : t.noB = true) (e : seqD t.er = some ds) : ∃ ts, asQ t = some ts ∧ seqT t = some ts ∧ Its t ts ds ∧ qD t.er = some ds := by
  have e2 : qD t.er = some ds := by
    cases q : t.er <;> rw [q] at e <;> first | (cases e; done) | exact e
  obtain ⟨ts, q, it⟩ := asQ_sim e2
  refine ⟨ts, q, ?_, it, e2⟩
  cases t with
  | v d => cases d <;> first | (cases e; done) | exact q
  | w d => cases d <;> first | (cases e; done) | exact q
  | b d => simp [T.noB] at b
  | tp ts => exact q
  | l ts => exact q
  | _ => cases e
theorem isLG_inv {G : PEnv} {q : Pth} (h : isLG G q = true) : ∃ ds, gtG G q = some (.lst ds) := by
  unfold isLG at h
  split at h
  · rename_i ds e; exact ⟨ds, e⟩
  · cases h
theorem isDG_inv {G : PEnv} {q : Pth} (h : isDG G q = true) : ∃ k ks ds, gtG G q = some (.dct k ks ds) := by
  unfold isDG at h
  split at h
  · rename_i k ks ds e; exact ⟨k, ks, ds, e⟩
  · cases h
theorem olA_inv {o : Option A} {a : A} (h : olA o = some a) : o = some (.ol a) := by
  unfold olA at h
  split at h
  · cases h; rfl
  · cases h
theorem odA_inv {o : Option A} {a : A} (h : odA o = some a) : o = some (.od a) := by
  unfold odA at h
  split at h
  · cases h; rfl
  · cases h
/-- an owned list at a place -/
theorem l_at {As : AEnv} {Γ : Env} {G : PEnv} {q : PthA} {r : Pth} {a : A} {ds : List D} (hs : Sm As Γ G) (m1 : q.1 = r.1) (m2 : pm q.2 r.2) (c : olA (gtAs As q) = some a) (e : gtG G r = some (.lst ds)) :
    ∃ us, getΓ Γ r = some (.l us) ∧ T.ers us = ds ∧ (∀ u ∈ us, g a u) ∧ T.noBs us = true ∧ isLs Γ r = true ∧ ∀ (a' : A) (vs : List T), (∀ u ∈ vs, g a' u) → T.noBs vs = true → Sm (stAs As q (.ol a')) (setΓ Γ r (.l vs)) (stG G r (.lst (T.ers vs))) := by
  obtain ⟨u, u1, u2, u3, u4, u5⟩ := gt_sim hs (olA_inv c) m1 m2 e (by simp [D.imm])
  simp only [g] at u3
  rcases u3 with u3 | ⟨us, rfl, u3⟩
  · exact (imT_notL u3 (ds := ds) (by rw [u2]; rfl)).elim
  · cases u2
    exact ⟨us, u1, rfl, u3, by simpa [T.noB] using u4, by unfold isLs; rw [u1], fun a' vs h b => u5 (.ol a') (.l vs) (ol_mk h) (by simpa [T.noB] using b) (by simp [T.er, D.imm])⟩
theorem d_at {As : AEnv} {Γ : Env} {G : PEnv} {q : PthA} {r : Pth} {a : A} {k : Bool} {ks ds : List D} (hs : Sm As Γ G) (m1 : q.1 = r.1) (m2 : pm q.2 r.2) (c : odA (gtAs As q) = some a) (e : gtG G r = some (.dct k ks ds)) :
    ∃ us, getΓ Γ r = some (.dc k ks us) ∧ T.ers us = ds ∧ (∀ u ∈ us, g a u) ∧ T.noBs us = true ∧ isDs Γ r = true ∧ ∀ (a' : A) (k' : Bool) (ks' : List D) (vs : List T), (∀ u ∈ vs, g a' u) → T.noBs vs = true → Sm (stAs As q (.od a')) (setΓ Γ r (.dc k' ks' vs)) (stG G r (.dct k' ks' (T.ers vs))) := by
  obtain ⟨u, u1, u2, u3, u4, u5⟩ := gt_sim hs (odA_inv c) m1 m2 e (by simp [D.imm])
  simp only [g] at u3
  rcases u3 with u3 | ⟨k', ks', us, rfl, u3⟩
  · have := imT_er u3; rw [u2] at this; simp [D.imm] at this
  · cases u2
    exact ⟨us, u1, rfl, u3, by simpa [T.noB] using u4, by unfold isDs; rw [u1], fun a' k' ks' vs h b => u5 (.od a') (.dc k' ks' vs) (by simp only [g]; exact .inr ⟨k', ks', vs, rfl, h⟩) (by simpa [T.noB] using b) (by simp [T.er, D.imm])⟩
theorem ixT1_sim {n : Nat} {k : T} {m : Nat} (nk : k.nf = true) (e : ixD1 n k.er = some m) : ixT1 n k = some m := by
  cases y : k.er <;> rw [y] at e <;> first | (cases e; done) | skip
  rw [nf_int nk y]; exact e
theorem ixD1_inv {n : Nat} {d : D} {m : Nat} (e : ixD1 n d = some m) : m < n := by
  cases d <;> first | (cases e; done) | skip
  exact (L2.ixN_seq e).2.1
theorem mem_set {α : Type} {xs : List α} {i : Nat} {x y : α} (h : y ∈ xs.set i x) : y ∈ xs ∨ y = x := List.mem_or_eq_of_mem_set h
theorem ers_set (us : List T) (n : Nat) (t : T) : T.ers (us.set n t) = (T.ers us).set n t.er := by rw [ers_map, ers_map, List.map_set]
theorem set_g {a b : A} {us : List T} {n : Nat} {t : T} (h : ∀ u ∈ us, g a u) (ht : g b t) : ∀ u ∈ us.set n t, g (jn a b) u := fun u hu => by
  rcases mem_set hu with hu | rfl
  · exact jn_l (h u hu)
  · exact jn_r ht
theorem zip_put {f : D → Bool} {t : T} : ∀ (ks : List D) (us : List T), ((ks.zip us).map fun p => if f p.1 then t else p.2).map T.er = ((ks.zip (us.map T.er)).map fun p => if f p.1 then t.er else p.2)
  | [], us => by simp
  | c :: ks, [] => by simp
  | c :: ks, u :: us => by
    simp only [List.zip_cons_cons, List.map_cons]
    rw [zip_put ks us]
    congr 1
    split <;> rfl
theorem dPut_sim {ks : List D} {us : List T} {k : D} {t : T} : (dPut ks us k t).1 = (dPut ks (T.ers us) k t.er).1 ∧ T.ers (dPut ks us k t).2 = (dPut ks (T.ers us) k t.er).2 ∧ ∀ u ∈ (dPut ks us k t).2, u ∈ us ∨ u = t := by
  unfold dPut
  split
  · refine ⟨rfl, ?_, fun u hu => ?_⟩
    · try dsimp only
      rw [ers_map, ers_map]
      exact zip_put (f := fun x => eqD x k) ks us
    · try dsimp only at hu
      obtain ⟨p, hp, rfl⟩ := List.mem_map.mp hu
      split
      · exact .inr rfl
      · exact .inl (List.of_mem_zip hp).2
  · refine ⟨rfl, by rw [ers_append]; rfl, fun u hu => ?_⟩
    rcases List.mem_append.mp hu with hu | hu
    · exact .inl hu
    · exact .inr (by simpa using hu)
theorem lst_sim {x : A} {t : T} {ds : List D} (h : g x t) (c : (noBA x || isIm (itA x)) = true) (e : t.er = .lst ds) : ∃ vs, lstT t = some vs ∧ T.ers vs = ds ∧ (∀ u ∈ vs, g (itA x) u) ∧ T.noBs vs = true := by
  obtain ⟨vs, q, it, gi⟩ := asL_sim h (ds := ds) (by rw [e]; rfl)
  have gen : t.noB = true → lstT t = asL t → ∃ vs, lstT t = some vs ∧ T.ers vs = ds ∧ (∀ u ∈ vs, g (itA x) u) ∧ T.noBs vs = true := fun b z => ⟨vs, z.trans q, it.er, gi, it.nb b⟩
  cases t with
  | v d => cases e; exact gen rfl rfl
  | w d => cases e; exact gen rfl rfl
  | l ts => cases e; exact ⟨vs, q, it.er, gi, noBs_of fun u hu => by
      rcases Bool.or_eq_true_iff.mp c with c | c
      · exact noBs_mem (it.nb (g_noB h c)) hu
      · exact imT_noB (isIm_ok (gi u hu) c)⟩
  | b d =>
    have hd : d = .lst ds := e
    subst hd
    have im : ∀ u ∈ vs, imT u = true := fun u hu => by
      rcases Bool.or_eq_true_iff.mp c with c | c
      · have := g_noB h c; simp [T.noB] at this
      · exact isIm_ok (gi u hu) c
    have hi : D.imms ds = true := by
      rw [imms_all, List.all_eq_true]
      intro d hd
      rw [← it.er, ers_map] at hd
      obtain ⟨u, hu, rfl⟩ := List.mem_map.mp hd
      exact imT_er (im u hu)
    refine ⟨ds.map .v, by simp only [lstT]; rw [if_pos hi], map_er_v ds, fun u hu => ?_, noBs_of fun u hu => by obtain ⟨z, _, rfl⟩ := List.mem_map.mp hu; rfl⟩
    have : ds.map T.v = vs := by
      cases q
      exact List.map_congr_left fun d hd => by unfold subB; rw [if_pos (imms_mem hi hd)]
    rw [this] at hu
    exact gi u hu
  | _ => cases e
theorem ers_take (us : List T) (n : Nat) : T.ers (us.take n) = (T.ers us).take n := by rw [ers_map, ers_map, List.map_take]
theorem ers_drop (us : List T) (n : Nat) : T.ers (us.drop n) = (T.ers us).drop n := by rw [ers_map, ers_map, List.map_drop]
theorem mut_sim {m : MO} {a u : A} {us : List T} {xs : List A} {ts : List T} {d : D} (h : ∀ w ∈ us, g a w) (b : T.noBs us = true) (gx : gs xs ts) (e : mutA m a xs = some u) (p : mutD m (some (.lst (T.ers us))) (T.ers ts) = some d) :
    ∃ a' vs, u = .ol a' ∧ mutT m (some (.l us)) ts = some (.l vs) ∧ d = .lst (T.ers vs) ∧ (∀ w ∈ vs, g a' w) ∧ T.noBs vs = true := by
  have ln : us.length = (T.ers us).length := ers_len rfl
  have bm : ∀ w ∈ us, w.noB = true := fun w hw => noBs_mem b hw
  cases m with
  | append =>
    cases ts with
    | nil => simp [T.ers, mutD] at p
    | cons t ts => cases ts with
      | cons t2 ts => simp [T.ers, mutD] at p
      | nil =>
        obtain ⟨x, rfl, hx⟩ := gs_one gx
        obtain ⟨c, e⟩ := gdA_inv e
        cases e
        simp only [T.ers, mutD] at p
        split at p
        · rename_i hl
          cases p
          refine ⟨_, us ++ [t], rfl, ?_, by rw [ers_append]; rfl, fun w hw => ?_, noBs_of fun w hw => ?_⟩
          · simp only [mutT]; rw [if_pos]; rw [g_noB hx c, ln]; simpa using hl
          · rcases List.mem_append.mp hw with hw | hw
            · exact jn_l (h w hw)
            · simp at hw; subst hw; exact jn_r hx
          · rcases List.mem_append.mp hw with hw | hw
            · exact bm w hw
            · simp at hw; subst hw; exact g_noB hx c
        · cases p
  | extend =>
    cases ts with
    | nil => simp [T.ers, mutD] at p
    | cons t ts => cases ts with
      | cons t2 ts => simp [T.ers, mutD] at p
      | nil =>
        obtain ⟨x, rfl, hx⟩ := gs_one gx
        obtain ⟨c, e⟩ := gdA_inv e
        cases e
        simp only [T.ers] at p
        cases q : t.er <;> rw [q] at p <;> first | (simp [mutD] at p; done) | skip
        rename_i ds
        simp only [mutD] at p
        split at p
        · rename_i hl
          cases p
          obtain ⟨vs, v1, v2, v3, v4⟩ := lst_sim hx c q
          refine ⟨_, us ++ vs, rfl, ?_, by rw [ers_append, v2], fun w hw => ?_, noBs_of fun w hw => ?_⟩
          · simp only [mutT, v1]; rw [if_pos]; rw [v4, ln, ers_len v2]; simpa using hl
          · rcases List.mem_append.mp hw with hw | hw
            · exact jn_l (h w hw)
            · exact jn_r (v3 w hw)
          · rcases List.mem_append.mp hw with hw | hw
            · exact bm w hw
            · exact noBs_mem v4 hw
        · cases p
  | reverse =>
    cases ts with
    | cons t ts => simp [T.ers, mutD] at p
    | nil =>
      cases xs with
      | cons x xs => simp [gs] at gx
      | nil =>
        cases e; cases p
        exact ⟨_, us.reverse, rfl, rfl, by rw [ers_map, ers_map, List.map_reverse], fun w hw => h w (List.mem_reverse.mp hw), noBs_of fun w hw => bm w (List.mem_reverse.mp hw)⟩
  | clear =>
    cases ts with
    | cons t ts => simp [T.ers, mutD] at p
    | nil =>
      cases xs with
      | cons x xs => simp [gs] at gx
      | nil =>
        cases e; cases p
        exact ⟨_, [], rfl, rfl, rfl, fun w hw => by simp at hw, rfl⟩
  | insert =>
    cases ts with
    | nil => simp [T.ers, mutD] at p
    | cons t ts => cases ts with
      | nil => cases q : t.er <;> simp [T.ers, mutD, q] at p
      | cons t2 ts => cases ts with
        | cons t3 ts => cases q : t.er <;> simp [T.ers, mutD, q] at p
        | nil =>
          obtain ⟨y, x, rfl, hy, hx⟩ := gs_two gx
          obtain ⟨c, e⟩ := gdA_inv e
          cases e
          simp only [T.ers] at p
          cases q : t.er <;> rw [q] at p <;> first | (simp [mutD] at p; done) | skip
          rename_i i
          simp only [mutD] at p
          split at p
          · rename_i hl
            cases p
            rw [nf_int (g_nf hy) q]
            refine ⟨_, us.take i.toNat ++ t2 :: us.drop i.toNat, rfl, ?_, ?_, fun w hw => ?_, noBs_of fun w hw => ?_⟩
            · simp only [mutT]
              rw [if_pos]
              simp only [Bool.and_eq_true] at hl ⊢
              exact ⟨⟨g_noB hx c, by rw [ln]; exact hl.1⟩, hl.2⟩
            · rw [ers_append, ers_take]
              simp only [T.ers]
              rw [ers_drop]
            · rcases List.mem_append.mp hw with hw | hw
              · exact jn_l (h w (List.mem_of_mem_take hw))
              · rcases List.mem_cons.mp hw with rfl | hw
                · exact jn_r hx
                · exact jn_l (h w (List.mem_of_mem_drop hw))
            · rcases List.mem_append.mp hw with hw | hw
              · exact bm w (List.mem_of_mem_take hw)
              · rcases List.mem_cons.mp hw with rfl | hw
                · exact g_noB hx c
                · exact bm w (List.mem_of_mem_drop hw)
          · cases p
theorem pop_sim {a : A} {us : List T} {ts : List T} {xs : List A} {d e : D} (h : ∀ w ∈ us, g a w) (b : T.noBs us = true) (gx : gs xs ts) (p : popD (some (.lst (T.ers us))) (T.ers ts) = some (d, e)) :
    ∃ t vs, popT (some (.l us)) ts = some (t, .l vs) ∧ t.er = d ∧ e = .lst (T.ers vs) ∧ g a t ∧ t.noB = true ∧ (∀ w ∈ vs, g a w) ∧ T.noBs vs = true := by
  have ln : us.length = (T.ers us).length := ers_len rfl
  have bm : ∀ w ∈ us, w.noB = true := fun w hw => noBs_mem b hw
  cases ts with
  | nil =>
    simp only [T.ers, popD] at p
    split at p
    · rename_i t0 ht
      cases p
      obtain ⟨w, hw, rfl⟩ := ers_at2 rfl ht
      have mem := List.mem_of_getElem? hw
      refine ⟨w, us.dropLast, ?_, rfl, ?_, h w mem, bm w mem, fun z hz => h z ((List.dropLast_sublist us).subset hz), noBs_of fun z hz => bm z ((List.dropLast_sublist us).subset hz)⟩
      · simp only [popT]; rw [ln, hw]
      · rw [ers_map, ers_map, List.map_dropLast]
    · cases p
  | cons t ts => cases ts with
    | cons t2 ts => cases q : t.er <;> simp [T.ers, popD, q] at p
    | nil =>
      obtain ⟨y, rfl, hy⟩ := gs_one gx
      simp only [T.ers] at p
      cases q : t.er <;> rw [q] at p <;> first | (simp [popD] at p; done) | skip
      rename_i i
      rw [nf_int (g_nf hy) q]
      simp only [popD] at p
      split at p
      · rename_i c1
        split at p
        · rename_i k hk
          split at p
          · rename_i t0 ht
            cases p
            obtain ⟨w, hw, rfl⟩ := ers_at2 rfl ht
            have mem := List.mem_of_getElem? hw
            refine ⟨w, us.eraseIdx k, ?_, rfl, ?_, h w mem, bm w mem, fun z hz => h z (List.mem_of_mem_eraseIdx hz), noBs_of fun z hz => bm z (List.mem_of_mem_eraseIdx hz)⟩
            · simp only [popT]; rw [if_pos c1, ln, hk]; dsimp only; rw [hw]
            · rw [ers_map, ers_map, List.eraseIdx_eq_take_drop_succ, List.eraseIdx_eq_take_drop_succ, List.map_append, List.map_take, List.map_drop]
          · cases p
        · cases p
      · cases p
end Tv

namespace Tv
open PySem PySem.Spec

section
variable {sm : Sum} {cl : Calls} {pcl : PCalls} {con : String → Option D}
theorem ks_set (H : CallOk sm cl pcl) {i : Nat} {e : E} : KS sm cl pcl con (.set i e) := by
  intro As O h Γ G hs
  simp only [aS] at h
  replace h := BO_inv h
  obtain ⟨r1, P, e1, h, rfl⟩ := h
  replace h := gdA_inv h
  obtain ⟨c, h⟩ := h
  simp only [evS, pS]
  refine (kE con H e _ _ e1 _ _ hs).lift fun t d Γ1 hx sm1 => ?_
  cases h
  obtain ⟨rfl, gx⟩ := hx
  have b := g_noB gx c
  by_cases hi : i < G.length
  · rw [if_pos hi]
    have hi' : i < Γ1.length := by rw [sm1.len]; exact hi
    rw [if_pos (by rw [b]; simpa using hi')]
    exact SimS.go (sm1.put hi' gx b)
  · rw [if_neg hi]; trivial
theorem ks_setF (H : CallOk sm cl pcl) {i : Nat} {e : E} : KS sm cl pcl con (.setF i e) := by
  intro As O h Γ G hs
  simp only [aS] at h
  replace h := BO_inv h
  obtain ⟨r1, P, e1, h, rfl⟩ := h
  replace h := gdA_inv h
  obtain ⟨c, h⟩ := h
  simp only [evS, pS]
  refine (kE con H e _ _ e1 _ _ hs).lift fun t d Γ1 hx sm1 => ?_
  cases h
  obtain ⟨rfl, gx⟩ := hx
  have b := g_noB gx c
  obtain ⟨u, u1, u2, u3, u4, _⟩ := fz_sim gx b
  by_cases hi : i < G.length
  · rw [if_pos hi]
    have hi' : i < Γ1.length := by rw [sm1.len]; exact hi
    rw [u1]
    dsimp only
    rw [if_pos hi', ← u2]
    exact SimS.go (sm1.put hi' u3 u4)
  · rw [if_neg hi]; trivial
theorem ks_setT (H : CallOk sm cl pcl) {is : List Nat} {e : E} : KS sm cl pcl con (.setT is e) := by
  intro As O h Γ G hs
  simp only [aS] at h
  replace h := BO_inv h
  obtain ⟨r1, P, e1, h, rfl⟩ := h
  replace h := gdA_inv h
  obtain ⟨c, h⟩ := h
  simp only [evS, pS]
  refine (kE con H e _ _ e1 _ _ hs).lift fun t d Γ1 hx sm1 => ?_
  replace h := map_eq' h
  obtain ⟨As', h, rfl⟩ := h
  obtain ⟨rfl, gx⟩ := hx
  have b := g_noB gx c
  cases q : seqD t.er with
  | none => trivial
  | some ds =>
    obtain ⟨ts, q1, q2, it, qd⟩ := seq_sim b q
    rw [q2]
    dsimp only
    rw [if_pos (it.nb b)]
    cases e2 : setD G is ds with
    | none => trivial
    | some G' =>
      have hn := setD_len e2
      have hl : ts.length = ds.length := ers_len it.er
      obtain ⟨Γ', k1, k2⟩ := slA_sim (ts := ts) h sm1 (fun i b u h1 h2 => by
        obtain ⟨_, rfl⟩ := part_at h1
        exact ixN_ok gx qd q1 it h2) (it.nb b) ((part_len _ _).trans (hn.trans hl.symm)) (by rw [it.er]; exact e2)
      rw [k1]
      exact SimS.go k2
theorem ks_sto (H : CallOk sm cl pcl) {p : Pl} {ix e : E} : KS sm cl pcl con (.sto p ix e) := by
  intro As O h Γ G hs
  simp only [aS] at h
  replace h := BO_inv h
  obtain ⟨r1, P1, e1, h, rfl⟩ := h
  replace h := BO_inv h
  obtain ⟨r2, P2, e2, h, rfl⟩ := h
  replace h := BO_inv h
  obtain ⟨r3, P3, e3, h, rfl⟩ := h
  simp only [evS, pS]
  refine (kE con H e _ _ e1 _ _ hs).lift (O := ⟨P3.nx, P3.bk, P3.ct, P3.rt, jnO r2.x (jnO r3.x P3.ex)⟩) fun t d Γ1 hx sm1 => (kP con H p _ _ e2 _ _ sm1).liftI (O := ⟨P3.nx, P3.bk, P3.ct, P3.rt, jnO r3.x P3.ex⟩) fun q q' Γ2 hq sm2 => ?_
  obtain ⟨rfl, gx⟩ := hx
  obtain ⟨rfl, m1, m2⟩ := hq
  split at h
  · rename_i a0 a q1 q2
    replace h := gdA_inv h
    obtain ⟨c, h⟩ := h
    by_cases l : isLG G q = true
    · rw [if_pos l]
      obtain ⟨ds, l⟩ := isLG_inv l
      obtain ⟨us, v1, v2, v3, v4, v5, v6⟩ := l_at sm2 m1 m2 q1 l
      rw [if_pos v5]
      refine (kE con H ix _ _ e3 _ _ sm2).lift fun k dk Γ3 hk sm3 => ?_
      cases h
      obtain ⟨rfl, gk⟩ := hk
      obtain ⟨ws, w1, w2, w3, w4, w5, w6⟩ := l_at sm3 m1 m2 q2 l
      rw [l, w1]
      simp only [stoD, stoT]
      cases z : ixD1 ds.length k.er with
      | none => trivial
      | some n =>
        have bx := g_noB gx c
        rw [ers_len w2, ixT1_sim (g_nf gk) z]
        simp only [Option.bind_some]
        rw [if_pos bx]
        have := w6 (jn a r1.a) (ws.set n t) (set_g w3 gx) (noBs_set w4 bx)
        rw [ers_set, w2] at this
        exact SimS.go this
    · rw [if_neg l]; trivial
  · cases h
theorem ks_dsto (H : CallOk sm cl pcl) {p : Pl} {ix e : E} : KS sm cl pcl con (.dsto p ix e) := by
  intro As O h Γ G hs
  simp only [aS] at h
  replace h := BO_inv h
  obtain ⟨r1, P1, e1, h, rfl⟩ := h
  replace h := BO_inv h
  obtain ⟨r2, P2, e2, h, rfl⟩ := h
  replace h := BO_inv h
  obtain ⟨r3, P3, e3, h, rfl⟩ := h
  simp only [evS, pS]
  refine (kE con H e _ _ e1 _ _ hs).lift (O := ⟨P3.nx, P3.bk, P3.ct, P3.rt, jnO r2.x (jnO r3.x P3.ex)⟩) fun t d Γ1 hx sm1 => (kP con H p _ _ e2 _ _ sm1).liftI (O := ⟨P3.nx, P3.bk, P3.ct, P3.rt, jnO r3.x P3.ex⟩) fun q q' Γ2 hq sm2 => ?_
  obtain ⟨rfl, gx⟩ := hx
  obtain ⟨rfl, m1, m2⟩ := hq
  split at h
  · rename_i a0 a q1 q2
    replace h := gdA_inv h
    obtain ⟨c, h⟩ := h
    by_cases l : isDG G q = true
    · rw [if_pos l]
      obtain ⟨kd, ks, ds, l⟩ := isDG_inv l
      obtain ⟨us, v1, v2, v3, v4, v5, v6⟩ := d_at sm2 m1 m2 q1 l
      rw [if_pos v5]
      refine (kE con H ix _ _ e3 _ _ sm2).lift fun k dk Γ3 hk sm3 => ?_
      cases h
      obtain ⟨rfl, gk⟩ := hk
      obtain ⟨ws, w1, w2, w3, w4, w5, w6⟩ := d_at sm3 m1 m2 q2 l
      rw [l, w1]
      simp only [dstoD, dstoT]
      have bx := g_noB gx c
      by_cases cc : (keyFits kd k.er && decide (ks.length < LIM)) = true
      · rw [if_pos cc, if_pos (by rw [bx, Bool.true_and]; exact cc)]
        obtain ⟨z1, z2, z3⟩ := dPut_sim (ks := ks) (us := ws) (k := k.er) (t := t)
        have := w6 (jn a r1.a) kd (dPut ks ws k.er t).1 (dPut ks ws k.er t).2 (fun u hu => by
          rcases z3 u hu with hu | rfl
          · exact jn_l (w3 u hu)
          · exact jn_r gx) (noBs_of fun u hu => by
          rcases z3 u hu with hu | rfl
          · exact noBs_mem w4 hu
          · exact bx)
        rw [z1, z2, w2] at this
        rw [z1, w2]
        exact SimS.go this
      · rw [if_neg cc]; trivial
    · rw [if_neg l]; trivial
  · cases h
theorem ks_stf (H : CallOk sm cl pcl) {c f : String} {p : Pl} {e : E} : KS sm cl pcl con (.stf c p f e) := by
  intro As O h Γ G hs
  simp only [aS] at h
  replace h := BO_inv h
  obtain ⟨r1, P1, e1, h, rfl⟩ := h
  replace h := BO_inv h
  obtain ⟨r2, P2, e2, h, rfl⟩ := h
  simp only [evS, pS]
  refine (kE con H e _ _ e1 _ _ hs).lift (O := ⟨P2.nx, P2.bk, P2.ct, P2.rt, jnO r2.x P2.ex⟩) fun t d Γ1 hx sm1 => (kP con H p _ _ e2 _ _ sm1).liftI fun q q' Γ2 hq sm2 => ?_
  obtain ⟨rfl, gx⟩ := hx
  obtain ⟨rfl, m1, m2⟩ := hq
  split at h
  · rename_i u q1
    replace h := gdA_inv h
    obtain ⟨cc, h⟩ := h
    have bx := g_noB gx cc
    cases h
    cases q2 : gtG G q with
    | none => trivial
    | some d =>
      cases d <;> first | trivial | skip
      rename_i c' ns vs
      simp only [stfD]
      split
      · rename_i k
        simp only [Bool.and_eq_true, beq_iff_eq] at k
        obtain ⟨rfl, k2⟩ := k
        unfold stfA at q1
        split at q1
        · rename_i c2 ns2 as z
          obtain ⟨w, w1, w2, w3, w4, w5⟩ := gt_sim sm2 z m1 m2 q2 (by simp [D.imm])
          simp only [g] at w3
          rcases w3 with w3 | ⟨us, rfl, w3⟩
          · have := imT_er w3; rw [w2] at this; simp [D.imm] at this
          · cases w2
            have bu : T.noBs us = true := by simpa [T.noB] using w4
            rw [w1]
            simp only [stfT]
            rw [if_pos (by simp only [beq_self_eq_true, bx, Bool.true_and]; exact k2)]
            simp only [beq_self_eq_true, if_true] at q1
            have key : ∀ (ns' : List String) (xs' : List A) (vs' : List T), u = .oo c' ns' xs' → gs xs' vs' → T.noBs vs' = true → (putFT ns us f t) = (ns', vs') → putFD ns (T.ers us) f t.er = (ns', T.ers vs') → SimS (go (stAs r2.e r2.a u)) (putΓ Γ2 q (some (.ob c' (putFT ns us f t).1 (putFT ns us f t).2))) (pputG G q (some (.obj c' (putFD ns (T.ers us) f t.er).1 (putFD ns (T.ers us) f t.er).2))) := fun ns' xs' vs' e1 e2 e3 e4 e5 => by
              rw [e4, e5, e1]
              have := w5 (.oo c' ns' xs') (.ob c' ns' vs') (by simp only [g]; exact .inr ⟨vs', rfl, e2⟩) (by simpa [T.noB] using e3) (by simp [T.er, D.imm])
              exact SimS.go this
            cases fi : fIx ns f with
            | none =>
              rw [fi] at q1
              cases q1
              refine key _ _ (us ++ [t]) rfl ?_ ?_ (by simp only [putFT, fi]) (by simp only [putFD, fi]; rw [ers_append]; rfl)
              · refine gs_of (by simp [gs_len w3]) fun i b z h1 h2 => ?_
                by_cases hi : i < us.length
                · rw [List.getElem?_append_left (by rw [gs_len w3]; exact hi)] at h1
                  rw [List.getElem?_append_left hi] at h2
                  obtain ⟨b', hb, hg⟩ := gs_at w3 h2
                  rw [h1] at hb; cases hb; exact hg
                · rw [List.getElem?_append_right (by rw [gs_len w3]; omega)] at h1
                  rw [List.getElem?_append_right (by omega)] at h2
                  rw [gs_len w3] at h1
                  have i0 : i - us.length = 0 := by
                    have := (List.getElem?_eq_some_iff.mp h2).1
                    simp at this; omega
                  rw [i0] at h1 h2
                  simp at h1 h2
                  subst h1; subst h2
                  exact gx
              · exact noBs_of fun w hw => by
                  rcases List.mem_append.mp hw with hw | hw
                  · exact noBs_mem bu hw
                  · simp at hw; subst hw; exact bx
            | some k =>
              rw [fi] at q1
              cases q1
              refine key _ _ (us.set k t) rfl ?_ (noBs_set bu bx) (by simp only [putFT, fi]) (by simp only [putFD, fi]; rw [ers_set])
              refine gs_of (by simp [gs_len w3]) fun i b z h1 h2 => ?_
              rcases set_at h2 with ⟨rfl, rfl⟩ | ⟨ne, h2⟩
              · rcases set_at h1 with ⟨_, rfl⟩ | ⟨ne, _⟩
                · exact gx
                · exact absurd rfl ne
              · rw [List.getElem?_set_ne ne] at h1
                obtain ⟨b', hb, hg⟩ := gs_at w3 h2
                rw [h1] at hb; cases hb; exact hg
        · cases q1
      · trivial
  · cases h
theorem aug_sim {o : BOp} {x : Int} {t : T} {z : Int} (n : t.nf = true) (e : augJ o x t.er = some z) : augI o x t = some z := by
  unfold augJ at e
  split at e
  · rename_i y q; rw [nf_int n q]; exact e
  · rename_i y q; rw [nf_int n q]; exact e
  · cases e
theorem ks_augV (H : CallOk sm cl pcl) {i : Nat} {o : BOp} {e : E} : KS sm cl pcl con (.augV i o e) := by
  intro As O h Γ G hs
  simp only [aS] at h
  split at h
  · rename_i a q
    replace h := BO_inv h
    obtain ⟨r1, P, e1, h, rfl⟩ := h
    obtain ⟨t, h1, h2, h3, h4⟩ := hs.at_ i a q
    simp only [evS, pS, h1, h4]
    cases y : t.er <;> first | trivial | skip
    rename_i x
    have := nf_int (g_nf h2) y
    subst this
    dsimp only
    refine (kE con H e _ _ e1 _ _ hs).lift fun t d Γ1 hx sm1 => ?_
    cases h
    obtain ⟨rfl, gx⟩ := hx
    cases z : augJ o x t.er with
    | none => trivial
    | some w =>
      rw [aug_sim (g_nf gx) z]
      have hi : i < Γ1.length := by rw [sm1.len]; exact (List.getElem?_eq_some_iff.mp h4).1
      exact SimS.go (sm1.put hi (t := .v (.int w)) (g_im rfl) rfl)
  · cases h
theorem gtG_nil (G : PEnv) (i : Nat) : gtG G (i, []) = slotD G i := by
  unfold gtG slotD
  dsimp only
  split
  · rename_i t e; cases t <;> rfl
  · rfl
theorem getΓ_nil' (Γ : Env) (i : Nat) : getΓ Γ (i, []) = slotT Γ i := by
  unfold getΓ slotT
  dsimp only
  split
  · rename_i t e; cases t <;> rfl
  · rfl
theorem setΓ_nl {Γ : Env} {i : Nat} {t u : T} (h : Γ[i]? = some (some t)) : setΓ Γ (i, []) u = Γ.set i (some u) := by
  unfold setΓ
  dsimp only
  rw [h]
  cases t <;> rfl
theorem stG_nil {G : PEnv} {i : Nat} {t u : D} (h : G[i]? = some (some t)) : stG G (i, []) u = G.set i (some u) := by
  unfold stG
  dsimp only
  rw [h]
  cases t <;> rfl
theorem stAs_nil {As : AEnv} {i : Nat} {a u : A} (h : As[i]? = some (some a)) : stAs As (i, []) u = As.set i (some u) := by
  unfold stAs
  dsimp only
  rw [h]
  cases a <;> rfl
theorem slotD_inv {G : PEnv} {i : Nat} {d : D} (h : slotD G i = some d) : G[i]? = some (some d) := by
  unfold slotD at h
  split at h
  · rename_i t e; cases h; exact e
  · cases h
theorem slotT_inv {G : Env} {i : Nat} {d : T} (h : slotT G i = some d) : G[i]? = some (some d) := by
  unfold slotT at h
  split at h
  · rename_i t e; cases h; exact e
  · cases h
theorem gtAs_inv {As : AEnv} {i : Nat} {a : A} (h : gtAs As (i, []) = some a) : As[i]? = some (some a) := by
  unfold gtAs at h
  dsimp only at h
  split at h
  · rename_i b e
    have : gtA b [] = some b := by cases b <;> rfl
    rw [this] at h; cases h; exact e
  · cases h
theorem ks_augS (H : CallOk sm cl pcl) {i : Nat} {o : BOp} {ix e : E} : KS sm cl pcl con (.augS i o ix e) := by
  intro As O h Γ G hs
  simp only [aS] at h
  split at h
  · rename_i a q
    replace h := BO_inv h
    obtain ⟨r1, P, e1, h, rfl⟩ := h
    simp only [evS, pS]
    by_cases l : isLG G (i, []) = true
    · rw [if_pos l]
      obtain ⟨ds, l⟩ := isLG_inv l
      obtain ⟨us, v1, v2, v3, v4, v5, v6⟩ := l_at (q := (i, [])) hs rfl (by simp [pm]) q l
      rw [if_pos v5]
      have sl : slotD G i = some (.lst ds) := by rw [← gtG_nil]; exact l
      split at h
      · rename_i a1 q1
        replace h := BO_inv h
        obtain ⟨r2, P2, e2, h, rfl⟩ := h
        refine (kE con H ix _ _ e1 _ _ hs).lift (O := ⟨P2.nx, P2.bk, P2.ct, P2.rt, jnO r2.x P2.ex⟩) fun k dk Γ1 hk sm1 => ?_
        obtain ⟨rfl, gk⟩ := hk
        obtain ⟨ws, w1, w2, w3, w4, w5, w6⟩ := l_at (q := (i, [])) sm1 rfl (by simp [pm]) q1 l
        rw [getΓ_nil'] at w1
        rw [sl, w1]
        cases z : getJ (some (.lst ds)) k.er with
        | none => trivial
        | some x =>
          have z2 : getI (some (.l ws)) k = some x := by
            unfold getJ at z
            dsimp only at z
            split at z
            · rename_i y hy
              cases z
              obtain ⟨n, n1, n2⟩ := bind_eq' hy
              obtain ⟨w, hw, he⟩ := ers_at2 w2 n2
              have nw : w.nf = true := g_nf (w3 w (List.mem_of_getElem? hw))
              simp only [getI]
              rw [ers_len w2, ixT1_sim (g_nf gk) n1]
              simp only [Option.bind_some, hw, nf_int nw he]
            · cases z
          rw [z2]
          dsimp only
          refine (kE con H e _ _ e2 _ _ sm1).lift fun t d Γ2 hx sm2 => ?_
          obtain ⟨rfl, gx⟩ := hx
          split at h
          · rename_i a2 q2
            cases h
            obtain ⟨zs, y1, y2, y3, y4, y5, y6⟩ := l_at (q := (i, [])) sm2 rfl (by simp [pm]) q2 l
            have y1' := y1
            rw [getΓ_nil'] at y1
            rw [y1]
            simp only [augD, augT]
            cases n1 : ixD1 ds.length k.er with
            | none => trivial
            | some n =>
              rw [ers_len y2, ixT1_sim (g_nf gk) n1]
              simp only [Option.bind_some]
              cases n2 : augJ o x t.er with
              | none => trivial
              | some w =>
                rw [aug_sim (g_nf gx) n2]
                have := y6 (jn a2 .im) (zs.set n (.v (.int w))) (set_g y3 (g_im rfl)) (noBs_set y4 rfl)
                rw [ers_set, y2, setΓ_nl (slotT_inv y1), stG_nil (slotD_inv sl), stAs_nil (gtAs_inv (olA_inv q2))] at this
                exact SimS.go this
          · cases h
      · cases h
    · rw [if_neg l]; trivial
  · cases h
theorem ks_mut (H : CallOk sm cl pcl) {m : MO} {p : Pl} {as : Es} : KS sm cl pcl con (.mut m p as) := by
  intro As O h Γ G hs
  simp only [aS] at h
  replace h := BO_inv h
  obtain ⟨r1, P1, e1, h, rfl⟩ := h
  replace h := BO_inv h
  obtain ⟨r2, P2, e2, h, rfl⟩ := h
  simp only [evS, pS]
  refine (kP con H p _ _ e1 _ _ hs).liftI (O := ⟨P2.nx, P2.bk, P2.ct, P2.rt, jnO r2.x P2.ex⟩) fun q q' Γ1 hq sm1 => ?_
  obtain ⟨rfl, m1, m2⟩ := hq
  split at h
  · rename_i a0 a q1 q2
    by_cases l : isLG G q = true
    · rw [if_pos l]
      obtain ⟨ds, l⟩ := isLG_inv l
      obtain ⟨us, v1, v2, v3, v4, v5, v6⟩ := l_at sm1 m1 m2 q1 l
      rw [if_pos v5]
      refine (kEs con H as _ _ e2 _ _ sm1).liftI fun ts dts Γ2 hx sm2 => ?_
      obtain ⟨rfl, gx⟩ := hx
      split at h
      · rename_i u mu
        cases h
        obtain ⟨ws, w1, w2, w3, w4, w5, w6⟩ := l_at sm2 m1 m2 q2 l
        rw [l, w1]
        cases z : mutD m (some (.lst ds)) (T.ers ts) with
        | none => trivial
        | some d =>
          obtain ⟨a', vs, rfl, y1, rfl, y2, y3⟩ := mut_sim w3 w4 gx mu (by rw [w2]; exact z)
          rw [y1]
          exact SimS.go (w6 a' vs y2 y3)
      · cases h
    · rw [if_neg l]; trivial
  · cases h
theorem Sm.putv {As : AEnv} {Γ : Env} {G : PEnv} (hs : Sm As Γ G) {i : Nat} {a : A} {t : T} {d : D} (hi : i < G.length) (e : t.er = d) (h : g a t) (b : t.noB = true) : Sm (As.set i (some a)) (Γ.set i (some t)) (G.set i (some d)) := by
  subst e; exact hs.put (by rw [hs.len]; exact hi) h b
theorem setΓ_len (Γ : Env) (q : Pth) (u : T) : (setΓ Γ q u).length = Γ.length := by
  unfold setΓ; split <;> simp
theorem stG_len (G : PEnv) (q : Pth) (u : D) : (stG G q u).length = G.length := by
  unfold stG; split <;> simp
theorem ks_pop (H : CallOk sm cl pcl) {i : Nat} {p : Pl} {as : Es} : KS sm cl pcl con (.pop i p as) := by
  intro As O h Γ G hs
  simp only [aS] at h
  replace h := BO_inv h
  obtain ⟨r1, P1, e1, h, rfl⟩ := h
  replace h := BO_inv h
  obtain ⟨r2, P2, e2, h, rfl⟩ := h
  simp only [evS, pS]
  refine (kP con H p _ _ e1 _ _ hs).liftI (O := ⟨P2.nx, P2.bk, P2.ct, P2.rt, jnO r2.x P2.ex⟩) fun q q' Γ1 hq sm1 => ?_
  obtain ⟨rfl, m1, m2⟩ := hq
  split at h
  · rename_i a0 a q1 q2
    by_cases l : isLG G q = true
    · rw [if_pos l]
      obtain ⟨ds, l⟩ := isLG_inv l
      obtain ⟨us, v1, v2, v3, v4, v5, v6⟩ := l_at sm1 m1 m2 q1 l
      rw [if_pos v5]
      refine (kEs con H as _ _ e2 _ _ sm1).liftI fun ts dts Γ2 hx sm2 => ?_
      obtain ⟨rfl, gx⟩ := hx
      cases h
      obtain ⟨ws, w1, w2, w3, w4, w5, w6⟩ := l_at sm2 m1 m2 q2 l
      rw [l, w1]
      cases z : popD (some (.lst ds)) (T.ers ts) with
      | none => trivial
      | some de =>
        obtain ⟨d, e⟩ := de
        obtain ⟨t, vs, y1, y2, rfl, y3, y4, y5, y6⟩ := pop_sim w3 w4 gx (by rw [w2]; exact z)
        rw [y1]
        dsimp only
        by_cases hi : i < G.length
        · rw [if_pos hi, if_pos (by rw [sm2.len]; exact hi)]
          exact SimS.go ((w6 a vs y5 y6).putv (by rw [stG_len]; exact hi) y2 y3 y4)
        · rw [if_neg hi]; trivial
    · rw [if_neg l]; trivial
  · cases h
theorem ks_ex (H : CallOk sm cl pcl) {e : E} : KS sm cl pcl con (.ex e) := by
  intro As O h Γ G hs
  simp only [aS] at h
  replace h := BO_inv h
  obtain ⟨r1, P, e1, h, rfl⟩ := h
  simp only [evS, pS]
  refine (kE con H e _ _ e1 _ _ hs).lift fun t d Γ1 hx sm1 => ?_
  cases h
  exact SimS.go sm1
theorem ks_ife (H : CallOk sm cl pcl) {c : E} {a b : Ss} (ha : KSs sm cl pcl con a) (hb : KSs sm cl pcl con b) : KS sm cl pcl con (.ife c a b) := by
  intro As O h Γ G hs
  simp only [aS] at h
  replace h := BO_inv h
  obtain ⟨r1, P, e1, h, rfl⟩ := h
  simp only [evS, pS]
  refine (kE con H c _ _ e1 _ _ hs).lift fun t d Γ1 hx sm1 => ?_
  obtain ⟨rfl, gx⟩ := hx
  split at h
  · rename_i y z q1 q2
    cases h
    cases w : t.er <;> first | trivial | skip
    rename_i v
    have := nf_bl (g_nf gx) w
    subst this
    cases v with
    | true => exact (ha _ _ q1 _ _ sm1).jl
    | false => exact (hb _ _ q2 _ _ sm1).jr
  · cases h
theorem ks_for (H : CallOk sm cl pcl) {tg : Tg} {it : I} {body : Ss} (hb : KSs sm cl pcl con body) : KS sm cl pcl con (.for tg it body) := by
  intro As O h Γ G hs
  simp only [aS] at h
  replace h := BO_inv h
  obtain ⟨r1, P, e1, h, rfl⟩ := h
  simp only [evS, pS]
  refine (kI con H it _ _ e1 _ _ hs).liftI fun ts ds Γ1 hx sm1 => ?_
  obtain ⟨rfl, gi⟩ := hx
  split at h
  · rename_i X Q q
    cases h
    obtain ⟨f1, f2, f3, f4⟩ := fixS_inv q
    refine for_sim (ia := r1.a) (fun u Γ2 G2 hu su => ?_) f2 f3 ts Γ1 G gi (sm1.le f4)
    dsimp only at f1
    split at f1
    · cases f1
    · rename_i X1 hB
      cases b1 : bindD tg u.er G2 with
      | none => trivial
      | some G3 =>
        obtain ⟨Γ3, b2, b3⟩ := bind_sim hB hu su b1
        rw [b2]
        exact hb _ _ f1 _ _ b3
  · cases h
theorem ks_whl (H : CallOk sm cl pcl) {n : Nat} {c : E} {body : Ss} (hb : KSs sm cl pcl con body) : KS sm cl pcl con (.whl n c body) := by
  intro As O h Γ G hs
  simp only [aS] at h
  split at h
  · rename_i X Q q
    cases h
    obtain ⟨f1, f2, f3, f4⟩ := fixS_inv q
    dsimp only at f1
    replace f1 := BO_inv f1
    obtain ⟨r1, P, e1, f1, e2⟩ := f1
    obtain ⟨O1, e3, e4⟩ := map_eq' f1
    subst e4
    subst e2
    simp only [evS, pS]
    exact whl_sim (X := X) (r := r1) (O := O1) (fun Γ2 G2 s2 => kE con H c _ _ e1 _ _ s2) (fun Γ2 G2 s2 => hb _ _ e3 _ _ s2) f2 f3 n Γ G (hs.le f4)
  · cases h
theorem ks_ret (H : CallOk sm cl pcl) {io : List Nat} {e : E} : KS sm cl pcl con (.ret io e) := by
  intro As O h Γ G hs
  simp only [aS] at h
  replace h := BO_inv h
  obtain ⟨r1, P, e1, h, rfl⟩ := h
  replace h := gdA_inv h
  obtain ⟨c, h⟩ := h
  simp only [evS, pS]
  refine (kE con H e _ _ e1 _ _ hs).lift fun t d Γ1 hx sm1 => ?_
  cases h
  obtain ⟨rfl, gx⟩ := hx
  have b := g_noB gx c
  rw [if_pos b]
  exact ⟨t, _, r1.a, _, rfl, rfl, rfl, gx, b, sm1.keepIo io⟩
theorem ks_retN {io : List Nat} : KS sm cl pcl con (.retN io) := by
  intro As O h Γ G hs
  cases h
  exact ⟨.v .non, _, .im, _, rfl, rfl, rfl, g_im rfl, rfl, hs.keepIo io⟩
end
section
variable {sm : Sum} {cl : Calls} {pcl : PCalls} (con : String → Option D) (H : CallOk sm cl pcl)
include H
mutual
theorem kS : ∀ s : S, KS sm cl pcl con s
  | .set _ _ => ks_set H
  | .setF _ _ => ks_setF H
  | .setT _ _ => ks_setT H
  | .sto _ _ _ => ks_sto H
  | .dsto _ _ _ => ks_dsto H
  | .stf _ _ _ _ => ks_stf H
  | .augV _ _ _ => ks_augV H
  | .augS _ _ _ _ => ks_augS H
  | .mut _ _ _ => ks_mut H
  | .pop _ _ _ => ks_pop H
  | .ex _ => ks_ex H
  | .ife _ a b => ks_ife H (kSs a) (kSs b)
  | .for _ _ b => ks_for H (kSs b)
  | .whl _ _ b => ks_whl H (kSs b)
  | .ret _ _ => ks_ret H
  | .retN _ => ks_retN
  | .pass => fun As O h Γ G hs => by cases h; exact SimS.go hs
  | .brk => fun As O h Γ G hs => by cases h; exact ⟨Γ, rfl, _, rfl, hs⟩
  | .cnt => fun As O h Γ G hs => by cases h; exact ⟨Γ, rfl, _, rfl, hs⟩
  | .dead => fun As O h Γ G hs => trivial
theorem kSs : ∀ s : Ss, KSs sm cl pcl con s
  | .nil => fun As O h Γ G hs => by cases h; exact SimS.go hs
  | .kill is ss => fun As O h Γ G hs => kSs ss _ _ h _ _ (hs.wipe is)
  | .cons s ss => fun As O h Γ G hs => by
    simp only [aSs] at h
    cases e1 : aS sm con s As with
    | none => rw [e1] at h; cases h
    | some O1 =>
      rw [e1] at h
      have h1 := kS s _ _ e1 _ _ hs
      have rest : ∀ Q : AO, O = (⟨none, O1.bk, O1.ct, O1.rt, O1.ex⟩ : AO).jn Q → (∀ Γ' G', SX O1.nx Γ' G' → SimS Q (evSs cl con ss Γ') (pSs pcl con ss G')) → SimS O (evSs cl con (.cons s ss) Γ) (pSs pcl con (.cons s ss) G) := fun Q hO hn => by
        simp only [evSs, pSs]
        cases q : pS pcl con s G with
        | bad => trivial
        | nx G' =>
          rw [q] at h1
          obtain ⟨Γ', k1, k2⟩ := h1
          rw [k1, hO]
          exact (hn Γ' G' k2).jr
        | rt d G' =>
          rw [q] at h1
          obtain ⟨t, Γ', a, X, k1, k2⟩ := h1
          rw [k1, hO]
          exact SimS.jl (O := ⟨none, O1.bk, O1.ct, O1.rt, O1.ex⟩) (p := .rt d G') ⟨t, Γ', a, X, rfl, k2⟩
        | bk G' =>
          rw [q] at h1
          obtain ⟨Γ', k1, k2⟩ := h1
          rw [k1, hO]
          exact SimS.jl (O := ⟨none, O1.bk, O1.ct, O1.rt, O1.ex⟩) (p := .bk G') ⟨Γ', rfl, k2⟩
        | ct G' =>
          rw [q] at h1
          obtain ⟨Γ', k1, k2⟩ := h1
          rw [k1, hO]
          exact SimS.jl (O := ⟨none, O1.bk, O1.ct, O1.rt, O1.ex⟩) (p := .ct G') ⟨Γ', rfl, k2⟩
        | ex x G' =>
          rw [q] at h1
          obtain ⟨Γ', k1, k2⟩ := h1
          rw [k1, hO]
          exact SimS.jl (O := ⟨none, O1.bk, O1.ct, O1.rt, O1.ex⟩) (p := .ex x G') ⟨Γ', rfl, k2⟩
      dsimp only at h
      cases e2 : O1.nx with
      | none =>
        rw [e2] at h
        cases h
        simp only [evSs, pSs]
        cases q : pS pcl con s G with
        | bad => trivial
        | nx G' =>
          rw [q] at h1
          obtain ⟨Γ', k1, X, k2, _⟩ := h1
          rw [e2] at k2; cases k2
        | rt d G' => rw [q] at h1; obtain ⟨t, Γ', a, X, k1, k2⟩ := h1; rw [k1]; exact ⟨t, Γ', a, X, rfl, k2⟩
        | bk G' => rw [q] at h1; obtain ⟨Γ', k1, k2⟩ := h1; rw [k1]; exact ⟨Γ', rfl, k2⟩
        | ct G' => rw [q] at h1; obtain ⟨Γ', k1, k2⟩ := h1; rw [k1]; exact ⟨Γ', rfl, k2⟩
        | ex x G' => rw [q] at h1; obtain ⟨Γ', k1, k2⟩ := h1; rw [k1]; exact ⟨Γ', rfl, k2⟩
      | some X =>
        rw [e2] at h
        obtain ⟨Q, q1, q2⟩ := map_eq' h
        exact rest Q q2.symm fun Γ' G' hX => by
          obtain ⟨Y, hY, hs'⟩ := hX
          rw [e2] at hY; cases hY
          exact kSs ss _ _ q1 _ _ hs'
end
end

/-! ### defs -/
theorem out_sim {As : AEnv} {Γ : Env} {G : PEnv} (hs : Sm As Γ G) : ∀ {io : List Nat} {os : List A}, outA As io = some os → ∃ us ds, outs Γ io = some us ∧ outD G io = some ds ∧ T.ers us = ds ∧ gs os us ∧ T.noBs us = true
  | [], os, h => by cases h; exact ⟨[], [], rfl, rfl, rfl, by simp [gs], rfl⟩
  | i :: io, os, h => by
    simp only [outA] at h
    split at h
    · rename_i a as q1 q2
      cases h
      obtain ⟨t, h1, h2, h3, h4⟩ := hs.at_ i a q1
      obtain ⟨us, ds, k1, k2, k3, k4, k5⟩ := out_sim hs q2
      exact ⟨t :: us, t.er :: ds, by simp only [outs, h1, k1], by simp only [outD, h4, k2], by simp only [T.ers, k3], gs_cons h2 k4, by simp only [T.noBs, h3, k5]; rfl⟩
    · cases h
theorem leOut_sim {As : AEnv} {Γ : Env} {G : PEnv} (hs : Sm As Γ G) {io : List Nat} {os : List A} (h : leOut (outA As io) os = true) : ∃ us ds, outs Γ io = some us ∧ outD G io = some ds ∧ T.ers us = ds ∧ gs os us ∧ T.noBs us = true := by
  unfold leOut at h
  split at h
  · rename_i as e
    obtain ⟨us, ds, k1, k2, k3, k4, k5⟩ := out_sim hs e
    exact ⟨us, ds, k1, k2, k3, les_ok os h k4, k5⟩
  · cases h
theorem env_sim {ps : List A} {ts : List T} {n : Nat} (h : gs ps ts) (b : T.noBs ts = true) (hn : ps.length ≤ n) : Sm (ps.map some ++ List.replicate (n - ps.length) none) (env0 ts n) (envD (T.ers ts) n) := by
  have l := gs_len h
  have l2 : (T.ers ts).length = ts.length := (ers_len rfl).symm
  refine ⟨by simp [env0, envD, l2], fun i a hi => ?_⟩
  by_cases c : i < ps.length
  · rw [List.getElem?_append_left (by simpa using c), List.getElem?_map] at hi
    obtain ⟨a', ha, ea⟩ := map_eq' hi
    cases ea
    have ci : i < ts.length := by omega
    have ht : ts[i]? = some ts[i] := List.getElem?_eq_getElem ci
    obtain ⟨b', hb, hg⟩ := gs_at h ht
    rw [ha] at hb; cases hb
    refine ⟨ts[i], ?_, hg, noBs_mem b (List.mem_of_getElem? ht), ?_⟩
    · unfold env0; rw [List.getElem?_append_left (by simpa using ci), List.getElem?_map, ht]; rfl
    · unfold envD; rw [List.getElem?_append_left (by simpa [l2] using ci), List.getElem?_map, ers_map, List.getElem?_map, ht]; rfl
  · rw [List.getElem?_append_right (by simpa using c)] at hi
    have := List.mem_of_getElem? hi
    rw [List.mem_replicate] at this
    cases this.2
theorem argOk_noB : ∀ {io : List Nat} {ts : List T} {i : Nat}, argOk io i ts = true → T.noBs ts = true
  | _, [], _, _ => rfl
  | io, t :: ts, i, h => by
    simp only [argOk, Bool.and_eq_true] at h
    simp only [T.noBs, Bool.and_eq_true]
    refine ⟨?_, argOk_noB h.2⟩
    cases t <;> first | rfl | (have := h.1; simp only [Bool.and_eq_true] at this; exact this.2)
/-- all defs of the table: as the run by values tells -/
theorem tab_sim {P : String → Option Fn} {con : String → Option D} {tab : List Tab} (ok : okTabs P con tab = true) : ∀ k, CallOk (smOf tab) (evF P con k) (pF P con k)
  | 0 => fun f ps r os e ts hg ha => trivial
  | k + 1 => by
    intro f ps r os e ts hg ha
    have ih := tab_sim ok k
    unfold smOf at e
    obtain ⟨en, e1, e2⟩ := map_eq' e
    have mem := List.mem_of_find?_eq_some e1
    have cond := List.find?_some e1
    simp only [Bool.and_eq_true, beq_iff_eq] at cond
    obtain ⟨rfl, c1, _⟩ := cond
    cases e2
    have hg' := les_ok en.ps c1 hg
    have okE : okTab P con tab en = true := by
      unfold okTabs at ok
      rw [List.all_eq_true] at ok
      exact ok en mem
    unfold okTab at okE
    simp only [pF, evF]
    cases hP : P en.f with
    | none => trivial
    | some fn =>
      rw [hP] at okE
      simp only [Bool.and_eq_true, decide_eq_true_eq] at okE
      obtain ⟨⟨⟨⟨⟨o1, o2⟩, o3⟩, o4⟩, o5⟩, o6⟩ := okE
      dsimp only
      by_cases hl : (T.ers ts).length = fn.np
      · have ltd : (T.ers ts).length = ts.length := (ers_len rfl).symm
        rw [if_pos hl, if_pos ⟨by omega, by rw [o3]; exact ha⟩]
        split at o6
        · cases o6
        · rename_i O hO
          simp only [Bool.and_eq_true] at o6
          obtain ⟨⟨n1, n2⟩, n3⟩ := o6
          have s0 := env_sim (n := fn.ns) hg' (argOk_noB ha) (by omega)
          rw [o1] at s0
          have run := kSs con ih fn.body _ _ hO _ _ s0
          cases q : pSs (pF P con k) con fn.body (envD (T.ers ts) fn.ns) with
          | bad => trivial
          | bk G => trivial
          | ct G => trivial
          | nx G =>
            rw [q] at run
            obtain ⟨Γ, r1, X, r2, r3⟩ := run
            rw [r2] at n1
            simp only [Bool.and_eq_true] at n1
            obtain ⟨us, ds, k1, k2, k3, k4, k5⟩ := leOut_sim r3 n1.2
            rw [r1]
            simp only [toPC, toCR, k1, k2]
            exact ⟨_, us, rfl, rfl, le_ok _ n1.1 (g_im rfl), rfl, k3, k4, k5⟩
          | rt d G =>
            rw [q] at run
            obtain ⟨t, Γ, a, X, r1, r2, r3, r4, r5, r6⟩ := run
            rw [r2] at n2
            simp only [Bool.and_eq_true] at n2
            obtain ⟨us, ds, k1, k2, k3, k4, k5⟩ := leOut_sim r6 n2.2
            rw [r1]
            simp only [toPC, toCR, k1, k2]
            rw [if_pos r5]
            exact ⟨t, us, rfl, r3, le_ok _ n2.1 r4, r5, k3, k4, k5⟩
          | ex x G =>
            rw [q] at run
            obtain ⟨Γ, r1, X, r2, r3⟩ := run
            rw [r2] at n3
            obtain ⟨us, ds, k1, k2, k3, k4, k5⟩ := leOut_sim r3 n3
            rw [r1]
            simp only [toPC, toCR, k1, k2]
            exact ⟨us, rfl, k3⟩
      · rw [if_neg hl]; trivial
/-- a law's end, by values -/
theorem law_pure {P : String → Option Fn} {con : String → Option D} {tab : List Tab} {k : Nat} {f : String} (ok : okTabs P con tab = true) (e : (smOf tab f [.rd .n .any]).isSome = true) (e2 : ∀ r, smOf tab f [.rd .n .any] = some r → r.2 = []) {ns : List Int}
    (h : pF P con k f [.scr ns] = .ret (.bl true) []) : evF P con k f [.v (.scr ns)] = .ret (.v (.bl true)) [] := by
  cases q : smOf tab f [.rd .n .any] with
  | none => rw [q] at e; cases e
  | some r =>
    obtain ⟨r, os⟩ := r
    have : os = [] := e2 _ q
    subst this
    have hg : gs [.rd .n .any] [.v (.scr ns)] := gs_cons (by simp only [g]; exact ⟨rfl, rfl, .v (.scr ns), rfl, rfl⟩) (by simp [gs])
    have c := tab_sim ok k f _ r [] q [.v (.scr ns)] hg rfl
    have e0 : T.ers [.v (.scr ns)] = [.scr ns] := rfl
    rw [e0, h] at c
    obtain ⟨t, us, c1, c2, c3, c4, c5, c6, c7⟩ := c
    have := ers_nil' c5
    subst this
    rw [c1, nf_bl (g_nf c3) c2]
end Tv

namespace Tv
open PySem PySem.Spec

/-! ### running by values, by simp: nothing is looked at ahead of its turn -/
section
variable (cl : PCalls) (con : String → Option D)
def getO : Option (Option D) → PR D
  | some (some d) => .ok d
  | _ => .bad
def ap1 (f : D → PR D) : PR D → PR D
  | .ok x => f x
  | .bad => .bad
  | .ex x => .ex x
def ap2 (f : D → D → Option D) : PR D → PR D → PR D
  | .ok x, .ok y => PR.op (f x y)
  | .ok _, .ex y => .ex y
  | .ok _, .bad => .bad
  | .bad, _ => .bad
  | .ex x, _ => .ex x
def ap2B (f : D → D → Option Bool) : PR D → PR D → PR D
  | .ok x, .ok y => PR.op ((f x y).map .bl)
  | .ok _, .ex y => .ex y
  | .ok _, .bad => .bad
  | .bad, _ => .bad
  | .ex x, _ => .ex x
def negD : D → PR D
  | .int i => .ok (.int (-i))
  | _ => .bad
def notD : D → PR D
  | .bl b => .ok (.bl (!b))
  | _ => .bad
def andK (r : PR D) (b : E) (G : PEnv) : PR D := match r with
  | .ok (.bl true) => pE cl con b G
  | .ok (.bl false) => .ok (.bl false)
  | .ex x => .ex x
  | _ => .bad
def orK (r : PR D) (b : E) (G : PEnv) : PR D := match r with
  | .ok (.bl true) => .ok (.bl true)
  | .ok (.bl false) => pE cl con b G
  | .ex x => .ex x
  | _ => .bad
def cmp2K (o p : COp) (r s : PR D) (c : E) (G : PEnv) : PR D := match r, s with
  | .ok x, .ok y => (match cmpD o x y with
    | some true => ap2B (cmpD p) (.ok y) (pE cl con c G)
    | some false => .ok (.bl false)
    | none => .bad)
  | .ok _, .ex y => .ex y
  | .ok _, .bad => .bad
  | .bad, _ => .bad
  | .ex x, _ => .ex x
def lrnD : D → PR D
  | .int j => if small62 j && decide (j ≤ LIM) then .ok (.lst ((List.range j.toNat).map fun (i : Nat) => .int (i : Int))) else .bad
  | _ => .bad
def callK (f : String) : PR (List D) → PR D
  | .ok ds => callP (cl f ds)
  | .bad => .bad
  | .ex x => .ex x
def cmeK (c m : String) (o : PR D) (as : PR (List D)) : PR D := match o with
  | .ok x => (match objD x with
    | some p => if p.1 == c && !(p.2.1.contains m) then (match as with
      | .ok ds => callP (cl (c ++ "." ++ m) (x :: ds))
      | .bad => .bad
      | .ex x => .ex x) else .bad
    | none => .bad)
  | .bad => .bad
  | .ex x => .ex x
def newK (c : String) : PR (List D) → PR D
  | .ok ds => newP (cl (c ++ ".__init__") (.obj c [] [] :: ds))
  | .bad => .bad
  | .ex x => .ex x
def bltK (f : BF) : PR (List D) → PR D
  | .ok ds => PR.op (bltD f ds)
  | .bad => .bad
  | .ex x => .ex x
def methK (m : MF) (r s : PR D) : PR D := match r with
  | .ok x => if mTyD m x then (match s with
    | .ok y => PR.op (methD m x y)
    | .bad => .bad
    | .ex x => .ex x) else .bad
  | .bad => .bad
  | .ex x => .ex x
def getK' (d k x : PR D) : PR D := match d with
  | .ok dt => (match dicD dt with
    | some p => (match k, x with
      | .ok kt, .ok xt => if keyFits p.1 kt then .ok ((dGet p.2.1 p.2.2 kt).getD xt) else .bad
      | .ok _, .ex y => .ex y
      | .ok _, .bad => .bad
      | .bad, _ => .bad
      | .ex x, _ => .ex x)
    | none => .bad)
  | .bad => .bad
  | .ex x => .ex x
def isiD (t : Ty) (x : D) : PR D := if x.tyOk then .ok (.bl (x.isi t)) else .bad
def slK (a : PR D) (l h : PR (Option Int)) : PR D := match a, l, h with
  | .ok x, .ok l, .ok h => PR.op (slD x l h)
  | .ok _, .ok _, .ex x => .ex x
  | .ok _, .ok _, .bad => .bad
  | .ok _, .ex x, _ => .ex x
  | .ok _, .bad, _ => .bad
  | .ex x, _, _ => .ex x
  | .bad, _, _ => .bad
def lstK : PR (List D) → PR D
  | .ok ds => if decide (ds.length ≤ LIM) then .ok (.lst ds) else .bad
  | .bad => .bad
  | .ex x => .ex x
def tupK : PR (List D) → PR D
  | .ok ds => if decide (ds.length ≤ LIM) then .ok (.tup ds) else .bad
  | .bad => .bad
  | .ex x => .ex x
/-- a comprehension's turn -/
def lcT (own : List Nat) (tg : Tg) (c : OE) (e : E) (G : PEnv) (d : D) : PR (Option D) := match bindD tg d (wipeD G own) with
  | none => .bad
  | some G3 => (pC cl con c G3).bind fun b => match b with
    | false => .ok none
    | true => (pE cl con e G3).bind fun t => .ok (some t)
def lcK (own : List Nat) (tg : Tg) (c : OE) (e : E) (G : PEnv) : PR (List D) → PR D
  | .ok ds => if ds.length ≤ LIM then (match lcP (lcT cl con own tg c e G) ds with
    | .ok ts => .ok (.lst ts)
    | .bad => .bad
    | .ex x => .ex x) else .bad
  | .bad => .bad
  | .ex x => .ex x
def consP : PR D → PR (List D) → PR (List D)
  | .ok x, .ok xs => .ok (x :: xs)
  | .ok _, .ex y => .ex y
  | .ok _, .bad => .bad
  | .bad, _ => .bad
  | .ex x, _ => .ex x
def itK : PR D → PR (List D)
  | .ok x => PR.op (itemsD x)
  | .bad => .bad
  | .ex x => .ex x
def rng1K : PR D → PR (List D)
  | .ok (.int j) => if small62 j && decide (j ≤ LIM) then .ok (rangeD 0 j.toNat 1) else .bad
  | .ex x => .ex x
  | _ => .bad
def rng2K : PR D → PR D → PR (List D)
  | .ok x, .ok y => (match x, y with
    | .int i, .int j => if small62 i && small62 j && decide (j - i ≤ LIM) then .ok (rangeD i (j - i).toNat 1) else .bad
    | _, _ => .bad)
  | .ok _, .ex y => .ex y
  | .ok _, .bad => .bad
  | .bad, _ => .bad
  | .ex x, _ => .ex x
def enumK : PR D → PR (List D)
  | .ok x => (match lD x with
    | some ds => .ok (ds.zipIdx.map fun p => .tup [.int p.2, p.1])
    | none => .bad)
  | .bad => .bad
  | .ex x => .ex x
def zipK : PR D → PR D → PR (List D)
  | .ok x, .ok y => (match lD x, lD y with
    | some ds, some es => .ok ((ds.zip es).map fun p => .tup [p.1, p.2])
    | _, _ => .bad)
  | .ok _, .ex y => .ex y
  | .ok _, .bad => .bad
  | .bad, _ => .bad
  | .ex x, _ => .ex x
def rvdK : PR D → PR (List D)
  | .ok x => (match lD x with
    | some ds => .ok ds.reverse
    | none => .bad)
  | .bad => .bad
  | .ex x => .ex x
def keysK : PR D → PR (List D)
  | .ok x => (match dicD x with
    | some (_, ks, _) => if D.imms ks then .ok ks else .bad
    | none => .bad)
  | .bad => .bad
  | .ex x => .ex x
def keysMK : PR D → PR (List D)
  | .ok x => (match dicD x with
    | some (false, ks, _) => if D.imms ks then .ok ks else .bad
    | _ => .bad)
  | .bad => .bad
  | .ex x => .ex x
def dvalsK : PR D → PR (List D)
  | .ok x => (match dicD x with
    | some (false, _, ds) => .ok ds
    | _ => .bad)
  | .bad => .bad
  | .ex x => .ex x
def ditemsK : PR D → PR (List D)
  | .ok x => (match dicD x with
    | some (false, ks, ds) => if D.imms ks then .ok ((ks.zip ds).map fun p => .tup [p.1, p.2]) else .bad
    | _ => .bad)
  | .bad => .bad
  | .ex x => .ex x
def boolK' : PR D → PR Bool
  | .ok (.bl b) => .ok b
  | .ex x => .ex x
  | _ => .bad
def intK' : PR D → PR (Option Int)
  | .ok (.int i) => .ok (some i)
  | .ex x => .ex x
  | _ => .bad
variable {cl con}
variable {G : PEnv} {a b c e : E} {as : Es} {i : Nat}
@[simp] theorem e_var' : pE cl con (.var i) G = getO (G[i]?) := by simp only [pE, getP0, getO] <;> rfl
@[simp] theorem e_frz' : pE cl con (.frz i) G = getO (G[i]?) := by simp only [pE, getP0, getO] <;> rfl
@[simp] theorem e_mov' : pE cl con (.mov i) G = getO (G[i]?) := by simp only [pE, getP0, getO] <;> rfl
@[simp] theorem e_int' {j : Int} : pE cl con (.int j) G = .ok (.int j) := rfl
@[simp] theorem e_str' {s : List Nat} : pE cl con (.str s) G = .ok (.str s) := rfl
@[simp] theorem e_non' : pE cl con .non G = .ok .non := rfl
@[simp] theorem e_bl' {k : Bool} : pE cl con (.bl k) G = .ok (.bl k) := rfl
@[simp] theorem e_glb' {x : String} : pE cl con (.glb x) G = PR.op (con x) := rfl
@[simp] theorem e_bin' {o : BOp} : pE cl con (.bin o a b) G = ap2 (binD o) (pE cl con a G) (pE cl con b G) := by
  simp only [pE]; cases pE cl con a G <;> first | rfl | (cases pE cl con b G <;> rfl)
@[simp] theorem e_neg' : pE cl con (.neg a) G = ap1 negD (pE cl con a G) := by
  simp only [pE]; cases pE cl con a G <;> rfl
@[simp] theorem e_not' : pE cl con (.not a) G = ap1 notD (pE cl con a G) := by
  simp only [pE]; cases pE cl con a G <;> rfl
@[simp] theorem e_cmp' {o : COp} : pE cl con (.cmp o a b) G = ap2B (cmpD o) (pE cl con a G) (pE cl con b G) := by
  simp only [pE]; cases pE cl con a G <;> first | rfl | (cases pE cl con b G <;> rfl)
@[simp] theorem e_isN' : pE cl con (.isN a) G = ap1 (fun x => .ok (.bl x.isNon)) (pE cl con a G) := by
  simp only [pE]; cases pE cl con a G <;> rfl
@[simp] theorem e_notN' : pE cl con (.notN a) G = ap1 (fun x => .ok (.bl (!x.isNon))) (pE cl con a G) := by
  simp only [pE]; cases pE cl con a G <;> rfl
@[simp] theorem e_cmp2' {o p : COp} : pE cl con (.cmp2 o p a b c) G = cmp2K cl con o p (pE cl con a G) (pE cl con b G) c G := by
  simp only [pE]
  cases pE cl con a G <;> first | rfl | skip
  cases pE cl con b G <;> first | rfl | skip
  rename_i x y
  show _ = (match cmpD o x y with
    | some true => ap2B (cmpD p) (.ok y) (pE cl con c G)
    | some false => .ok (.bl false)
    | none => .bad)
  show (match cmpD o x y with | some true => _ | some false => _ | none => _) = _
  cases cmpD o x y with
  | none => rfl
  | some k => cases k with
    | false => rfl
    | true => dsimp only; cases pE cl con c G <;> rfl
@[simp] theorem e_and' : pE cl con (.and a b) G = andK cl con (pE cl con a G) b G := by
  simp only [pE]; cases pE cl con a G with
  | ok d => cases d <;> first | rfl | (rename_i k; cases k <;> rfl)
  | _ => rfl
@[simp] theorem e_or' : pE cl con (.or a b) G = orK cl con (pE cl con a G) b G := by
  simp only [pE]; cases pE cl con a G with
  | ok d => cases d <;> first | rfl | (rename_i k; cases k <;> rfl)
  | _ => rfl
@[simp] theorem e_lrn' : pE cl con (.lrn a) G = ap1 lrnD (pE cl con a G) := by
  simp only [pE]; cases pE cl con a G <;> rfl
@[simp] theorem e_call' {f : String} : pE cl con (.call f as) G = callK cl f (pEs cl con as G) := by
  simp only [pE]; cases pEs cl con as G <;> rfl
@[simp] theorem e_cme' {f m : String} : pE cl con (.cme f m a as) G = cmeK cl f m (pE cl con a G) (pEs cl con as G) := by
  simp only [pE]
  cases pE cl con a G <;> first | rfl | skip
  rename_i x
  show (match objD x with | some (c', ns, _) => _ | none => _) = (match objD x with | some p => _ | none => _)
  cases objD x with
  | none => rfl
  | some p =>
    dsimp only
    split
    · cases pEs cl con as G <;> rfl
    · rfl
@[simp] theorem e_new' {f : String} : pE cl con (.new f as) G = newK cl f (pEs cl con as G) := by
  simp only [pE]; cases pEs cl con as G <;> rfl
@[simp] theorem e_blt' {f : BF} : pE cl con (.blt f as) G = bltK f (pEs cl con as G) := by
  simp only [pE]; cases pEs cl con as G <;> rfl
@[simp] theorem e_meth' {m : MF} : pE cl con (.meth m a b) G = methK m (pE cl con a G) (pE cl con b G) := by
  simp only [pE]; cases pE cl con a G <;> first | rfl | skip
  rename_i x
  show (if _ then _ else _) = (if _ then _ else _)
  split
  · cases pE cl con b G <;> rfl
  · rfl
@[simp] theorem e_get' {x : OE} : pE cl con (.get a b x) G = getK' (pE cl con a G) (pE cl con b G) (pX cl con x G) := by
  simp only [pE]
  cases pE cl con a G <;> first | rfl | skip
  rename_i y
  show (match dicD y with | some (c', ns, _) => _ | none => _) = (match dicD y with | some p => _ | none => _)
  cases dicD y with
  | none => rfl
  | some p =>
    dsimp only
    cases pE cl con b G <;> first | rfl | skip
    cases pX cl con x G <;> rfl
@[simp] theorem e_isi' {t : Ty} : pE cl con (.isi a t) G = ap1 (isiD t) (pE cl con a G) := by
  simp only [pE]; cases pE cl con a G <;> rfl
@[simp] theorem e_ix' : pE cl con (.ix a b) G = ap2 ixD (pE cl con a G) (pE cl con b G) := by
  simp only [pE]; cases pE cl con a G <;> first | rfl | (cases pE cl con b G <;> rfl)
@[simp] theorem e_dix' : pE cl con (.dix a b) G = ap2 dixD (pE cl con a G) (pE cl con b G) := by
  simp only [pE]; cases pE cl con a G <;> first | rfl | (cases pE cl con b G <;> rfl)
@[simp] theorem e_din' {n : Bool} : pE cl con (.din n a b) G = ap2B (fun y x => (dinD x y).map fun c => if n then !c else c) (pE cl con a G) (pE cl con b G) := by
  simp only [pE]; cases pE cl con a G <;> first | rfl | skip
  cases pE cl con b G <;> first | rfl | skip
  rename_i y x
  show PR.op ((dinD x y).map _) = PR.op (((dinD x y).map _).map D.bl)
  rw [Option.map_map]; rfl
@[simp] theorem e_fld' {f : String} : pE cl con (.fld a f) G = ap1 (fun x => PR.op (fldD x f)) (pE cl con a G) := by
  simp only [pE]; cases pE cl con a G <;> rfl
@[simp] theorem e_sl' {lo hi : OE} : pE cl con (.sl a lo hi) G = slK (pE cl con a G) (pO cl con lo G) (pO cl con hi G) := by
  simp only [pE]
  cases pE cl con a G <;> first | rfl | skip
  cases pO cl con lo G <;> first | rfl | skip
  cases pO cl con hi G <;> rfl
@[simp] theorem e_rev' : pE cl con (.rev a) G = ap1 (fun x => PR.op (revD x)) (pE cl con a G) := by
  simp only [pE]; cases pE cl con a G <;> rfl
@[simp] theorem e_lst' : pE cl con (.lst as) G = lstK (pEs cl con as G) := by
  simp only [pE]; cases pEs cl con as G <;> rfl
@[simp] theorem e_tup' : pE cl con (.tup as) G = tupK (pEs cl con as G) := by
  simp only [pE]; cases pEs cl con as G <;> rfl
@[simp] theorem e_dic0' {t : Bool} : pE cl con (.dic0 t) G = .ok (.dct t [] []) := rfl
@[simp] theorem e_lc' {own : List Nat} {tg : Tg} {it : I} {m : OE} : pE cl con (.lc own tg it m e) G = lcK cl con own tg m e G (pI cl con it G) := by
  simp only [pE]
  cases pI cl con it G <;> first | rfl | skip
  rename_i ds
  show (if _ then _ else _) = (if _ then _ else _)
  split
  · show (lcP (lcT cl con own tg m e G) ds).bind _ = _
    cases lcP (lcT cl con own tg m e G) ds <;> rfl
  · rfl
@[simp] theorem x_no' : pX cl con .no G = .ok .non := rfl
@[simp] theorem x_so' : pX cl con (.so e) G = pE cl con e G := rfl
@[simp] theorem c_no' : pC cl con .no G = .ok true := rfl
@[simp] theorem c_so' : pC cl con (.so e) G = boolK' (pE cl con e G) := by
  simp only [pC]; cases pE cl con e G with
  | ok d => cases d <;> rfl
  | _ => rfl
@[simp] theorem o_no' : pO cl con .no G = .ok none := rfl
@[simp] theorem o_so' : pO cl con (.so e) G = intK' (pE cl con e G) := by
  simp only [pO]; cases pE cl con e G with
  | ok d => cases d <;> rfl
  | _ => rfl
@[simp] theorem es_nil' : pEs cl con .nil G = .ok [] := rfl
@[simp] theorem es_cons' : pEs cl con (.cons e as) G = consP (pE cl con e G) (pEs cl con as G) := by
  simp only [pEs]; cases pE cl con e G <;> first | rfl | (cases pEs cl con as G <;> rfl)
@[simp] theorem i_seq' : pI cl con (.seq e) G = itK (pE cl con e G) := by
  simp only [pI]; cases pE cl con e G <;> rfl
@[simp] theorem i_rng1' : pI cl con (.rng1 a) G = rng1K (pE cl con a G) := by
  simp only [pI]; cases pE cl con a G with
  | ok d => cases d <;> rfl
  | _ => rfl
@[simp] theorem i_rng2' : pI cl con (.rng2 a b) G = rng2K (pE cl con a G) (pE cl con b G) := by
  simp only [pI]; cases pE cl con a G <;> first | rfl | (cases pE cl con b G <;> rfl)
@[simp] theorem i_enum' : pI cl con (.enum a) G = enumK (pE cl con a G) := by
  simp only [pI]; cases pE cl con a G <;> rfl
@[simp] theorem i_zip' : pI cl con (.zip a b) G = zipK (pE cl con a G) (pE cl con b G) := by
  simp only [pI]; cases pE cl con a G <;> first | rfl | (cases pE cl con b G <;> rfl)
@[simp] theorem i_rvd' : pI cl con (.rvd a) G = rvdK (pE cl con a G) := by
  simp only [pI]; cases pE cl con a G <;> rfl
@[simp] theorem i_keys' : pI cl con (.keys a) G = keysK (pE cl con a G) := by
  simp only [pI]; cases pE cl con a G <;> rfl
@[simp] theorem i_keysM' : pI cl con (.keysM a) G = keysMK (pE cl con a G) := by
  simp only [pI]; cases pE cl con a G <;> rfl
@[simp] theorem i_dvals' : pI cl con (.dvals a) G = dvalsK (pE cl con a G) := by
  simp only [pI]; cases pE cl con a G <;> rfl
@[simp] theorem i_ditems' : pI cl con (.ditems a) G = ditemsK (pE cl con a G) := by
  simp only [pI]; cases pE cl con a G <;> rfl
end
/-! values -/
section
variable {cl : PCalls} {con : String → Option D} {G : PEnv} {b c e : E} {x y d : D}
@[simp] theorem getO_s : getO (some (some d)) = .ok d := rfl
@[simp] theorem op_s {α : Type} (a : α) : PR.op (some a) = .ok a := rfl
@[simp] theorem op_n {α : Type} : PR.op (none : Option α) = .bad := rfl
@[simp] theorem ap1_ok (f : D → PR D) : ap1 f (.ok x) = f x := rfl
@[simp] theorem ap1_ex (f : D → PR D) (x : Exn) : ap1 f (.ex x) = .ex x := rfl
@[simp] theorem ap2_ok (f : D → D → Option D) : ap2 f (.ok x) (.ok y) = PR.op (f x y) := rfl
@[simp] theorem ap2_ex1 (f : D → D → Option D) (x : Exn) (r : PR D) : ap2 f (.ex x) r = .ex x := rfl
@[simp] theorem ap2B_ok (f : D → D → Option Bool) : ap2B f (.ok x) (.ok y) = PR.op ((f x y).map .bl) := rfl
@[simp] theorem ap2B_ex1 (f : D → D → Option Bool) (x : Exn) (r : PR D) : ap2B f (.ex x) r = .ex x := rfl
@[simp] theorem negD_i (i : Int) : negD (.int i) = .ok (.int (-i)) := rfl
@[simp] theorem notD_b (i : Bool) : notD (.bl i) = .ok (.bl (!i)) := rfl
@[simp] theorem andK_t : andK cl con (.ok (.bl true)) b G = pE cl con b G := rfl
@[simp] theorem andK_f : andK cl con (.ok (.bl false)) b G = .ok (.bl false) := rfl
@[simp] theorem andK_ex (x : Exn) : andK cl con (.ex x) b G = .ex x := rfl
@[simp] theorem orK_t : orK cl con (.ok (.bl true)) b G = .ok (.bl true) := rfl
@[simp] theorem orK_f : orK cl con (.ok (.bl false)) b G = pE cl con b G := rfl
@[simp] theorem orK_ex (x : Exn) : orK cl con (.ex x) b G = .ex x := rfl
theorem cmp2_t {o p : COp} (h : cmpD o x y = some true) : cmp2K cl con o p (.ok x) (.ok y) c G = ap2B (cmpD p) (.ok y) (pE cl con c G) := by simp only [cmp2K, h]
theorem cmp2_f {o p : COp} (h : cmpD o x y = some false) : cmp2K cl con o p (.ok x) (.ok y) c G = .ok (.bl false) := by simp only [cmp2K, h]
/-- two comparisons of numbers -/
def cmpI : COp → Int → Int → Bool
  | .lt, i, j => decide (i < j)
  | .le, i, j => decide (i ≤ j)
  | .gt, i, j => decide (j < i)
  | .ge, i, j => decide (j ≤ i)
  | .eq, i, j => decide (i = j)
  | .ne, i, j => !decide (i = j)
  | _, _, _ => false
theorem eqD_ii (i j : Int) : eqD (.int i) (.int j) = decide (i = j) := by
  simp [eqD, D.py, PyData.eqv]; rfl
@[simp] theorem cmp2_le {p : COp} (i j : Int) : cmp2K cl con .le p (.ok (.int i)) (.ok (.int j)) c G = if i ≤ j then ap2B (cmpD p) (.ok (.int j)) (pE cl con c G) else .ok (.bl false) := by
  by_cases h : i ≤ j <;> simp [cmp2K, cmpD, h]
@[simp] theorem cmp2_lt {p : COp} (i j : Int) : cmp2K cl con .lt p (.ok (.int i)) (.ok (.int j)) c G = if i < j then ap2B (cmpD p) (.ok (.int j)) (pE cl con c G) else .ok (.bl false) := by
  by_cases h : i < j <;> simp [cmp2K, cmpD, h]
theorem lrnD_i (j : Int) : lrnD (.int j) = if small62 j && decide (j ≤ LIM) then .ok (.lst ((List.range j.toNat).map fun (i : Nat) => .int (i : Int))) else .bad := rfl
@[simp] theorem callK_ok (f : String) (ds : List D) : callK cl f (.ok ds) = callP (cl f ds) := rfl
@[simp] theorem callK_ex (f : String) (x : Exn) : callK cl f (.ex x) = .ex x := rfl
@[simp] theorem callP_ret : callP (.ret d []) = .ok d := rfl
@[simp] theorem callP_ex (x : Exn) : callP (.ex x []) = .ex x := rfl
@[simp] theorem cmeK_ok (f m : String) (c' : String) (ns : List String) (vs as : List D) : cmeK cl f m (.ok (.obj c' ns vs)) (.ok as) = if c' == f && !(ns.contains m) then callP (cl (f ++ "." ++ m) (.obj c' ns vs :: as)) else .bad := rfl
@[simp] theorem newK_ok (f : String) (ds : List D) : newK cl f (.ok ds) = newP (cl (f ++ ".__init__") (.obj f [] [] :: ds)) := rfl
@[simp] theorem newP_ret : newP (.ret .non [d]) = .ok d := rfl
@[simp] theorem newP_ex (x : Exn) (ds : List D) : newP (.ex x ds) = .ex x := rfl
@[simp] theorem bltK_ok (f : BF) (ds : List D) : bltK f (.ok ds) = PR.op (bltD f ds) := rfl
@[simp] theorem bltK_ex (f : BF) (x : Exn) : bltK f (.ex x) = .ex x := rfl
@[simp] theorem methK_ok (m : MF) : methK m (.ok x) (.ok y) = if mTyD m x then PR.op (methD m x y) else .bad := rfl
@[simp] theorem isiD_eq (t : Ty) : isiD t x = if x.tyOk then .ok (.bl (x.isi t)) else .bad := rfl
@[simp] theorem slK_ok (l h : Option Int) : slK (.ok x) (.ok l) (.ok h) = PR.op (slD x l h) := rfl
@[simp] theorem lstK_ok (ds : List D) : lstK (.ok ds) = if decide (ds.length ≤ LIM) then .ok (.lst ds) else .bad := rfl
@[simp] theorem tupK_ok (ds : List D) : tupK (.ok ds) = if decide (ds.length ≤ LIM) then .ok (.tup ds) else .bad := rfl
@[simp] theorem lstK_ex (x : Exn) : lstK (.ex x) = .ex x := rfl
@[simp] theorem tupK_ex (x : Exn) : tupK (.ex x) = .ex x := rfl
def lsR : PR (List D) → PR D
  | .ok ts => .ok (.lst ts)
  | .bad => .bad
  | .ex x => .ex x
@[simp] theorem lsR_ok (ts : List D) : lsR (.ok ts) = .ok (.lst ts) := rfl
theorem lcK_ok (own : List Nat) (tg : Tg) (m : OE) (ds : List D) : lcK cl con own tg m e G (.ok ds) = if ds.length ≤ LIM then lsR (lcP (lcT cl con own tg m e G) ds) else .bad := by
  simp only [lcK]; split
  · cases lcP (lcT cl con own tg m e G) ds <;> rfl
  · rfl
@[simp] theorem lcK_l (own : List Nat) (tg : Tg) (m : OE) (ds : List D) (h : ds.length ≤ 16000000) : lcK cl con own tg m e G (.ok ds) = lsR (lcP (lcT cl con own tg m e G) ds) := by
  rw [lcK_ok, if_pos (by show _ ≤ 16777216; omega)]
@[simp] theorem consP_ok (ds : List D) : consP (.ok x) (.ok ds) = .ok (x :: ds) := rfl
@[simp] theorem consP_ex1 (x : Exn) (r : PR (List D)) : consP (.ex x) r = .ex x := rfl
@[simp] theorem consP_ex2 (y : Exn) : consP (.ok x) (.ex y) = .ex y := rfl
@[simp] theorem itK_ok : itK (.ok x) = PR.op (itemsD x) := rfl
theorem rng1K_i (j : Int) : rng1K (.ok (.int j)) = if small62 j && decide (j ≤ LIM) then .ok (rangeD 0 j.toNat 1) else .bad := rfl
theorem rng2K_i (i j : Int) : rng2K (.ok (.int i)) (.ok (.int j)) = if small62 i && small62 j && decide (j - i ≤ LIM) then .ok (rangeD i (j - i).toNat 1) else .bad := rfl
@[simp] theorem enumK_l (ds : List D) : enumK (.ok (.lst ds)) = .ok (ds.zipIdx.map fun p => .tup [.int p.2, p.1]) := rfl
@[simp] theorem enumK_s (ns : List Int) : enumK (.ok (.scr ns)) = .ok ((ns.map D.int).zipIdx.map fun p => .tup [.int p.2, p.1]) := rfl
@[simp] theorem zipK_l (ds es : List D) : zipK (.ok (.lst ds)) (.ok (.lst es)) = .ok ((ds.zip es).map fun p => .tup [p.1, p.2]) := rfl
@[simp] theorem rvdK_l (ds : List D) : rvdK (.ok (.lst ds)) = .ok ds.reverse := rfl
@[simp] theorem keysK_d (t : Bool) (ks ds : List D) (h : D.imms ks = true) : keysK (.ok (.dct t ks ds)) = .ok ks := by simp [keysK, dicD, h]
@[simp] theorem keysMK_d (ks ds : List D) (h : D.imms ks = true) : keysMK (.ok (.dct false ks ds)) = .ok ks := by simp [keysMK, dicD, h]
@[simp] theorem dvalsK_d (ks ds : List D) : dvalsK (.ok (.dct false ks ds)) = .ok ds := rfl
@[simp] theorem ditemsK_d (ks ds : List D) (h : D.imms ks = true) : ditemsK (.ok (.dct false ks ds)) = .ok ((ks.zip ds).map fun p => .tup [p.1, p.2]) := by simp [ditemsK, dicD, h]
@[simp] theorem boolK_b' (k : Bool) : boolK' (.ok (.bl k)) = .ok k := rfl
@[simp] theorem intK_i' (k : Int) : intK' (.ok (.int k)) = .ok (some k) := rfl
@[simp] theorem LIM_eq : LIM = 16777216 := (rfl)
/-! operators -/
@[simp] theorem add_ii (i j : Int) : binD .add (.int i) (.int j) = some (.int (i + j)) := rfl
@[simp] theorem add_ss (s t : List Nat) : binD .add (.str s) (.str t) = if s.length + t.length ≤ LIM then some (.str (s ++ t)) else none := rfl
@[simp] theorem add_ll (s t : List D) : binD .add (.lst s) (.lst t) = if s.length + t.length ≤ LIM then some (.lst (s ++ t)) else none := rfl
@[simp] theorem sub_ii (i j : Int) : binD .sub (.int i) (.int j) = some (.int (i - j)) := rfl
theorem mul_ii (i j : Int) : binD .mul (.int i) (.int j) = if i.natAbs.log2 + j.natAbs.log2 < 1000000 then some (.int (i * j)) else none := rfl
theorem mul_li (ds : List D) (k : Int) : binD .mul (.lst ds) (.int k) = if -(2 ^ 63) ≤ k ∧ k < 2 ^ 63 ∧ ds.length * k.toNat ≤ LIM then some (.lst (List.replicate k.toNat ds).flatten) else none := rfl
theorem mod_ii (i j : Int) : binD .mod (.int i) (.int j) = if j ≠ 0 then some (.int (i.fmod j)) else none := rfl
theorem fdiv_ii (i j : Int) : binD .fdiv (.int i) (.int j) = if 0 < j ∧ j.natAbs.log2 < 9000 then some (.int (i / j)) else none := rfl
theorem pow_ii (i j : Int) : binD .pow (.int i) (.int j) = if 0 ≤ j ∧ j ≤ 1000000 ∧ i.natAbs < 2 ^ 64 then some (.int (i ^ j.toNat)) else none := rfl
@[simp] theorem lt_ii (i j : Int) : cmpD .lt (.int i) (.int j) = some (decide (i < j)) := rfl
@[simp] theorem le_ii (i j : Int) : cmpD .le (.int i) (.int j) = some (decide (i ≤ j)) := rfl
@[simp] theorem gt_ii (i j : Int) : cmpD .gt (.int i) (.int j) = some (decide (j < i)) := rfl
@[simp] theorem ge_ii (i j : Int) : cmpD .ge (.int i) (.int j) = some (decide (j ≤ i)) := rfl
@[simp] theorem eq_xy : cmpD .eq x y = eqX x y := rfl
@[simp] theorem ne_xy : cmpD .ne x y = (eqX x y).map fun b => !b := rfl
@[simp] theorem in_xy : cmpD .isIn x y = inD x y := rfl
@[simp] theorem nin_xy : cmpD .notIn x y = (inD x y).map fun b => !b := rfl
@[simp] theorem eqX_ii (i j : Int) : eqX (.int i) (.int j) = some (decide (i = j)) := by
  unfold eqX; rw [eqD_ii]; rfl
@[simp] theorem eqX_bb (i j : Bool) : eqX (.bl i) (.bl j) = some (i == j) := by
  unfold eqX; cases i <;> cases j <;> rfl
@[simp] theorem len_d : bltD .len [x] = (sizeD x).map fun (n : Nat) => D.int (n : Int) := rfl
@[simp] theorem size_str' (s : List Nat) : sizeD (.str s) = some s.length := rfl
@[simp] theorem size_lst' (s : List D) : sizeD (.lst s) = some s.length := rfl
@[simp] theorem size_tup' (s : List D) : sizeD (.tup s) = some s.length := rfl
@[simp] theorem size_scr' (s : List Int) : sizeD (.scr s) = some s.length := by simp [sizeD, qD]
@[simp] theorem max_2 (i j : Int) : bltD .max [.int i, .int j] = some (.int (if j > i then j else i)) := rfl
@[simp] theorem min_2 (i j : Int) : bltD .min [.int i, .int j] = some (.int (if j < i then j else i)) := rfl
@[simp] theorem ints_map {α : Type} (f : α → Int) (xs : List α) : intsD (xs.map fun a => D.int (f a)) = some (xs.map f) := by
  induction xs with
  | nil => rfl
  | cons x xs ih => simp only [List.map_cons, intsD, ih]; rfl
@[simp] theorem ints_map0 (xs : List Int) : intsD (xs.map D.int) = some xs := by
  have := ints_map (fun i : Int => i) xs
  simpa using this
@[simp] theorem sum_ints (xs : List Int) : bltD .sum [.lst (xs.map D.int)] = some (.int xs.sum) := by
  simp only [bltD, lD, Option.bind_some, ints_map0]; rfl
theorem max_ints {x : Int} {xs : List Int} : bltD .max [.lst ((x :: xs).map D.int)] = some (.int (maxL x xs)) := by
  simp only [bltD, lD, Option.bind_some, ints_map0]
theorem min_ints {x : Int} {xs : List Int} : bltD .min [.lst ((x :: xs).map D.int)] = some (.int (minL x xs)) := by
  simp only [bltD, lD, Option.bind_some, ints_map0]
@[simp] theorem list_l (ds : List D) : bltD .list [.lst ds] = some (.lst ds) := rfl
@[simp] theorem list_t (ds : List D) : bltD .list [.tup ds] = some (.lst ds) := rfl
@[simp] theorem tuple_l (ds : List D) : bltD .tuple [.lst ds] = some (.tup ds) := rfl
@[simp] theorem tuple_t (ds : List D) : bltD .tuple [.tup ds] = some (.tup ds) := rfl
@[simp] theorem int_i (i : Int) : bltD .int [.int i] = some (.int i) := rfl
@[simp] theorem int_b (i : Bool) : bltD .int [.bl i] = some (.int (if i then 1 else 0)) := rfl
@[simp] theorem abs_i (i : Int) : bltD .abs [.int i] = some (.int (if i < 0 then -i else i)) := rfl
@[simp] theorem sorted_ints (xs : List Int) : bltD .sorted [.lst (xs.map D.int)] = some (.lst ((sortI xs).map .int)) := by
  simp only [bltD, lD, Option.bind_some, ints_map0]
theorem sorted_dict {ns : List Int} {vs : List D} (h : ns.length < 64) : bltD .sorted [.dct false (ns.map D.int) vs] = some (.lst ((sortI ns).map .int)) := by
  simp only [bltD, lD, Option.bind_none, dicD, sortDD, ints_map0]
  rw [if_pos h]
theorem rows_map {α : Type} (f : α → List D) (xs : List α) : rowsD (xs.map fun a => D.lst (f a)) = some (xs.map f) := by
  induction xs with
  | nil => rfl
  | cons x xs ih => simp only [List.map_cons, rowsD, lD0, ih]
theorem sum_rows' {α : Type} (f : α → List D) (xs : List α) (h : (xs.map f).flatten.length ≤ 16000000) : bltD .sum [.lst (xs.map fun a => D.lst (f a)), .lst []] = some (.lst (xs.map f).flatten) := by
  simp only [bltD, lD, Option.bind_some, rows_map]
  rw [if_pos (by show _ ≤ 16777216; omega)]
@[simp] theorem items_l (ds : List D) : itemsD (.lst ds) = some ds := rfl
@[simp] theorem items_t (ds : List D) : itemsD (.tup ds) = some ds := rfl
@[simp] theorem items_s (ds : List Int) : itemsD (.scr ds) = some (ds.map .int) := rfl
@[simp] theorem items_z (s : List Nat) : itemsD (.str s) = some (s.map fun c => .str [c]) := rfl
@[simp] theorem sl_l (ds : List D) (lo hi : Option Int) : slD (.lst ds) lo hi = some (.lst (cutL ds lo hi)) := rfl
@[simp] theorem sl_s (ds : List Int) (lo hi : Option Int) : slD (.scr ds) lo hi = some (.lst (cutL (ds.map .int) lo hi)) := rfl
@[simp] theorem sl_z (s : List Nat) (lo hi : Option Int) : slD (.str s) lo hi = some (.str (cutL s lo hi)) := rfl
@[simp] theorem rev_l (ds : List D) : revD (.lst ds) = some (.lst ds.reverse) := rfl
@[simp] theorem ix_q (ds : List D) (i : Int) : ixD (.lst ds) (.int i) = L2.atI ds i := rfl
@[simp] theorem ix_qt (ds : List D) (i : Int) : ixD (.tup ds) (.int i) = L2.atI ds i := rfl
@[simp] theorem ix_qk (ds : List D) (i : Int) : ixD (.ktp ds) (.int i) = L2.atI ds i := rfl
@[simp] theorem ix_qs (ds : List Int) (i : Int) : ixD (.scr ds) (.int i) = L2.atI (ds.map .int) i := rfl
@[simp] theorem ix_z (s : List Nat) (i : Int) : ixD (.str s) (.int i) = (L2.atI s i).map fun c => .str [c] := rfl
theorem at_nat {α : Type} {xs : List α} {i : Nat} {x : α} (h : xs[i]? = some x) : L2.atI xs (i : Int) = some x := by
  have hi : i < xs.length := (List.getElem?_eq_some_iff.mp h).1
  unfold L2.atI L2.ixN
  rw [if_pos (by omega), if_pos (by omega)]
  simpa using h
theorem at_int {α : Type} {xs : List α} {i : Int} {x : α} (h0 : 0 ≤ i) (h : xs[i.toNat]? = some x) : L2.atI xs i = some x := by
  have := at_nat h
  rwa [Int.toNat_of_nonneg h0] at this
@[simp] theorem at_0 {α : Type} (x : α) (xs : List α) : L2.atI (x :: xs) 0 = some x := at_nat (i := 0) rfl
@[simp] theorem at_1 {α : Type} (x y : α) (xs : List α) : L2.atI (x :: y :: xs) 1 = some y := at_nat (i := 1) rfl
@[simp] theorem at_2 {α : Type} (x y z : α) (xs : List α) : L2.atI (x :: y :: z :: xs) 2 = some z := at_nat (i := 2) rfl
theorem at_last {α : Type} {xs : List α} {x : α} (h : xs.getLast? = some x) : L2.atI xs (-1) = some x := by
  cases hx : xs.length with
  | zero => rw [List.length_eq_zero_iff] at hx; subst hx; cases h
  | succ n =>
    unfold L2.atI L2.ixN
    rw [if_neg (by omega), if_pos (by omega)]
    have e : ((-1 : Int) + xs.length).toNat = xs.length - 1 := by omega
    rw [e]
    rw [List.getLast?_eq_getElem?] at h
    exact h
theorem at_map {α β : Type} (f : α → β) (xs : List α) (i : Int) : L2.atI (xs.map f) i = (L2.atI xs i).map f := by
  unfold L2.atI
  rw [List.length_map]
  cases L2.ixN xs.length i with
  | none => rfl
  | some n => simp
@[simp] theorem isi_ii (i : Int) : (D.int i).isi .int = true := rfl
@[simp] theorem isi_ib (i : Int) : (D.int i).isi .bool = false := rfl
@[simp] theorem isi_bi (i : Bool) : (D.bl i).isi .int = true := rfl
@[simp] theorem isi_bb (i : Bool) : (D.bl i).isi .bool = true := rfl
@[simp] theorem isi_ll (i : List D) : (D.lst i).isi .list = true := rfl
@[simp] theorem isi_lt (i : List D) : (D.lst i).isi .tuple = false := rfl
@[simp] theorem isi_tt (i : List D) : (D.tup i).isi .tuple = true := rfl
@[simp] theorem isi_tl (i : List D) : (D.tup i).isi .list = false := rfl
@[simp] theorem ty_i (i : Int) : (D.int i).tyOk = true := rfl
@[simp] theorem ty_b (i : Bool) : (D.bl i).tyOk = true := rfl
@[simp] theorem ty_l (i : List D) : (D.lst i).tyOk = true := rfl
@[simp] theorem ty_t (i : List D) : (D.tup i).tyOk = true := rfl
@[simp] theorem ty_n : D.non.tyOk = true := rfl
@[simp] theorem ty_s (s : List Nat) : (D.str s).tyOk = true := rfl
@[simp] theorem non_n : D.non.isNon = true := rfl
@[simp] theorem non_i (i : Int) : (D.int i).isNon = false := rfl
@[simp] theorem non_b (i : Bool) : (D.bl i).isNon = false := rfl
@[simp] theorem non_l (i : List D) : (D.lst i).isNon = false := rfl
@[simp] theorem non_t (i : List D) : (D.tup i).isNon = false := rfl
@[simp] theorem non_s (i : List Nat) : (D.str i).isNon = false := rfl
end

/-! ### statements -/
section
variable (cl : PCalls) (con : String → Option D)
def gdP (b : Bool) (r : PS) : PS := if b then r else .bad
def setK (i : Nat) (G : PEnv) : PR D → PS
  | .ok d => gdP (decide (i < G.length)) (.nx (G.set i (some d)))
  | .bad => .bad
  | .ex x => .ex x G
def optN : Option PEnv → PS
  | some G => .nx G
  | none => .bad
def setTK (is : List Nat) (G : PEnv) : PR D → PS
  | .ok d => optN ((seqD d).bind fun ds => setD G is ds)
  | .bad => .bad
  | .ex x => .ex x G
def exK (G : PEnv) : PR D → PS
  | .ok _ => .nx G
  | .bad => .bad
  | .ex x => .ex x G
def ifK (r : PR D) (a b : Ss) (G : PEnv) : PS := match r with
  | .ok (.bl true) => pSs cl con a G
  | .ok (.bl false) => pSs cl con b G
  | .ex x => .ex x G
  | _ => .bad
def forT (tg : Tg) (body : Ss) (d : D) (G : PEnv) : PS := match bindD tg d G with
  | some G3 => pSs cl con body G3
  | none => .bad
def forK (tg : Tg) (body : Ss) (G : PEnv) : PR (List D) → PS
  | .ok ds => forP (forT cl con tg body) ds G
  | .bad => .bad
  | .ex x => .ex x G
def seqK (ss : Ss) : PS → PS
  | .nx G => pSs cl con ss G
  | r => r
def retK (io : List Nat) (G : PEnv) : PR D → PS
  | .ok d => .rt d (keepD io G)
  | .bad => .bad
  | .ex x => .ex x G
def augK (i : Nat) (o : BOp) (G : PEnv) (s : Option (Option D)) (r : PR D) : PS := match s with
  | some (some (.int x)) => (match r with
    | .ok t => (match augJ o x t with
      | some z => .nx (G.set i (some (.int z)))
      | none => .bad)
    | .bad => .bad
    | .ex x => .ex x G)
  | _ => .bad
def optG (i : Nat) (G : PEnv) : Option D → PS
  | some u => .nx (G.set i (some u))
  | none => .bad
/-- what is done to a list in a slot -/
def mutK (m : MO) (i : Nat) (G : PEnv) (s : Option (Option D)) (r : PR (List D)) : PS := match s with
  | some (some (.lst ts)) => (match r with
    | .ok as => optG i G (mutD m (some (.lst ts)) as)
    | .bad => .bad
    | .ex x => .ex x G)
  | _ => .bad
def stoK (i : Nat) (G : PEnv) (s : Option (Option D)) (k r : PR D) : PS := match r with
  | .ok t => (match s with
    | some (some (.lst ts)) => (match k with
      | .ok k => optG i G (stoD (some (.lst ts)) k t)
      | .bad => .bad
      | .ex x => .ex x G)
    | _ => .bad)
  | .bad => .bad
  | .ex x => .ex x G
def dstoK (i : Nat) (G : PEnv) (s : Option (Option D)) (k r : PR D) : PS := match r with
  | .ok t => (match s with
    | some (some (.dct kd ks ts)) => (match k with
      | .ok k => optG i G (dstoD (some (.dct kd ks ts)) k t)
      | .bad => .bad
      | .ex x => .ex x G)
    | _ => .bad)
  | .bad => .bad
  | .ex x => .ex x G
def stfK (c : String) (i : Nat) (f : String) (G : PEnv) (s : Option (Option D)) (r : PR D) : PS := match r with
  | .ok t => (match s with
    | some (some u) => optG i G (stfD c (some u) f t)
    | _ => .bad)
  | .bad => .bad
  | .ex x => .ex x G
def augSK (i : Nat) (o : BOp) (G : PEnv) (s : Option (Option D)) (k r : PR D) : PS := match s with
  | some (some (.lst ts)) => (match k with
    | .ok k => (match getJ (some (.lst ts)) k with
      | some x => (match r with
        | .ok t => optG i G (augD o (some (.lst ts)) k x t)
        | .bad => .bad
        | .ex x => .ex x G)
      | none => .bad)
    | .bad => .bad
    | .ex x => .ex x G)
  | _ => .bad
variable {cl con}
variable {G : PEnv} {a b c e : E} {as : Es} {i : Nat} {s : S} {x y ss : Ss}
@[simp] theorem s_set' : pS cl con (.set i e) G = setK i G (pE cl con e G) := by
  simp only [pS]; cases pE cl con e G <;> first | rfl | skip
  simp only [lfE, setK, gdP]; by_cases h : i < G.length <;> simp [h]
@[simp] theorem s_setF' : pS cl con (.setF i e) G = setK i G (pE cl con e G) := by
  simp only [pS]; cases pE cl con e G <;> first | rfl | skip
  simp only [lfE, setK, gdP]; by_cases h : i < G.length <;> simp [h]
@[simp] theorem s_setT' {is : List Nat} : pS cl con (.setT is e) G = setTK is G (pE cl con e G) := by
  simp only [pS]; cases pE cl con e G <;> first | rfl | skip
  rename_i d
  simp only [lfE, setTK]
  cases seqD d with
  | none => rfl
  | some ds => simp only [Option.bind_some]; cases setD G is ds <;> rfl
@[simp] theorem s_ex' : pS cl con (.ex e) G = exK G (pE cl con e G) := by
  simp only [pS]; cases pE cl con e G <;> rfl
@[simp] theorem s_ife' : pS cl con (.ife c x y) G = ifK cl con (pE cl con c G) x y G := by
  simp only [pS]; cases pE cl con c G with
  | ok d => cases d <;> first | rfl | (rename_i k; cases k <;> rfl)
  | _ => rfl
@[simp] theorem s_for' {tg : Tg} {it : I} : pS cl con (.for tg it x) G = forK cl con tg x G (pI cl con it G) := by
  simp only [pS]; cases pI cl con it G <;> rfl
@[simp] theorem s_whl' {n : Nat} : pS cl con (.whl n c x) G = whlP (pE cl con c) (pSs cl con x) n G := by simp only [pS]
@[simp] theorem s_ret' {io : List Nat} : pS cl con (.ret io e) G = retK io G (pE cl con e G) := by
  simp only [pS]; cases pE cl con e G <;> rfl
@[simp] theorem s_retN' {io : List Nat} : pS cl con (.retN io) G = .rt .non (keepD io G) := by simp only [pS]
@[simp] theorem s_pass' : pS cl con .pass G = .nx G := by simp only [pS]
@[simp] theorem s_brk' : pS cl con .brk G = .bk G := by simp only [pS]
@[simp] theorem s_cnt' : pS cl con .cnt G = .ct G := by simp only [pS]
@[simp] theorem s_dead' : pS cl con .dead G = .bad := by simp only [pS]
@[simp] theorem s_augV' {o : BOp} : pS cl con (.augV i o e) G = augK i o G (G[i]?) (pE cl con e G) := by
  simp only [pS]
  cases h : G[i]? with
  | none => rfl
  | some q => cases q with
    | none => rfl
    | some d => cases d <;> first | rfl | skip
                dsimp only [augK]
                cases pE cl con e G <;> rfl
theorem isLG_nm (G : PEnv) (i : Nat) : isLG G (i, []) = match G[i]? with
    | some (some (.lst _)) => true
    | _ => false := by
  unfold isLG gtG
  dsimp only
  cases G[i]? with
  | none => rfl
  | some q => cases q with
    | none => rfl
    | some d => cases d <;> rfl
@[simp] theorem s_augS' {o : BOp} : pS cl con (.augS i o a e) G = augSK i o G (G[i]?) (pE cl con a G) (pE cl con e G) := by
  simp only [pS, isLG_nm, slotD]
  cases h : G[i]? with
  | none => rfl
  | some q => cases q with
    | none => rfl
    | some d => cases d <;> first | rfl | skip
                rename_i ts
                simp only [if_true, augSK]
                cases pE cl con a G <;> first | rfl | skip
                rename_i k
                simp only [lfE]
                cases getJ (some (.lst ts)) k with
                | none => rfl
                | some x =>
                  cases pE cl con e G with
                  | ok t => simp only [lfE]; cases augD o (some (.lst ts)) k x t <;> rfl
                  | _ => rfl
theorem pPl_nm : pPl cl con (.nm i) G = match G[i]? with
    | some (some _) => .ok (i, [])
    | _ => .bad := by simp only [pPl] <;> rfl
theorem gtG_nm {d : D} (h : G[i]? = some (some d)) : gtG G (i, []) = some d := by
  unfold gtG; dsimp only; rw [h]; cases d <;> rfl
theorem stG_nm {d u : D} (h : G[i]? = some (some d)) : stG G (i, []) u = G.set i (some u) := by
  unfold stG; dsimp only; rw [h]; cases d <;> rfl
theorem pput_nm {d : D} {o : Option D} (h : G[i]? = some (some d)) : pputG G (i, []) o = optG i G o := by
  cases o with
  | none => rfl
  | some u => show PS.nx _ = PS.nx _; rw [stG_nm h]
@[simp] theorem s_mut' {m : MO} : pS cl con (.mut m (.nm i) as) G = mutK m i G (G[i]?) (pEs cl con as G) := by
  simp only [pS, pPl_nm]
  cases h : G[i]? with
  | none => rfl
  | some q => cases q with
    | none => rfl
    | some d =>
      simp only [lfI, isLG_nm, h]
      cases d <;> first | rfl | skip
      simp only [if_true, mutK, gtG_nm h]
      cases pEs cl con as G <;> first | rfl | skip
      simp only [lfI, pput_nm h]
@[simp] theorem s_sto' : pS cl con (.sto (.nm i) a e) G = stoK i G (G[i]?) (pE cl con a G) (pE cl con e G) := by
  simp only [pS, pPl_nm]
  cases pE cl con e G <;> first | rfl | skip
  rename_i t
  simp only [lfE]
  cases h : G[i]? with
  | none => rfl
  | some q => cases q with
    | none => rfl
    | some d =>
      simp only [lfI, isLG_nm, h]
      cases d <;> first | rfl | skip
      simp only [if_true, stoK, gtG_nm h]
      cases pE cl con a G <;> first | rfl | skip
      simp only [lfE, pput_nm h]
@[simp] theorem s_dsto' : pS cl con (.dsto (.nm i) a e) G = dstoK i G (G[i]?) (pE cl con a G) (pE cl con e G) := by
  simp only [pS, pPl_nm]
  cases pE cl con e G <;> first | rfl | skip
  rename_i t
  simp only [lfE]
  cases h : G[i]? with
  | none => rfl
  | some q => cases q with
    | none => rfl
    | some d =>
      simp only [lfI, isDG, gtG_nm h]
      cases d <;> first | rfl | skip
      simp only [if_true, dstoK]
      cases pE cl con a G <;> first | rfl | skip
      simp only [lfE, pput_nm h]
@[simp] theorem s_stf' {f g : String} : pS cl con (.stf f (.nm i) g e) G = stfK f i g G (G[i]?) (pE cl con e G) := by
  simp only [pS, pPl_nm]
  cases pE cl con e G <;> first | rfl | skip
  rename_i t
  simp only [lfE]
  cases h : G[i]? with
  | none => rfl
  | some q => cases q with
    | none => rfl
    | some d => simp only [lfI, gtG_nm h, pput_nm h, stfK]
@[simp] theorem ss_nil' : pSs cl con .nil G = .nx G := by simp only [pSs]
@[simp] theorem ss_cons' : pSs cl con (.cons s ss) G = seqK cl con ss (pS cl con s G) := by
  simp only [pSs]; cases pS cl con s G <;> rfl
@[simp] theorem ss_kill' {is : List Nat} : pSs cl con (.kill is ss) G = pSs cl con ss (wipeD G is) := by simp only [pSs]
end
section
variable {cl : PCalls} {con : String → Option D} {G : PEnv} {x y ss : Ss} {d t : D} {i : Nat}
@[simp] theorem gdP_t (r : PS) : gdP true r = r := rfl
@[simp] theorem setK_ok : setK i G (.ok d) = gdP (decide (i < G.length)) (.nx (G.set i (some d))) := rfl
@[simp] theorem setK_ex (x : Exn) : setK i G (.ex x) = .ex x G := rfl
@[simp] theorem optN_s : optN (some G) = .nx G := rfl
@[simp] theorem setTK_ok {is : List Nat} : setTK is G (.ok d) = optN ((seqD d).bind fun ds => setD G is ds) := rfl
@[simp] theorem seq_l (ds : List D) : seqD (.lst ds) = some ds := rfl
@[simp] theorem seq_t (ds : List D) : seqD (.tup ds) = some ds := rfl
@[simp] theorem setD_nil : setD G [] [] = some G := rfl
@[simp] theorem setD_cons {is : List Nat} {ds : List D} : setD G (i :: is) (d :: ds) = if i < G.length then setD (G.set i (some d)) is ds else none := rfl
@[simp] theorem exK_ok : exK G (.ok d) = .nx G := rfl
@[simp] theorem exK_ex (x : Exn) : exK G (.ex x) = .ex x G := rfl
@[simp] theorem ifK_t : ifK cl con (.ok (.bl true)) x y G = pSs cl con x G := rfl
@[simp] theorem ifK_f : ifK cl con (.ok (.bl false)) x y G = pSs cl con y G := rfl
@[simp] theorem ifK_ex (z : Exn) : ifK cl con (.ex z) x y G = .ex z G := rfl
@[simp] theorem forK_ok {tg : Tg} (ds : List D) : forK cl con tg x G (.ok ds) = forP (forT cl con tg x) ds G := rfl
@[simp] theorem forK_ex {tg : Tg} (z : Exn) : forK cl con tg x G (.ex z) = .ex z G := rfl
@[simp] theorem seqK_nx : seqK cl con ss (.nx G) = pSs cl con ss G := rfl
@[simp] theorem seqK_rt : seqK cl con ss (.rt d G) = .rt d G := rfl
@[simp] theorem seqK_bk : seqK cl con ss (.bk G) = .bk G := rfl
@[simp] theorem seqK_ct : seqK cl con ss (.ct G) = .ct G := rfl
@[simp] theorem seqK_ex (x : Exn) : seqK cl con ss (.ex x G) = .ex x G := rfl
@[simp] theorem retK_ok {io : List Nat} : retK io G (.ok d) = .rt d (keepD io G) := rfl
@[simp] theorem retK_ex {io : List Nat} (x : Exn) : retK io G (.ex x) = .ex x G := rfl
@[simp] theorem augK_i {o : BOp} (x : Int) : augK i o G (some (some (.int x))) (.ok t) = match augJ o x t with
      | some z => .nx (G.set i (some (.int z)))
      | none => .bad := rfl
@[simp] theorem augJ_a (x y : Int) : augJ .add x (.int y) = some (x + y) := rfl
@[simp] theorem augJ_s (x y : Int) : augJ .sub x (.int y) = some (x - y) := rfl
@[simp] theorem optG_s : optG i G (some d) = .nx (G.set i (some d)) := rfl
@[simp] theorem mutK_l {m : MO} (ts as : List D) : mutK m i G (some (some (.lst ts))) (.ok as) = optG i G (mutD m (some (.lst ts)) as) := rfl
@[simp] theorem mutK_ex {m : MO} (ts : List D) (x : Exn) : mutK m i G (some (some (.lst ts))) (.ex x) = .ex x G := rfl
@[simp] theorem stoK_l (ts : List D) (k : D) : stoK i G (some (some (.lst ts))) (.ok k) (.ok t) = optG i G (stoD (some (.lst ts)) k t) := rfl
@[simp] theorem dstoK_l (kd : Bool) (ks ts : List D) (k : D) : dstoK i G (some (some (.dct kd ks ts))) (.ok k) (.ok t) = optG i G (dstoD (some (.dct kd ks ts)) k t) := rfl
@[simp] theorem stfK_o {c f : String} (u : D) : stfK c i f G (some (some u)) (.ok t) = optG i G (stfD c (some u) f t) := rfl
@[simp] theorem append_ok (ts : List D) (h : ts.length < 16000000) : mutD .append (some (.lst ts)) [t] = some (.lst (ts ++ [t])) := by
  simp only [mutD]; rw [if_pos (by simp only [decide_eq_true_eq]; show _ < 16777216; omega)]
@[simp] theorem extend_ok (ts us : List D) (h : ts.length + us.length ≤ 16000000) : mutD .extend (some (.lst ts)) [.lst us] = some (.lst (ts ++ us)) := by
  simp only [mutD]; rw [if_pos (by simp only [decide_eq_true_eq]; show _ ≤ 16777216; omega)]
@[simp] theorem reverse_ok (ts : List D) : mutD .reverse (some (.lst ts)) [] = some (.lst ts.reverse) := rfl
@[simp] theorem clear_ok' (ts : List D) : mutD .clear (some (.lst ts)) [] = some (.lst []) := rfl
theorem sto_ok' {ts : List D} {j : Nat} (h : j < ts.length) : stoD (some (.lst ts)) (.int (j : Int)) t = some (.lst (ts.set j t)) := by
  simp only [stoD, ixD1]
  unfold L2.ixN
  rw [if_pos (by omega), if_pos (by omega)]
  simp
@[simp] theorem forT_nm (d : D) : forT cl con (.nm i) x d G = gdP (decide (i < G.length)) (pSs cl con x (G.set i (some d))) := by
  simp only [forT, bindD, gdP]; by_cases h : i < G.length <;> simp [h]
@[simp] theorem forT_tp (is : List Nat) (ds : List D) : forT cl con (.tp is) x (.tup ds) G = match setD G is ds with
    | some G3 => pSs cl con x G3
    | none => .bad := rfl
@[simp] theorem wipeD_nil : wipeD G [] = G := rfl
@[simp] theorem wipeD_cons (v : Nat) (vs : List Nat) : wipeD G (v :: vs) = (wipeD G vs).set v none := rfl
@[simp] theorem forP_nil (st : D → PEnv → PS) : forP st [] G = .nx G := rfl
theorem forP_nx {st : D → PEnv → PS} {ds : List D} {G' : PEnv} (h : st d G = .nx G') : forP st (d :: ds) G = forP st ds G' := by simp only [forP, h]
theorem forP_rt {st : D → PEnv → PS} {ds : List D} {G' : PEnv} (h : st d G = .rt t G') : forP st (d :: ds) G = .rt t G' := by simp only [forP, h]
theorem forP_ex {st : D → PEnv → PS} {ds : List D} {G' : PEnv} {x : Exn} (h : st d G = .ex x G') : forP st (d :: ds) G = .ex x G' := by simp only [forP, h]
@[simp] theorem toPC_rt : toPC [] (.rt d G) = .ret d [] := rfl
@[simp] theorem toPC_nx : toPC [] (.nx G) = .ret .non [] := rfl
@[simp] theorem toPC_ex (x : Exn) : toPC [] (.ex x G) = .ex x [] := rfl
/-! loops -/
/-- each turn ends where it began -/
theorem for_same {st : D → PEnv → PS} {ds : List D} (h : ∀ d ∈ ds, st d G = .nx G) : forP st ds G = .nx G := by
  induction ds with
  | nil => rfl
  | cons d ds ih => rw [forP_nx (h d (by simp)), ih fun d' hd => h d' (by simp [hd])]
/-- a loop that keeps some state -/
theorem for_fold {α σ : Type} {st : D → PEnv → PS} {inj : α → D} {enc : σ → PEnv} {f : σ → α → σ} : ∀ {xs : List α} {s : σ}, (∀ pre x post, xs = pre ++ x :: post → st (inj x) (enc (pre.foldl f s)) = .nx (enc (f (pre.foldl f s) x))) → forP st (xs.map inj) (enc s) = .nx (enc (xs.foldl f s))
  | [], s, _ => rfl
  | x :: xs, s, h => by
    rw [List.map_cons, show forP st (inj x :: xs.map inj) (enc s) = forP st (xs.map inj) (enc (f s x)) from forP_nx (h [] x xs rfl)]
    exact for_fold (xs := xs) (s := f s x) fun pre y post e => h (x :: pre) y post (by rw [e]; rfl)
/-- a loop that appends -/
theorem for_map {α : Type} {st : D → PEnv → PS} {inj : α → D} {enc : List D → PEnv} {f : α → D} : ∀ {xs : List α} {acc : List D}, acc.length + xs.length < 16000000 → (∀ x ∈ xs, ∀ acc : List D, acc.length < 16000000 → st (inj x) (enc acc) = .nx (enc (acc ++ [f x]))) → forP st (xs.map inj) (enc acc) = .nx (enc (acc ++ xs.map f))
  | [], acc, _, _ => by simp
  | x :: xs, acc, l, h => by
    simp only [List.length_cons] at l
    rw [List.map_cons, forP_nx (h x (by simp) acc (by omega)), for_map (xs := xs) (acc := acc ++ [f x]) (by simp; omega) fun y hy => h y (by simp [hy])]
    simp
/-- a loop that stops with an answer at the first odd one -/
theorem for_all {α : Type} {st : D → PEnv → PS} {inj : α → D} {p : α → Bool} {G : PEnv} {t : D} : ∀ {xs : List α}, (∀ x ∈ xs, p x = true → st (inj x) G = .nx G) → (∀ x ∈ xs, p x = false → ∃ G', st (inj x) G = .rt t G') → (xs.all p = true → forP st (xs.map inj) G = .nx G) ∧ (xs.all p = false → ∃ G', forP st (xs.map inj) G = .rt t G')
  | [], _, _ => ⟨fun _ => rfl, fun h => by cases h⟩
  | x :: xs, h1, h2 => by
    have ih := for_all (xs := xs) (fun y hy => h1 y (by simp [hy])) fun y hy => h2 y (by simp [hy])
    cases hp : p x with
    | true =>
      have e := h1 x (by simp) hp
      refine ⟨fun h => ?_, fun h => ?_⟩
      · rw [List.map_cons, forP_nx e]; exact ih.1 (by simpa [hp] using h)
      · rw [List.map_cons, forP_nx e]; exact ih.2 (by simpa [hp] using h)
    | false =>
      obtain ⟨G', e⟩ := h2 x (by simp) hp
      exact ⟨fun h => by simp [hp] at h, fun _ => ⟨G', by rw [List.map_cons, forP_rt e]⟩⟩
theorem lc_map {α : Type} {st : D → PR (Option D)} {inj : α → D} {f : α → D} : ∀ {xs : List α}, (∀ x ∈ xs, st (inj x) = .ok (some (f x))) → lcP st (xs.map inj) = .ok (xs.map f)
  | [], _ => rfl
  | x :: xs, h => by
    simp only [List.map_cons, lcP, h x (by simp), lc_map (xs := xs) fun y hy => h y (by simp [hy])]; rfl
theorem lc_filter {α : Type} {st : D → PR (Option D)} {inj : α → D} {p : α → Bool} {f : α → D} : ∀ {xs : List α}, (∀ x ∈ xs, st (inj x) = .ok (if p x then some (f x) else none)) → lcP st (xs.map inj) = .ok ((xs.filter p).map f)
  | [], _ => rfl
  | x :: xs, h => by
    have e := h x (by simp)
    have ih := lc_filter (xs := xs) fun y hy => h y (by simp [hy])
    cases hp : p x with
    | true =>
      rw [hp] at e
      simp only [List.map_cons, lcP, e, ih, List.filter_cons, hp, if_true]; rfl
    | false =>
      rw [hp] at e
      simp only [List.map_cons, lcP, e, ih, List.filter_cons, hp]; rfl
def someP : PR D → PR (Option D)
  | .ok d => .ok (some d)
  | .bad => .bad
  | .ex x => .ex x
def lcB (cl : PCalls) (con : String → Option D) (e : E) (G : PEnv) : PR Bool → PR (Option D)
  | .ok true => someP (pE cl con e G)
  | .ok false => .ok none
  | .bad => .bad
  | .ex x => .ex x
@[simp] theorem someP_ok (d : D) : someP (.ok d) = .ok (some d) := rfl
@[simp] theorem lcB_t {e : E} : lcB cl con e G (.ok true) = someP (pE cl con e G) := rfl
@[simp] theorem lcB_f {e : E} : lcB cl con e G (.ok false) = .ok none := rfl
theorem lcT_bind {own : List Nat} {tg : Tg} {m : OE} {e : E} {d : D} {G3 : PEnv} (h : bindD tg d (wipeD G own) = some G3) : lcT cl con own tg m e G d = lcB cl con e G3 (pC cl con m G3) := by
  simp only [lcT, h]
  cases pC cl con m G3 with
  | ok b => cases b <;> first | rfl | (cases q : pE cl con e G3 <;> simp [PR.bind, lcB, q, someP])
  | _ => rfl
@[simp] theorem lcT_nm {own : List Nat} {m : OE} {e : E} (d : D) (h : i < (wipeD G own).length) : lcT cl con own (.nm i) m e G d = lcB cl con e ((wipeD G own).set i (some d)) (pC cl con m ((wipeD G own).set i (some d))) :=
  lcT_bind (by simp only [bindD]; rw [if_pos h])
@[simp] theorem lcT_tp {own is : List Nat} {m : OE} {e : E} (ds : List D) {G3 : PEnv} (h : setD (wipeD G own) is ds = some G3) : lcT cl con own (.tp is) m e G (.tup ds) = lcB cl con e G3 (pC cl con m G3) :=
  lcT_bind (by simp only [bindD, tupD, Option.bind_some]; exact h)
end
/-- a def's run -/
theorem pF_at {P : String → Option Fn} {con : String → Option D} {k : Nat} {f : String} {fn : Fn} {ds : List D} (h : P f = some fn) (l : ds.length = fn.np) : pF P con (k + 1) f ds = toPC fn.io (pSs (pF P con k) con fn.body (envD ds fn.ns)) := by
  simp only [pF, h, if_pos l]
end Tv

namespace Tv
open PySem
/-! ### numbers out of a cell, as all laws draw them -/
def k_abc : List Nat := [97, 98, 99, 100, 101, 102, 103, 104, 105, 106, 107, 108, 109, 110, 111, 112, 113, 114, 115, 116, 117, 118, 119, 120, 121, 122]
def k_dig : List Nat := [48, 49, 50, 51, 52, 53, 54, 55, 56, 57]
def k_sg1 : List Nat := [32, 33, 34, 35, 36, 38, 39, 40, 41, 42, 43, 44, 45, 46, 47, 48, 49, 50, 51, 52, 53, 54, 55, 56, 57, 58, 59, 60, 61, 62, 63, 64, 65, 66, 67, 68, 69, 70, 71, 72, 73, 74, 75, 76, 77, 78, 79, 80, 81, 82, 83, 84, 85, 86, 87, 88, 89, 90, 91, 92, 93, 94, 95, 96]
def k_sg2 : List Nat := [97, 98, 99, 100, 101, 102, 103, 104, 105, 106, 107, 108, 109, 110, 111, 112, 113, 114, 115, 116, 117, 118, 119, 120, 121, 122, 123, 124, 125, 126, 10, 9]
def c_numbers_b1 : Ss := 
    (.cons (.ife (.and (.cmp .ge (.frz 3) (.bin .pow (.int 10) (.int 18))) (.cmp .gt (.frz 4) (.int 0))) (
      (.cons (.mut .append (.nm 5) (.cons (.bin .mod (.frz 4) (.ix (.frz 2) (.frz 6))) .nil)) 
      (.cons (.setF 4 (.bin .fdiv (.frz 4) (.ix (.frz 2) (.frz 6)))) (.kill [6] .nil)))) (
      (.cons (.setF 7 (.bin .mod (.bin .add (.bin .add (.bin .add (.frz 3) (.bin .mul (.int 7919) (.frz 1))) (.bin .mul (.bin .mul (.int 101) (.frz 6)) (.frz 6))) (.frz 6)) (.int 2147483647))) 
      (.cons (.setF 7 (.bin .mod (.bin .mul (.frz 7) (.int 48271)) (.int 2147483647))) 
      (.cons (.setF 7 (.bin .mod (.bin .mul (.bin .mod (.bin .mul (.frz 7) (.frz 7)) (.int 2147483629)) (.int 48271)) (.int 2147483647))) 
      (.cons (.mut .append (.nm 5) (.cons (.bin .mod (.bin .fdiv (.frz 7) (.int 16)) (.ix (.frz 2) (.frz 6))) .nil)) (.kill [6, 7] .nil))))))) .nil)
def c_numbers : Fn := ⟨3, 8, [], 
  (.cons (.setF 3 (.blt .max (.cons (.frz 0) (.cons (.bin .sub (.neg (.int 1)) (.frz 0)) .nil)))) 
  (.cons (.setF 4 (.frz 3)) 
  (.cons (.set 5 (.lst .nil)) 
  (.cons (.for (.nm 6) (.rng1 (.blt .len (.cons (.frz 2) .nil))) c_numbers_b1) 
  (.cons (.ret [] (.mov 5)) .nil)))))⟩


def numOf (c : Int) : Int := if -1 - c > c then -1 - c else c
def numH (n s k : Int) : Int :=
  ((((((n + 7919 * s + 101 * k * k + k).fmod 2147483647) * 48271).fmod 2147483647) * ((((n + 7919 * s + 101 * k * k + k).fmod 2147483647) * 48271).fmod 2147483647)).fmod 2147483629 * 48271).fmod 2147483647 / 16
def numsL (n s : Int) : Nat → Int → List Int → List Int
  | _, _, [] => []
  | k, left, z :: zs => if (10 : Int) ^ 18 ≤ n ∧ 0 < left then left.fmod z :: numsL n s (k + 1) (left / z) zs else (numH n s k).fmod z :: numsL n s (k + 1) left zs
def nums (c s : Int) (zs : List Int) : List Int := numsL (numOf c) s 0 (numOf c) zs
theorem numsL_length {n s : Int} : ∀ {zs : List Int} {k : Nat} {l : Int}, (numsL n s k l zs).length = zs.length
  | [], _, _ => rfl
  | z :: zs, k, l => by unfold numsL; split <;> simp [numsL_length]
theorem nums_length {c s : Int} {zs : List Int} : (nums c s zs).length = zs.length := numsL_length
theorem numsL_get {n s : Int} : ∀ {zs : List Int} {k : Nat} {l : Int} {i : Nat} {z : Int}, (∀ z ∈ zs, 0 < z) → zs[i]? = some z → ∃ d, (numsL n s k l zs)[i]? = some d ∧ 0 ≤ d ∧ d < z
  | [], _, _, _, _, _, h => by simp at h
  | z :: zs, k, l, 0, y, hp, h => by
    simp at h; subst h
    have := hp z (by simp)
    unfold numsL; split
    · exact ⟨_, rfl, Int.fmod_nonneg_of_pos _ this, Int.fmod_lt_of_pos _ this⟩
    · exact ⟨_, rfl, Int.fmod_nonneg_of_pos _ this, Int.fmod_lt_of_pos _ this⟩
  | z :: zs, k, l, i + 1, y, hp, h => by
    unfold numsL; split
    · simpa using numsL_get (fun z hz => hp z (by simp [hz])) (by simpa using h)
    · simpa using numsL_get (fun z hz => hp z (by simp [hz])) (by simpa using h)
theorem nums_get {c s : Int} {zs : List Int} {i : Nat} {z : Int} (hp : ∀ z ∈ zs, 0 < z) (h : zs[i]? = some z) : ∃ d, (nums c s zs)[i]? = some d ∧ 0 ≤ d ∧ d < z := numsL_get hp h
structure Sizes (zs : List Int) : Prop where
  pos : ∀ z ∈ zs, 0 < z
  big : ∀ z ∈ zs, z < 2 ^ 64
  len : zs.length ≤ 1000

section
open L2
theorem sIx_nn {n d : Nat} {i : Int} (h : 0 ≤ i) : HT.sIx n d (some i) = min i.toNat n := by
  unfold HT.sIx
  first
    | (simp only []; split <;> omega)
    | (split <;> omega)
    | omega
theorem cutL_two {α : Type} {xs : List α} {a b : Int} (ha : 0 ≤ a) (hb : a ≤ b) : cutL xs (some a) (some b) = (xs.drop a.toNat).take (b - a).toNat := by
  unfold cutL
  rw [sIx_nn ha, sIx_nn (by omega)]
  apply List.ext_getElem?
  intro i
  rw [List.getElem?_take, List.getElem?_take]
  by_cases h : a.toNat ≤ xs.length
  · rw [Nat.min_eq_left h, List.getElem?_drop]
    by_cases h2 : b.toNat ≤ xs.length
    · rw [Nat.min_eq_left h2, show b.toNat - a.toNat = (b - a).toNat by omega]
    · rw [Nat.min_eq_right (by omega)]
      by_cases h3 : i < xs.length - a.toNat
      · rw [if_pos h3, if_pos (by omega)]
      · rw [if_neg h3, List.getElem?_eq_none (by omega)]; simp
  · rw [Nat.min_eq_right (by omega), List.getElem?_drop, List.getElem?_drop, List.getElem?_eq_none (by omega), List.getElem?_eq_none (by omega)]
    simp
theorem cutL_to {α : Type} {xs : List α} {b : Int} (hb : 0 ≤ b) : cutL xs none (some b) = xs.take b.toNat := by
  unfold cutL
  rw [sIx_nn hb]
  have : HT.sIx xs.length 0 none = 0 := rfl
  rw [this, List.drop_zero, Nat.sub_zero, ← List.take_take, List.take_length]
theorem cutL_from {α : Type} {xs : List α} {a : Int} (ha : 0 ≤ a) : cutL xs (some a) none = xs.drop a.toNat := by
  unfold cutL
  rw [sIx_nn ha]
  have : HT.sIx xs.length xs.length none = xs.length := rfl
  rw [this]
  by_cases h : a.toNat ≤ xs.length
  · rw [Nat.min_eq_left h, List.take_of_length_le (by simp)]
  · rw [Nat.min_eq_right (by omega), List.drop_of_length_le (Nat.le_refl _), List.drop_of_length_le (by omega)]; simp
theorem cutL_map {α β : Type} (f : α → β) (xs : List α) (lo hi : Option Int) : cutL (xs.map f) lo hi = (cutL xs lo hi).map f := by
  unfold cutL
  rw [List.length_map, List.map_take, List.map_drop]
theorem cutL_mem {α : Type} {xs : List α} {lo hi : Option Int} {x : α} (h : x ∈ cutL xs lo hi) : x ∈ xs := by
  unfold cutL at h
  exact List.mem_of_mem_drop (List.mem_of_mem_take h)
theorem cutL_len {α : Type} (xs : List α) (lo hi : Option Int) : (cutL xs lo hi).length ≤ xs.length := by
  unfold cutL
  rw [List.length_take, List.length_drop]; omega
end
theorem log2_small {i : Int} {n : Nat} (h : i.natAbs < 2 ^ n) (hn : 0 < n) : i.natAbs.log2 < n := by
  by_cases c : i.natAbs = 0
  · rw [c]; simpa using hn
  · exact (Nat.log2_lt c).mpr h
theorem mulI64 {i j : Int} (hi : -18446744073709551616 < i ∧ i < 18446744073709551616) (hj : -18446744073709551616 < j ∧ j < 18446744073709551616) : binD .mul (.int i) (.int j) = some (.int (i * j)) := by
  rw [mul_ii]
  have a := log2_small (i := i) (n := 64) (by have : (2:Nat)^64 = 18446744073709551616 := by decide
                                              omega) (by decide)
  have b := log2_small (i := j) (n := 64) (by have : (2:Nat)^64 = 18446744073709551616 := by decide
                                              omega) (by decide)
  rw [if_pos (by omega)]
theorem modI {i j : Int} (h : 0 < j) : binD .mod (.int i) (.int j) = some (.int (i.fmod j)) := by
  rw [mod_ii, if_pos (by omega)]
theorem fdivI {i j : Int} (h : 0 < j) (h2 : j < 18446744073709551616) : binD .fdiv (.int i) (.int j) = some (.int (i / j)) := by
  have a := log2_small (i := j) (n := 64) (by have : (2:Nat)^64 = 18446744073709551616 := by decide
                                              omega) (by decide)
  rw [fdiv_ii, if_pos ⟨h, by omega⟩]
theorem fmI {a m : Int} (hm : 0 < m) : 0 ≤ a.fmod m ∧ a.fmod m < m := ⟨Int.fmod_nonneg_of_pos _ hm, Int.fmod_lt_of_pos _ hm⟩
abbrev intL (xs : List Int) : D := .lst (xs.map .int)
theorem ints_app (xs : List Int) (i : Int) : xs.map D.int ++ [.int i] = (xs ++ [i]).map .int := by simp
theorem range_map (n : Nat) : rangeD 0 n 1 = (List.range n).map fun (i : Nat) => D.int (i : Int) := by
  unfold rangeD; apply List.map_congr_left; intro i _; simp
theorem range_mapL (lo : Int) (n : Nat) : rangeD lo n 1 = (List.range n).map fun (i : Nat) => D.int (lo + (i : Int)) := by
  unfold rangeD; apply List.map_congr_left; intro i _; simp
theorem small_int {i : Int} (h0 : 0 ≤ i) (h : i ≤ 1000000) : (small62 i && decide (i ≤ LIM)) = true := by
  have : (2:Int)^62 = 4611686018427387904 := by decide
  simp only [small62, Bool.and_eq_true, decide_eq_true_eq]
  refine ⟨⟨by omega, by omega⟩, by show i ≤ 16777216; omega⟩
@[simp] theorem rng_int {i : Int} (h0 : 0 ≤ i) (h : i ≤ 1000000) : rng1K (.ok (.int i)) = .ok ((List.range i.toNat).map fun (i : Nat) => D.int (i : Int)) := by
  rw [rng1K_i, small_int h0 h, if_pos rfl, range_map]
@[simp] theorem rng_nat {n : Nat} (h : n ≤ 1000000) : rng1K (.ok (.int (n : Int))) = .ok ((List.range n).map fun (i : Nat) => D.int (i : Int)) := by
  rw [rng_int (by omega) (by omega), Int.toNat_natCast]
@[simp] theorem lrn_nat {n : Nat} (h : n ≤ 1000000) : lrnD (.int (n : Int)) = .ok (.lst ((List.range n).map fun (i : Nat) => .int (i : Int))) := by
  rw [lrnD_i, small_int (by omega) (by omega), if_pos rfl, Int.toNat_natCast]
@[simp] theorem lrn_int {i : Int} (h0 : 0 ≤ i) (h : i ≤ 1000000) : lrnD (.int i) = .ok (.lst ((List.range i.toNat).map fun (i : Nat) => D.int (i : Int))) := by
  rw [lrnD_i, small_int h0 h, if_pos rfl]
@[simp] theorem rng2_int {i j : Int} (h0 : 0 ≤ i) (h1 : i ≤ 1000000) (h2 : 0 ≤ j) (h : j ≤ 1000000) : rng2K (.ok (.int i)) (.ok (.int j)) = .ok ((List.range (j - i).toNat).map fun (n : Nat) => D.int (i + (n : Int))) := by
  have a := small_int h0 h1
  have b := small_int h2 h
  simp only [Bool.and_eq_true] at a b
  rw [rng2K_i, a.1, b.1, if_pos, range_mapL]
  simp only [Bool.true_and, decide_eq_true_eq]
  show j - i ≤ 16777216
  omega
@[simp] theorem mod_lit {i j : Int} (h : 0 < j) : binD .mod (.int i) (.int j) = some (.int (i.fmod j)) := modI h
@[simp] theorem fdiv_lit {i j : Int} (h : 0 < j) (h2 : j < 18446744073709551616) : binD .fdiv (.int i) (.int j) = some (.int (i / j)) := fdivI h h2
/-- a loop with a state that is told by how far it is -/
theorem for_inv {st : D → PEnv → PS} {n : Nat} {I : Nat → PEnv → Prop} {f : Nat → D} (h : ∀ i G, i < n → I i G → ∃ G', st (f i) G = .nx G' ∧ I (i + 1) G') : ∀ {G : PEnv}, I 0 G → ∃ G', forP st ((List.range n).map f) G = .nx G' ∧ I n G' := by
  have key : ∀ (m k : Nat) (G : PEnv), k + m = n → I k G → ∃ G', forP st ((List.range' k m).map f) G = .nx G' ∧ I n G' := by
    intro m
    induction m with
    | zero => intro k G e i; have : k = n := by omega
              subst this; exact ⟨G, rfl, i⟩
    | succ m ih =>
      intro k G e i
      obtain ⟨G1, e1, i1⟩ := h k G (by omega) i
      obtain ⟨G2, e2, i2⟩ := ih (k + 1) G1 (by omega) i1
      refine ⟨G2, ?_, i2⟩
      rw [List.range'_succ, List.map_cons, forP_nx e1]; exact e2
  intro G i
  rw [List.range_eq_range']
  exact key n 0 G (by omega) i
section
variable {P : String → Option Fn} {con : String → Option D} {k : Nat}
/-- one number drawn -/
theorem num_turn {cl : PCalls} {c s l z : Int} {zs acc : List Int} {i : Nat} (hs : -1000000000 < s ∧ s < 1000000000) (hi : i ≤ 1000) (hz : zs[i]? = some z) (hp : 0 < z) (hb : z < 2 ^ 64) (ha : acc.length ≤ 1000) :
    forT cl con (.nm 6) c_numbers_b1 (.int i) [some (.int c), some (.int s), some (intL zs), some (.int (numOf c)), some (.int l), some (intL acc), none, none] =
      .nx (if (10 : Int) ^ 18 ≤ numOf c ∧ 0 < l then [some (.int c), some (.int s), some (intL zs), some (.int (numOf c)), some (.int (l / z)), some (intL (acc ++ [l.fmod z])), none, none]
        else [some (.int c), some (.int s), some (intL zs), some (.int (numOf c)), some (.int l), some (intL (acc ++ [(numH (numOf c) s i).fmod z])), none, none]) := by
  have hx : L2.atI (zs.map D.int) (i : Int) = some (.int z) := at_nat (by simp [hz])
  have p18 : binD .pow (.int 10) (.int 18) = some (.int 1000000000000000000) := by rw [pow_ii, if_pos (by decide)]; rfl
  have e18 : (10 : Int) ^ 18 = 1000000000000000000 := by decide
  have hl : acc.length < 16000000 := by omega
  have m1 : binD .mul (.int 7919) (.int s) = some (.int (7919 * s)) := mulI64 (by omega) (by omega)
  have m2 : binD .mul (.int 101) (.int i) = some (.int (101 * i)) := mulI64 (by omega) (by omega)
  have m3 : binD .mul (.int (101 * i)) (.int i) = some (.int (101 * i * i)) := mulI64 (by omega) (by omega)
  obtain ⟨a, ha'⟩ : ∃ a, a = (numOf c + 7919 * s + 101 * i * i + i).fmod 2147483647 := ⟨_, rfl⟩
  have b1 : 0 ≤ a ∧ a < 2147483647 := ha' ▸ fmI (by decide)
  have m4 : binD .mul (.int a) (.int 48271) = some (.int (a * 48271)) := mulI64 (by omega) (by omega)
  obtain ⟨b, hb'⟩ : ∃ b, b = (a * 48271).fmod 2147483647 := ⟨_, rfl⟩
  have b2 : 0 ≤ b ∧ b < 2147483647 := hb' ▸ fmI (by decide)
  have m5 : binD .mul (.int b) (.int b) = some (.int (b * b)) := mulI64 (by omega) (by omega)
  obtain ⟨d, hd'⟩ : ∃ d, d = (b * b).fmod 2147483629 := ⟨_, rfl⟩
  have b3 : 0 ≤ d ∧ d < 2147483629 := hd' ▸ fmI (by decide)
  have m6 : binD .mul (.int d) (.int 48271) = some (.int (d * 48271)) := mulI64 (by omega) (by omega)
  have q1 : binD .mod (.int (numOf c + 7919 * s + 101 * i * i + i)) (.int 2147483647) = some (.int a) := by rw [modI (by decide), ha']
  have q2 : binD .mod (.int (a * 48271)) (.int 2147483647) = some (.int b) := by rw [modI (by decide), hb']
  have q3 : binD .mod (.int (b * b)) (.int 2147483629) = some (.int d) := by rw [modI (by decide), hd']
  have q4 : binD .mod (.int (d * 48271)) (.int 2147483647) = some (.int ((d * 48271).fmod 2147483647)) := modI (by decide)
  have q5 : ∀ q : Int, binD .fdiv (.int q) (.int 16) = some (.int (q / 16)) := fun q => fdivI (by decide) (by decide)
  have q6 : ∀ q : Int, binD .mod (.int q) (.int z) = some (.int (q.fmod z)) := fun q => modI hp
  have q7 : ∀ q : Int, binD .fdiv (.int q) (.int z) = some (.int (q / z)) := fun q => fdivI hp hb
  have eh : numH (numOf c) s i = (d * 48271).fmod 2147483647 / 16 := by unfold numH; rw [← ha', ← hb', ← hd']
  rw [eh, e18]
  by_cases c1 : 1000000000000000000 ≤ numOf c
  · by_cases c2 : 0 < l
    · simp -implicitDefEqProofs [c_numbers_b1, p18, c1, c2, hx, q6, q7, hl]
    · simp -implicitDefEqProofs [c_numbers_b1, p18, c1, c2, m1, m2, m3, m4, m5, m6, q1, q2, q3, q4, q5, q6, hx, hl]
  · simp -implicitDefEqProofs [c_numbers_b1, p18, c1, m1, m2, m3, m4, m5, m6, q1, q2, q3, q4, q5, q6, hx, hl]
theorem p_numbers {c s : Int} {zs : List Int} (h : P "_law_numbers" = some c_numbers) (hz : Sizes zs) (hs : -1000000000 < s ∧ s < 1000000000) :
    pF P con (k + 1) "_law_numbers" [.int c, .int s, intL zs] = .ret (intL (nums c s zs)) [] := by
  rw [pF_at h rfl]
  have hn := hz.len
  obtain ⟨G', e, l, acc, rfl, hacc, _⟩ := for_inv (st := forT (pF P con k) con (.nm 6) c_numbers_b1) (n := zs.length) (f := fun (i : Nat) => D.int (i : Int))
    (I := fun i G => ∃ l acc, G = [some (.int c), some (.int s), some (intL zs), some (.int (numOf c)), some (.int l), some (intL acc), none, none] ∧ acc ++ numsL (numOf c) s i l (zs.drop i) = nums c s zs ∧ acc.length = i)
    (fun i G hi ⟨l, acc, e1, e2, e3⟩ => by
      subst e1
      have hzi : zs[i]? = some zs[i] := List.getElem?_eq_getElem hi
      have hm := List.getElem_mem hi
      refine ⟨_, num_turn hs (by omega) hzi (hz.pos _ hm) (hz.big _ hm) (by omega), ?_⟩
      have ed : zs.drop i = zs[i] :: zs.drop (i + 1) := List.drop_eq_getElem_cons hi
      rw [ed] at e2
      unfold numsL at e2
      split
      · rename_i cc
        rw [if_pos cc] at e2
        exact ⟨_, _, rfl, by simpa using e2, by simp [e3]⟩
      · rename_i cc
        rw [if_neg cc] at e2
        exact ⟨_, _, rfl, by simpa using e2, by simp [e3]⟩)
    (G := [some (.int c), some (.int s), some (intL zs), some (.int (numOf c)), some (.int (numOf c)), some (intL []), none, none]) ⟨_, _, rfl, rfl, rfl⟩
  rw [List.drop_length] at hacc
  simp only [numsL, List.append_nil] at hacc
  subst hacc
  simp -implicitDefEqProofs only [intL, List.map_nil] at e
  have en : numOf c = if -1 - c > c then -1 - c else c := rfl
  simp -implicitDefEqProofs [c_numbers, envD, keepD, show zs.length ≤ 1000000 by omega, ← en, e]
def c_l_cell_at : Fn := ⟨2, 2, [], 
  (.cons (.ife (.cmp .lt (.frz 1) (.blt .len (.cons (.frz 0) .nil))) (
    (.cons (.ret [] (.ix (.frz 0) (.frz 1))) .nil)) ((.kill [0, 1] .nil))) 
  (.cons (.ret [] (.int 0)) .nil))⟩
def cellAt (ns : List Int) (i : Nat) : Int := (ns[i]?).getD 0
theorem p_cell_at {ns : List Int} {i : Nat} (h : P "_law_cell_at" = some c_l_cell_at) : pF P con (k + 1) "_law_cell_at" [.scr ns, .int (i : Int)] = .ret (.int (cellAt ns i)) [] := by
  rw [pF_at h rfl]
  by_cases c : i < ns.length
  · have hx : L2.atI (ns.map D.int) (i : Int) = some (.int (cellAt ns i)) := at_nat (by simp [cellAt, c])
    simp -implicitDefEqProofs [c_l_cell_at, envD, keepD, c, hx]
  · have e : cellAt ns i = 0 := by simp [cellAt, c]
    simp -implicitDefEqProofs [c_l_cell_at, envD, keepD, c, e]
end
end Tv

namespace Tv
open PySem
theorem okDs_flat {ds : List D} (h : ∀ d ∈ ds, d.flat = true) (n : Nat) : D.okDs ds n = true := by
  induction ds with
  | nil => simp [D.okDs]
  | cons d ds ih =>
    have h1 := h d (by simp)
    simp only [D.okDs, Bool.and_eq_true]
    refine ⟨?_, ih fun e he => h e (by simp [he])⟩
    cases d <;> first | rfl | (cases h1; done) | (cases n <;> rfl)
@[simp] theorem okD_60 (ds : List D) : (D.lst ds).okD 60 = D.okDs ds 59 := by simp [D.okD]
@[simp] theorem okDt_60 (ds : List D) : (D.tup ds).okD 60 = D.okDs ds 59 := by simp [D.okD]
theorem eqD_nil (ds : List D) : eqD (.lst ds) (.lst []) = ds.isEmpty := by
  cases ds <;> simp [eqD, D.py, D.pys, PyData.eqv, PyData.eqvAll]
mutual
theorem eqv_py : ∀ (d : D) (n : Nat), d.okD n = true → PyData.eqv d.py d.py = true
  | .non, _, _ => by simp [D.py, PyData.eqv]
  | .bl b, _, _ => by simp [D.py, PyData.eqv]
  | .int i, _, _ => by simp [D.py, PyData.eqv]
  | .str s, _, _ => by simp [D.py, PyData.eqv]
  | .lst xs, n + 1, h => by simp only [D.okD] at h; simp [D.py, PyData.eqv, eqvs_py xs n h]
  | .tup xs, n + 1, h => by simp only [D.okD] at h; simp [D.py, PyData.eqv, eqvs_py xs n h]
  | .lst xs, 0, h => by simp [D.okD] at h
  | .tup xs, 0, h => by simp [D.okD] at h
  | .scr ns, _, h => by simp [D.okD] at h
  | .ktp ds, _, h => by simp [D.okD] at h
  | .dct _ _ _, _, h => by simp [D.okD] at h
  | .obj _ _ _, _, h => by simp [D.okD] at h
  | .exc _ _ _, _, h => by simp [D.okD] at h
theorem eqvs_py : ∀ (ds : List D) (n : Nat), D.okDs ds n = true → PyData.eqvAll (D.pys ds) (D.pys ds) = true
  | [], _, _ => by simp [D.pys, PyData.eqvAll]
  | d :: ds, n, h => by
    simp only [D.okDs, Bool.and_eq_true] at h
    simp [D.pys, PyData.eqvAll, eqv_py d n h.1, eqvs_py ds n h.2]
end
theorem eqD_self {d : D} {n : Nat} (h : d.okD n = true) : eqD d d = true := eqv_py d n h
/-- rows of things -/
abbrev rowD (row : List Int) : D := .lst (row.map .int)
abbrev ranksD (rs : List (List Int)) : D := .lst (rs.map rowD)
abbrev wishD (cs : List Int) (ls : List (List (List Int))) : D := .tup [.lst (cs.map .int), .lst (ls.map ranksD)]
/-- an asker's list -/
structure OkR (n : Nat) (rs : List (List Int)) : Prop where
  len : rs.length ≤ 5
  ne : ∀ r ∈ rs, r ≠ []
  nd : rs.flatten.Nodup
  rg : ∀ x ∈ rs.flatten, 0 ≤ x ∧ x < n
structure Okw (cs : List Int) (ls : List (List (List Int))) : Prop where
  c1 : 1 ≤ cs.length
  c2 : cs.length ≤ 6
  cb : ∀ c ∈ cs, 0 ≤ c ∧ c ≤ 7
  l1 : 1 ≤ ls.length
  l2 : ls.length ≤ 7
  lr : ∀ rs ∈ ls, OkR cs.length rs
theorem nodup_bound : ∀ {n : Nat} {xs : List Int}, xs.Nodup → (∀ x ∈ xs, 0 ≤ x ∧ x < n) → xs.length ≤ n
  | 0, xs, _, h => by
    cases xs with
    | nil => simp
    | cons x xs => have := h x (by simp); omega
  | n + 1, xs, nd, h => by
    by_cases m : (n : Int) ∈ xs
    · have h1 := nodup_bound (n := n) (xs := xs.erase (n : Int)) (nd.erase _) fun x hx => by
        have hx' := List.mem_of_mem_erase hx
        have hne : x ≠ n := fun e => by
          subst e
          exact (List.Nodup.not_mem_erase nd) hx
        have := h x hx'
        omega
      rw [List.length_erase_of_mem m] at h1
      have := List.length_pos_of_mem m
      omega
    · have h1 := nodup_bound (n := n) (xs := xs) nd fun x hx => by
        have hne : x ≠ n := fun e => m (e ▸ hx)
        have := h x hx
        omega
      omega
theorem okD_row (row : List Int) (n : Nat) : (rowD row).okD (n + 1) = true := by
  show D.okDs _ n = true
  exact okDs_flat (fun d hd => by obtain ⟨i, _, rfl⟩ := List.mem_map.mp hd; rfl) n
theorem okD_ranks (rs : List (List Int)) (n : Nat) : (ranksD rs).okD (n + 2) = true := by
  show D.okDs _ (n + 1) = true
  induction rs with
  | nil => rfl
  | cons r rs ih =>
    rw [List.map_cons]
    simp only [D.okDs, Bool.and_eq_true]
    exact ⟨okD_row r n, ih⟩
theorem okD_wish (cs : List Int) (ls : List (List (List Int))) (n : Nat) : (wishD cs ls).okD (n + 4) = true := by
  have h1 : (D.lst (cs.map .int)).okD (n + 3) = true := okD_row cs (n + 2)
  have h2 : (D.lst (ls.map ranksD)).okD (n + 3) = true := by
    show D.okDs _ (n + 2) = true
    induction ls with
    | nil => rfl
    | cons r rs ih =>
      rw [List.map_cons]
      simp only [D.okDs, Bool.and_eq_true]
      exact ⟨okD_ranks r n, ih⟩
  show D.okDs [_, _] (n + 3) = true
  simp only [D.okDs, h1, h2, Bool.and_self]
theorem eqX_self {d : D} (h : d.okD 60 = true) : eqX d d = some true := by
  unfold eqX; rw [h, eqD_self h]; rfl
theorem eqX_wish (cs : List Int) (ls : List (List (List Int))) : eqX (wishD cs ls) (wishD cs ls) = some true := eqX_self (okD_wish _ _ 56)
theorem eqX_nil {ds : List D} (h : ∀ d ∈ ds, d.flat = true) : eqX (.lst ds) (.lst []) = some ds.isEmpty := by
  unfold eqX
  rw [okD_60, okDs_flat h, okD_60, eqD_nil]
  simp [D.okDs]
@[simp] theorem eqX_00 : eqX (.lst []) (.lst []) = some true := eqX_nil (by simp)
theorem flat_ints (xs : List Int) : ∀ d ∈ xs.map D.int, d.flat = true := fun d hd => by obtain ⟨i, _, rfl⟩ := List.mem_map.mp hd; rfl
theorem eqX_rnil (xs : List Int) : eqX (intL xs) (.lst []) = some xs.isEmpty := by
  rw [eqX_nil (flat_ints xs)]; cases xs <;> rfl
theorem in_intL (i : Int) (xs : List Int) : inD (.int i) (intL xs) = some (decide (i ∈ xs)) := by
  simp only [inD, inQ, qD]
  have f : ((D.int i).flat && (xs.map D.int).all D.flat) = true := by
    rw [Bool.and_eq_true, List.all_eq_true]
    exact ⟨rfl, flat_ints xs⟩
  rw [if_pos f]
  congr 1
  rw [List.any_map, Bool.eq_iff_iff, List.any_eq_true, decide_eq_true_eq]
  constructor
  · rintro ⟨t, ht, h⟩
    simp only [Function.comp, eqD_ii, decide_eq_true_eq] at h
    rw [← h]; exact ht
  · intro h
    exact ⟨i, h, by simp [eqD_ii]⟩
/-- the things of a rank -/
def rowOf (pl : List Int) (n : Nat) (r : Int) : List Int := ((List.range n).filter fun i => decide (pl[i]? = some r)).map fun (i : Nat) => (i : Int)
def rowsOf (b : Bool) (pl : List Int) (n : Nat) : List Int → List (List Int)
  | [] => []
  | r :: rs => if rowOf pl n r = [] then rowsOf b pl n rs else (if b then (rowOf pl n r).reverse else rowOf pl n r) :: rowsOf b pl n rs
theorem rowsOf_len (b : Bool) (pl : List Int) (n : Nat) : ∀ rs, (rowsOf b pl n rs).length ≤ rs.length
  | [] => Nat.le_refl _
  | r :: rs => by
    have := rowsOf_len b pl n rs
    unfold rowsOf
    split <;> simp <;> omega
theorem rowsOf_ne (b : Bool) (pl : List Int) (n : Nat) : ∀ rs, ∀ r ∈ rowsOf b pl n rs, r ≠ []
  | [], r, h => by simp [rowsOf] at h
  | x :: rs, r, h => by
    unfold rowsOf at h
    split at h
    · exact rowsOf_ne b pl n rs r h
    · rename_i c
      rcases List.mem_cons.mp h with rfl | h
      · cases b <;> simpa using c
      · exact rowsOf_ne b pl n rs r h
theorem mem_rowOf {pl : List Int} {n : Nat} {r x : Int} (h : x ∈ rowOf pl n r) : ∃ i : Nat, i < n ∧ x = i ∧ pl[i]? = some r := by
  unfold rowOf at h
  obtain ⟨i, hi, rfl⟩ := List.mem_map.mp h
  have := List.mem_filter.mp hi
  exact ⟨i, List.mem_range.mp this.1, rfl, by simpa using this.2⟩
theorem rowOf_nodup (pl : List Int) (n : Nat) (r : Int) : (rowOf pl n r).Nodup := by
  unfold rowOf
  refine List.Pairwise.map _ ?_ (List.nodup_range.filter _)
  intro a b h e
  exact h (by omega)
theorem mem_rowsOf {b : Bool} {pl : List Int} {n : Nat} {x : Int} : ∀ {rs : List Int}, x ∈ (rowsOf b pl n rs).flatten → ∃ r ∈ rs, x ∈ rowOf pl n r
  | [], h => by simp [rowsOf] at h
  | r :: rs, h => by
    unfold rowsOf at h
    split at h
    · obtain ⟨r', h1, h2⟩ := mem_rowsOf h
      exact ⟨r', by simp [h1], h2⟩
    · rw [List.flatten_cons, List.mem_append] at h
      rcases h with h | h
      · exact ⟨r, by simp, by cases b <;> simpa using h⟩
      · obtain ⟨r', h1, h2⟩ := mem_rowsOf h
        exact ⟨r', by simp [h1], h2⟩
theorem rowsOf_nodup {b : Bool} {pl : List Int} {n : Nat} : ∀ {rs : List Int}, rs.Nodup → (rowsOf b pl n rs).flatten.Nodup
  | [], _ => by simp [rowsOf]
  | r :: rs, nd => by
    rw [List.nodup_cons] at nd
    have ih := rowsOf_nodup (b := b) (pl := pl) (n := n) nd.2
    unfold rowsOf
    split
    · exact ih
    · rw [List.flatten_cons, List.nodup_append]
      refine ⟨?_, ih, ?_⟩
      · cases b
        · simpa using rowOf_nodup pl n r
        · exact List.pairwise_reverse.mpr ((rowOf_nodup pl n r).imp fun h => Ne.symm h)
      · intro x hx y hy e
        subst e
        have hx' : x ∈ rowOf pl n r := by cases b <;> simpa using hx
        obtain ⟨r', h1, h2⟩ := mem_rowsOf hy
        obtain ⟨i, _, ei, e1⟩ := mem_rowOf hx'
        obtain ⟨j, _, ej, e2⟩ := mem_rowOf h2
        have : i = j := by omega
        subst this
        rw [e1] at e2
        injection e2 with e3
        subst e3
        exact nd.1 h1
def ranksFrom (mr : Nat) : List Int := (List.range mr).map fun (i : Nat) => 1 + (i : Int)
theorem ranksFrom_nodup (mr : Nat) : (ranksFrom mr).Nodup := by
  unfold ranksFrom
  refine List.Pairwise.map _ ?_ List.nodup_range
  intro a b h e
  exact h (by omega)
theorem rowsOf_okR (b : Bool) (pl : List Int) (n mr : Nat) (h : mr ≤ 5) : OkR n (rowsOf b pl n (ranksFrom mr)) where
  len := Nat.le_trans (rowsOf_len _ _ _ _) (by unfold ranksFrom; simpa using h)
  ne := rowsOf_ne _ _ _ _
  nd := rowsOf_nodup (ranksFrom_nodup mr)
  rg := fun x hx => by
    obtain ⟨r, _, h2⟩ := mem_rowsOf hx
    obtain ⟨i, hi, rfl, _⟩ := mem_rowOf h2
    omega
/-- the numbers of an asker's places -/
abbrev zsA (mt mr : Nat) : List Int := List.replicate mt ((mr : Int) + 1) ++ [2]
def placesOf (ns : List Int) (at_ asker mt mr : Nat) : List Int := nums (cellAt ns (at_ + 1 + asker)) (11 * at_ + 3 * asker + 1) (zsA mt mr)
theorem zsA_len (mt mr : Nat) : (zsA mt mr).length = mt + 1 := by simp [zsA]
theorem zsA_pos (mt mr : Nat) : ∀ z ∈ zsA mt mr, 0 < z := fun z hz => by
  rcases List.mem_append.mp hz with h | h
  · have := (List.mem_replicate.mp h).2; omega
  · simp at h; omega
theorem zsA_sizes {mt mr : Nat} (h1 : mt ≤ 6) (h2 : mr ≤ 5) : Sizes (zsA mt mr) where
  pos := zsA_pos mt mr
  big := fun z hz => by
    rcases List.mem_append.mp hz with h | h
    · have := (List.mem_replicate.mp h).2; omega
    · simp at h; omega
  len := by rw [zsA_len]; omega
theorem placesOf_len (ns : List Int) (at_ asker mt mr : Nat) : (placesOf ns at_ asker mt mr).length = mt + 1 := by
  unfold placesOf; rw [nums_length, zsA_len]
theorem placesOf_last (ns : List Int) (at_ asker mt mr : Nat) : ∃ l, (placesOf ns at_ asker mt mr).getLast? = some l ∧ (l = 0 ∨ l = 1) := by
  obtain ⟨d, h1, h2, h3⟩ := nums_get (c := cellAt ns (at_ + 1 + asker)) (s := 11 * at_ + 3 * asker + 1) (zs := zsA mt mr) (i := mt) (z := 2) (zsA_pos mt mr) (by simp [zsA])
  refine ⟨d, ?_, by omega⟩
  rw [List.getLast?_eq_getElem?, placesOf_len]
  exact h1
def askerL (ns : List Int) (at_ mt mr n asker : Nat) : List (List Int) := rowsOf (decide ((placesOf ns at_ asker mt mr).getLast? = some 1)) (placesOf ns at_ asker mt mr) n (ranksFrom mr)
theorem askerL_ok (ns : List Int) (at_ mt mr n asker : Nat) (h : mr ≤ 5) : OkR n (askerL ns at_ mt mr n asker) := rowsOf_okR _ _ _ _ h
abbrev zsW (mt ma : Nat) : List Int := [(mt : Int), (ma : Int)] ++ List.replicate mt 11
theorem zsW_pos {mt ma : Nat} (h1 : 1 ≤ mt) (h2 : 1 ≤ ma) : ∀ z ∈ zsW mt ma, 0 < z := fun z hz => by
  rcases List.mem_append.mp hz with h | h
  · simp at h; omega
  · have := (List.mem_replicate.mp h).2; omega
theorem zsW_sizes {mt ma : Nat} (h1 : 1 ≤ mt) (h2 : 1 ≤ ma) (h3 : mt ≤ 6) (h4 : ma ≤ 7) : Sizes (zsW mt ma) where
  pos := zsW_pos h1 h2
  big := fun z hz => by
    rcases List.mem_append.mp hz with h | h
    · simp at h; omega
    · have := (List.mem_replicate.mp h).2; omega
  len := by simp; omega
def tabC : List Int := [1, 1, 2, 0, 3, 7, 1, 4, 5, 6, 1]
def tabAt (d : Int) : Int := tabC.getD d.toNat 0
theorem tabAt_rg (d : Int) : 0 ≤ tabAt d ∧ tabAt d ≤ 7 := by
  have : ∀ c ∈ tabC, 0 ≤ c ∧ c ≤ 7 := by decide
  unfold tabAt
  rw [List.getD_eq_getElem?_getD]
  cases h : tabC[d.toNat]? with
  | none => simp
  | some c => exact this c (List.mem_of_getElem? h)
def k_copies : List Nat := [99, 111, 112, 105, 101, 115]
def c_is_whole : Fn := ⟨1, 1, [], 
  (.cons (.ret [] (.and (.isi (.frz 0) .int) (.not (.isi (.frz 0) .bool)))) .nil)⟩

def c_need_row : Fn := ⟨3, 3, [], 
  (.cons (.ife (.or (.not (.isi (.frz 1) .list)) (.not (.cmp2 .le .le (.int 1) (.blt .len (.cons (.frz 1) .nil)) (.frz 2)))) (
    (.cons (.dead) .nil)) ((.kill [0, 1, 2] .nil))) .nil)⟩

def c_is_many : Fn := ⟨1, 1, [], 
  (.cons (.ret [] (.and (.call "is_whole" (.cons (.frz 0) .nil)) (.cmp2 .le .le (.int 0) (.frz 0) (.glb "MOST_COPIES")))) .nil)⟩

def c_is_thing : Fn := ⟨2, 2, [], 
  (.cons (.ret [] (.and (.call "is_whole" (.cons (.frz 0) .nil)) (.cmp2 .le .lt (.int 0) (.frz 0) (.frz 1)))) .nil)⟩

def c_are_ranks_b1 : Ss := 
      (.cons (.ife (.or (.not (.call "is_thing" (.cons (.frz 4) (.cons (.frz 1) .nil)))) (.cmp .isIn (.frz 4) (.var 2))) (
        (.cons (.ret [] (.bl false)) .nil)) (.nil)) 
      (.cons (.mut .append (.nm 2) (.cons (.frz 4) .nil)) (.kill [4] .nil)))
def c_are_ranks_b2 : Ss := 
    (.cons (.ife (.or (.not (.isi (.frz 3) .list)) (.cmp .eq (.frz 3) (.lst .nil))) (
      (.cons (.ret [] (.bl false)) .nil)) (.nil)) 
    (.cons (.for (.nm 4) (.seq (.frz 3)) c_are_ranks_b1) (.kill [3] .nil)))
def c_are_ranks : Fn := ⟨2, 5, [], 
  (.cons (.ife (.or (.not (.isi (.frz 0) .list)) (.cmp .gt (.blt .len (.cons (.frz 0) .nil)) (.glb "MOST_RANKS"))) (
    (.cons (.ret [] (.bl false)) .nil)) (.nil)) 
  (.cons (.set 2 (.lst .nil)) 
  (.cons (.for (.nm 3) (.seq (.frz 0)) c_are_ranks_b2) 
  (.cons (.ret [] (.bl true)) .nil))))⟩

def c_look_at_wishes_b1 : Ss := 
    (.cons (.ife (.not (.call "is_many" (.cons (.frz 4) .nil))) (
      (.cons (.dead) .nil)) ((.kill [3, 4] .nil))) .nil)
def c_look_at_wishes_b2 : Ss := 
    (.cons (.ife (.not (.call "are_ranks" (.cons (.frz 5) (.cons (.blt .len (.cons (.frz 1) .nil)) .nil)))) (
      (.cons (.dead) .nil)) ((.kill [3, 5] .nil))) .nil)
def c_look_at_wishes : Fn := ⟨1, 6, [], 
  (.cons (.ife (.or (.not (.isi (.frz 0) .tuple)) (.cmp .ne (.blt .len (.cons (.frz 0) .nil)) (.int 2))) (
    (.cons (.dead) .nil)) (.nil)) 
  (.cons (.setT [1, 2] (.frz 0)) (.kill [0] 
  (.cons (.ex (.call "need_row" (.cons (.str k_copies) (.cons (.frz 1) (.cons (.glb "MOST_THINGS") .nil))))) 
  (.cons (.for (.tp [3, 4]) (.enum (.frz 1)) c_look_at_wishes_b1) 
  (.cons (.ex (.call "need_row" (.cons (.str [108, 105, 115, 116, 115]) (.cons (.frz 2) (.cons (.glb "MOST_ASKERS") .nil))))) 
  (.cons (.for (.tp [3, 5]) (.enum (.frz 2)) c_look_at_wishes_b2) (.kill [1, 2] .nil))))))))⟩

def c_l_wishes_e1 : E := .ix (.lst (.cons (.int 1) (.cons (.int 1) (.cons (.int 2) (.cons (.int 0) (.cons (.int 3) (.cons (.int 7) (.cons (.int 1) (.cons (.int 4) (.cons (.int 5) (.cons (.int 6) (.cons (.int 1) .nil)))))))))))) (.frz 14)
def c_l_wishes_e2 : E := .frz 16
def c_l_wishes_b1 : Ss := 
      (.cons (.setF 15 (.lc [16] (.nm 16) (.rng1 (.blt .len (.cons (.var 7) .nil))) (.so (.cmp .eq (.ix (.frz 11) (.frz 16)) (.frz 13))) c_l_wishes_e2)) (.kill [13] 
      (.cons (.ife (.cmp .ne (.frz 15) (.lst .nil)) (
        (.cons (.mut .append (.nm 12) (.cons (.ix (.lst (.cons (.frz 15) (.cons (.rev (.frz 15)) .nil))) (.ix (.frz 11) (.neg (.int 1)))) .nil)) (.kill [15] .nil))) ((.kill [15] .nil))) .nil)))
def c_l_wishes_b2 : Ss := 
    (.cons (.setF 10 (.call "_law_cell_at" (.cons (.frz 0) (.cons (.bin .add (.bin .add (.frz 1) (.int 1)) (.frz 9)) .nil)))) 
    (.cons (.setF 11 (.call "_law_numbers" (.cons (.frz 10) (.cons (.bin .add (.bin .add (.bin .mul (.int 11) (.frz 1)) (.bin .mul (.int 3) (.frz 9))) (.int 1)) (.cons (.bin .add (.bin .mul (.lst (.cons (.bin .add (.frz 4) (.int 1)) .nil)) (.frz 2)) (.lst (.cons (.int 2) .nil))) .nil))))) (.kill [9, 10] 
    (.cons (.set 12 (.lst .nil)) 
    (.cons (.for (.nm 13) (.rng2 (.int 1) (.bin .add (.frz 4) (.int 1))) c_l_wishes_b1) (.kill [11] 
    (.cons (.mut .append (.nm 8) (.cons (.mov 12) .nil)) (.kill [12] .nil))))))))
def c_l_wishes : Fn := ⟨5, 17, [], 
  (.cons (.setF 5 (.bin .add (.lst (.cons (.frz 2) (.cons (.frz 3) .nil))) (.bin .mul (.lst (.cons (.int 11) .nil)) (.frz 2)))) 
  (.cons (.setF 6 (.call "_law_numbers" (.cons (.call "_law_cell_at" (.cons (.frz 0) (.cons (.frz 1) .nil))) (.cons (.frz 1) (.cons (.frz 5) .nil))))) 
  (.cons (.set 7 (.lc [14] (.nm 14) (.seq (.sl (.frz 6) (.so (.int 2)) (.so (.bin .add (.int 3) (.ix (.frz 6) (.int 0)))))) .no c_l_wishes_e1)) 
  (.cons (.set 8 (.lst .nil)) 
  (.cons (.for (.nm 9) (.rng1 (.bin .add (.int 1) (.ix (.frz 6) (.int 1)))) c_l_wishes_b2) 
  (.cons (.ret [] (.tup (.cons (.mov 7) (.cons (.mov 8) .nil)))) .nil))))))⟩


section
variable {P : String → Option Fn} {con : String → Option D} {k : Nat}
theorem row_lc {cl : PCalls} {pl : List Int} {r : Int} {n : Nat} {a0 a1 a2 a3 a4 a5 a6 a7 a8 a9 a10 a12 a14 a15 a16 : Option D} (hn : n ≤ pl.length) :
    lcP (lcT cl con [16] (.nm 16) (.so (.cmp .eq (.ix (.frz 11) (.frz 16)) (.frz 13))) c_l_wishes_e2 [a0, a1, a2, a3, a4, a5, a6, a7, a8, a9, a10, some (intL pl), a12, some (.int r), a14, a15, a16]) ((List.range n).map fun (i : Nat) => D.int (i : Int)) = .ok ((rowOf pl n r).map .int) := by
  have e : (rowOf pl n r).map D.int = ((List.range n).filter fun i => decide (pl[i]? = some r)).map fun (i : Nat) => D.int (i : Int) := by
    unfold rowOf; rw [List.map_map]; rfl
  rw [e]
  refine lc_filter fun i hi => ?_
  have hi' : i < n := List.mem_range.mp hi
  have hp : pl[i]? = some pl[i] := List.getElem?_eq_getElem (by omega)
  have hx : L2.atI (pl.map D.int) (i : Int) = some (.int pl[i]) := at_nat (by simp [hp])
  by_cases c : pl[i] = r
  · simp -implicitDefEqProofs [c_l_wishes_e2, hx, hp, c]
  · simp -implicitDefEqProofs [c_l_wishes_e2, hx, hp, c]
def addR (b : Bool) (row : List Int) : List D := if row = [] then [] else [rowD (if b then row.reverse else row)]
theorem w_turn {cl : PCalls} {pl cs : List Int} {r l : Int} {rk : List D} {a0 a1 a2 a3 a4 a5 a6 a8 a9 a10 a14 a16 : Option D} (hn : cs.length ≤ pl.length) (h6 : cs.length ≤ 6) (hl : pl.getLast? = some l) (hl2 : l = 0 ∨ l = 1) (hr : rk.length ≤ 1000) :
    forT cl con (.nm 13) c_l_wishes_b1 (.int r) [a0, a1, a2, a3, a4, a5, a6, some (intL cs), a8, a9, a10, some (intL pl), some (.lst rk), none, a14, none, a16] =
      .nx [a0, a1, a2, a3, a4, a5, a6, some (intL cs), a8, a9, a10, some (intL pl), some (.lst (rk ++ addR (decide (pl.getLast? = some 1)) (rowOf pl cs.length r))), none, a14, none, a16] := by
  have row := row_lc (con := con) (cl := cl) (r := r) (a0 := a0) (a1 := a1) (a2 := a2) (a3 := a3) (a4 := a4) (a5 := a5) (a6 := a6) (a7 := some (intL cs)) (a8 := a8) (a9 := a9) (a10 := a10) (a12 := some (.lst rk)) (a14 := a14) (a15 := none) (a16 := a16) hn
  have hlast : L2.atI (pl.map D.int) (-1) = some (.int l) := at_last (by rw [List.getLast?_map, hl]; rfl)
  have c6 : cs.length ≤ 1000000 := by omega
  have hk : rk.length < 16000000 := by omega
  have hnl : cs.length ≤ 16000000 := by omega
  rw [hl]
  obtain ⟨rw0, e0⟩ : ∃ rw0, rowOf pl cs.length r = rw0 := ⟨_, rfl⟩
  rw [e0] at row ⊢
  have hnil := eqX_rnil rw0
  by_cases c : rw0 = []
  · subst c
    simp -implicitDefEqProofs only [List.map_nil] at row
    simp -implicitDefEqProofs [c_l_wishes_b1, c6, hnl, row, addR]
  · have c' : rw0.isEmpty = false := by simpa using c
    rcases hl2 with rfl | rfl
    · simp -implicitDefEqProofs [c_l_wishes_b1, c6, hnl, row, hnil, c', hlast, hk, addR, c]
    · simp -implicitDefEqProofs [c_l_wishes_b1, c6, hnl, row, hnil, c', hlast, hk, addR, c]
theorem addR_rows (b : Bool) (pl : List Int) (n : Nat) : ∀ rs : List Int, (rs.flatMap fun r => addR b (rowOf pl n r)) = (rowsOf b pl n rs).map rowD
  | [] => rfl
  | r :: rs => by
    rw [List.flatMap_cons, addR_rows b pl n rs]
    unfold addR
    conv => rhs; unfold rowsOf
    split
    · rfl
    · rfl
/-- a loop that appends some at each turn -/
theorem for_flat {α : Type} {st : D → PEnv → PS} {inj : α → D} {enc : List D → PEnv} {f : α → List D} {m : Nat} (hf : ∀ x, (f x).length ≤ m) : ∀ {xs : List α} {acc : List D}, acc.length + m * xs.length ≤ 1000 → (∀ x ∈ xs, ∀ acc : List D, acc.length ≤ 1000 → st (inj x) (enc acc) = .nx (enc (acc ++ f x))) → forP st (xs.map inj) (enc acc) = .nx (enc (acc ++ xs.flatMap f))
  | [], acc, _, _ => by simp
  | x :: xs, acc, l, h => by
    simp only [List.length_cons, Nat.mul_add, Nat.mul_one] at l
    have hx := hf x
    rw [List.map_cons, forP_nx (h x (by simp) acc (by omega)), for_flat hf (xs := xs) (acc := acc ++ f x) (by simp only [List.length_append]; omega) fun y hy => h y (by simp [hy])]
    simp
theorem w_ranks {cl : PCalls} {pl cs : List Int} {l : Int} {mr : Nat} {a0 a1 a2 a3 a4 a5 a6 a8 a9 a10 a14 a16 : Option D} (hm : mr ≤ 100) (hn : cs.length ≤ pl.length) (h6 : cs.length ≤ 6) (hl : pl.getLast? = some l) (hl2 : l = 0 ∨ l = 1) :
    forP (forT cl con (.nm 13) c_l_wishes_b1) ((List.range mr).map fun (i : Nat) => D.int (1 + (i : Int))) [a0, a1, a2, a3, a4, a5, a6, some (intL cs), a8, a9, a10, some (intL pl), some (.lst []), none, a14, none, a16] =
      .nx [a0, a1, a2, a3, a4, a5, a6, some (intL cs), a8, a9, a10, some (intL pl), some (ranksD (rowsOf (decide (pl.getLast? = some 1)) pl cs.length (ranksFrom mr))), none, a14, none, a16] := by
  have h := for_flat (st := forT cl con (.nm 13) c_l_wishes_b1) (inj := D.int) (enc := fun rk => [a0, a1, a2, a3, a4, a5, a6, some (intL cs), a8, a9, a10, some (intL pl), some (.lst rk), none, a14, none, a16]) (f := fun r => addR (decide (pl.getLast? = some 1)) (rowOf pl cs.length r)) (m := 1)
    (fun r => by unfold addR; split <;> simp) (xs := ranksFrom mr) (acc := []) (by unfold ranksFrom; simp; omega) (fun r _ acc ha => w_turn hn h6 hl hl2 ha)
  rw [addR_rows, List.nil_append] at h
  have e : (ranksFrom mr).map D.int = (List.range mr).map fun (i : Nat) => D.int (1 + (i : Int)) := by unfold ranksFrom; rw [List.map_map]; rfl
  rw [← e]; exact h
theorem w_asker (hp : P "_law_cell_at" = some c_l_cell_at) (hq : P "_law_numbers" = some c_numbers) {ns cs : List Int} {at_ mt ma mr asker : Nat} {ls : List D} {a5 a6 a14 a16 : Option D}
    (h0 : at_ ≤ 1000) (h1 : asker ≤ 100) (h2 : mt ≤ 6) (h3 : mr ≤ 5) (hn : cs.length ≤ mt) (hl : ls.length ≤ 1000) :
    forT (pF P con (k + 1)) con (.nm 9) c_l_wishes_b2 (.int (asker : Int)) [some (.scr ns), some (.int at_), some (.int mt), some (.int ma), some (.int mr), a5, a6, some (intL cs), some (.lst ls), none, none, none, none, none, a14, none, a16] =
      .nx [some (.scr ns), some (.int at_), some (.int mt), some (.int ma), some (.int mr), a5, a6, some (intL cs), some (.lst (ls ++ [ranksD (askerL ns at_ mt mr cs.length asker)])), none, none, none, none, none, a14, none, a16] := by
  obtain ⟨l, hl1, hl2⟩ := placesOf_last ns at_ asker mt mr
  have hpl := placesOf_len ns at_ asker mt mr
  have e1 := p_cell_at (P := P) (con := con) (k := k) (ns := ns) (i := at_ + 1 + asker) hp
  have e2 := p_numbers (P := P) (con := con) (k := k) (c := cellAt ns (at_ + 1 + asker)) (s := 11 * at_ + 3 * asker + 1) hq (zsA_sizes h2 h3) (by omega)
  have e3 := w_ranks (con := con) (cl := pF P con (k + 1)) (pl := placesOf ns at_ asker mt mr) (cs := cs) (mr := mr) (a0 := some (.scr ns)) (a1 := some (.int at_)) (a2 := some (.int mt)) (a3 := some (.int ma)) (a4 := some (.int mr)) (a5 := a5) (a6 := a6) (a8 := some (.lst ls)) (a9 := none) (a10 := none) (a14 := a14) (a16 := a16) (by omega) (by omega) (by omega) hl1 hl2
  have m1 : binD .mul (.int 11) (.int at_) = some (.int (11 * at_)) := mulI64 (by omega) (by omega)
  have m2 : binD .mul (.int 3) (.int asker) = some (.int (3 * asker)) := mulI64 (by omega) (by omega)
  have p63 : (2 : Int) ^ 63 = 9223372036854775808 := by decide
  have m3 : binD .mul (.lst [.int ((mr : Int) + 1)]) (.int mt) = some (.lst (List.replicate mt (.int ((mr : Int) + 1)))) := by
    rw [mul_li, if_pos ⟨by omega, by omega, by simp; omega⟩]
    simp
  have z : intL (zsA mt mr) = .lst (List.replicate mt (.int ((mr : Int) + 1)) ++ [.int 2]) := by simp [zsA, intL]
  have ei : ((at_ + 1 + asker : Nat) : Int) = (at_ : Int) + 1 + asker := by omega
  rw [z] at e2
  rw [ei] at e1
  have e4 : nums (cellAt ns (at_ + 1 + asker)) (11 * at_ + 3 * asker + 1) (zsA mt mr) = placesOf ns at_ asker mt mr := rfl
  rw [e4] at e2
  have ll : mt + 1 ≤ 16777216 := by omega
  have l2 : ls.length < 16000000 := by omega
  have er : rowsOf (decide ((placesOf ns at_ asker mt mr).getLast? = some 1)) (placesOf ns at_ asker mt mr) cs.length (ranksFrom mr) = askerL ns at_ mt mr cs.length asker := rfl
  rw [er] at e3
  generalize placesOf ns at_ asker mt mr = pl at *
  generalize askerL ns at_ mt mr cs.length asker = al at *
  have r2 : rng2K (.ok (.int 1)) (.ok (.int ((mr : Int) + 1))) = .ok ((List.range mr).map fun (i : Nat) => D.int (1 + (i : Int))) := by
    rw [rng2_int (by omega) (by omega) (by omega) (by omega), show ((mr : Int) + 1 - 1).toNat = mr by omega]
  simp -implicitDefEqProofs [c_l_wishes_b2, e1, m1, m2, m3, ll, e2, r2, e3, l2]
/-- wishes drawn -/
theorem p_wishes (hp : P "_law_cell_at" = some c_l_cell_at) (hq : P "_law_numbers" = some c_numbers) (hw : P "_law_wishes" = some c_l_wishes) {ns : List Int} {at_ mt ma mr : Nat}
    (h0 : at_ ≤ 1000) (h1 : 1 ≤ mt) (h2 : mt ≤ 6) (h3 : 1 ≤ ma) (h4 : ma ≤ 7) (h5 : mr ≤ 5) :
    ∃ cs ls, pF P con (k + 2) "_law_wishes" [.scr ns, .int at_, .int mt, .int ma, .int mr] = .ret (wishD cs ls) [] ∧ Okw cs ls ∧ cs.length ≤ mt ∧ ls.length ≤ ma ∧ ∀ rs ∈ ls, rs.length ≤ mr := by
  have e1 := p_cell_at (P := P) (con := con) (k := k) (ns := ns) (i := at_) hp
  have e2 := p_numbers (P := P) (con := con) (k := k) (c := cellAt ns at_) (s := at_) hq (zsW_sizes h1 h3 h2 h4) (by omega)
  obtain ⟨n0, hn0⟩ : ∃ n0, n0 = nums (cellAt ns at_) at_ (zsW mt ma) := ⟨_, rfl⟩
  have hlen : n0.length = mt + 2 := by rw [hn0, nums_length]; simp
  have hget : ∀ (i : Nat) (z : Int), (zsW mt ma)[i]? = some z → ∃ d, n0[i]? = some d ∧ 0 ≤ d ∧ d < z := fun i z hz => by rw [hn0]; exact nums_get (zsW_pos h1 h3) hz
  rw [← hn0] at e2
  obtain ⟨d0, g0, p0, q0⟩ := hget 0 _ rfl
  obtain ⟨d1, g1, p1, q1⟩ := hget 1 _ rfl
  have hrest : ∀ d ∈ n0.drop 2, 0 ≤ d ∧ d < 11 := fun d hd => by
    obtain ⟨i, hi, rfl⟩ := List.mem_iff_getElem.mp hd
    rw [List.length_drop, hlen] at hi
    obtain ⟨d', g', p', q'⟩ := hget (2 + i) 11 (by rw [show 2 + i = i + 2 by omega]; simp [zsW, List.getElem?_replicate]; omega)
    rw [List.getElem_drop]
    rw [List.getElem?_eq_getElem (by omega)] at g'
    injection g' with g'
    omega
  obtain ⟨x0, rfl⟩ : ∃ x0 : Nat, d0 = x0 := ⟨d0.toNat, by omega⟩
  obtain ⟨x1, rfl⟩ : ∃ x1 : Nat, d1 = x1 := ⟨d1.toNat, by omega⟩
  obtain ⟨sl, hsl⟩ : ∃ sl, sl = (n0.drop 2).take (x0 + 1) := ⟨_, rfl⟩
  have hsl2 : sl.length = x0 + 1 := by rw [hsl, List.length_take, List.length_drop, hlen]; omega
  have hsl3 : ∀ d ∈ sl, 0 ≤ d ∧ d < 11 := fun d hd => hrest d (List.mem_of_mem_take (hsl ▸ hd))
  have cut : cutL (n0.map D.int) (some 2) (some (3 + (x0 : Int))) = sl.map .int := by
    rw [cutL_map, cutL_two (by omega) (by omega), hsl]
    rw [show (3 + (x0 : Int) - 2).toNat = x0 + 1 by omega]; rfl
  have lc : ∀ (a5 a6 : Option D), lcP (lcT (pF P con (k + 1)) con [14] (.nm 14) .no c_l_wishes_e1 [some (.scr ns), some (.int at_), some (.int mt), some (.int ma), some (.int mr), a5, a6, none, none, none, none, none, none, none, none, none, none]) (sl.map .int) = .ok ((sl.map tabAt).map .int) := fun a5 a6 => by
    rw [List.map_map]
    refine lc_map fun d hd => ?_
    have hd' := hsl3 d hd
    have hx : L2.atI [D.int 1, D.int 1, D.int 2, D.int 0, D.int 3, D.int 7, D.int 1, D.int 4, D.int 5, D.int 6, D.int 1] d = some (.int (tabAt d)) := by
      refine at_int hd'.1 ?_
      have : (tabC.map D.int)[d.toNat]? = some (.int (tabAt d)) := by
        unfold tabAt
        rw [List.getElem?_map, List.getD_eq_getElem?_getD, List.getElem?_eq_getElem (show d.toNat < tabC.length by show d.toNat < 11; omega)]
        rfl
      exact this
    simp -implicitDefEqProofs [c_l_wishes_e1, hx]
  have hcs : (sl.map tabAt).length = x0 + 1 := by rw [List.length_map, hsl2]
  have hcb : ∀ c ∈ sl.map tabAt, 0 ≤ c ∧ c ≤ 7 := fun c hc => by obtain ⟨d, hd, rfl⟩ := List.mem_map.mp hc; exact tabAt_rg d
  generalize sl.map tabAt = cs at *
  obtain ⟨G', e3, ls, rfl, hll, hok, hmr⟩ := for_inv (st := forT (pF P con (k + 1)) con (.nm 9) c_l_wishes_b2) (n := 1 + x1) (f := fun (i : Nat) => D.int (i : Int))
    (I := fun i G => ∃ ls : List (List (List Int)), G = [some (.scr ns), some (.int at_), some (.int mt), some (.int ma), some (.int mr), some (intL (zsW mt ma)), some (intL n0), some (intL cs), some (.lst (ls.map ranksD)), none, none, none, none, none, none, none, none] ∧ ls.length = i ∧ (∀ rs ∈ ls, OkR cs.length rs) ∧ ∀ rs ∈ ls, rs.length ≤ mr)
    (fun i G hi ⟨ls, e1, e2, e3, e4⟩ => by
      subst e1
      refine ⟨_, w_asker hp hq h0 (by omega) h2 h5 (by omega) (by rw [List.length_map]; omega), ls ++ [askerL ns at_ mt mr cs.length i], by rw [List.map_append]; rfl, by simp [e2], fun rs hrs => ?_, fun rs hrs => ?_⟩
      · rcases List.mem_append.mp hrs with h | h
        · exact e3 rs h
        · simp at h; subst h; simpa using askerL_ok ns at_ mt mr cs.length i h5
      · rcases List.mem_append.mp hrs with h | h
        · exact e4 rs h
        · simp at h; subst h; exact Nat.le_trans (rowsOf_len _ _ _ _) (by unfold ranksFrom; simp))
    (G := [some (.scr ns), some (.int at_), some (.int mt), some (.int ma), some (.int mr), some (intL (zsW mt ma)), some (intL n0), some (intL cs), some (.lst []), none, none, none, none, none, none, none, none]) ⟨[], rfl, rfl, by simp, by simp⟩
  refine ⟨cs, ls, ?_, ⟨by omega, by omega, fun c hc => ?_, by omega, by omega, hok⟩, by omega, by omega, hmr⟩
  · rw [pF_at hw rfl]
    have p63 : (2 : Int) ^ 63 = 9223372036854775808 := by decide
    have m3 : binD .mul (.lst [.int 11]) (.int mt) = some (.lst (List.replicate mt (.int 11))) := by
      rw [mul_li, if_pos ⟨by omega, by omega, by simp; omega⟩]
      simp
    have z : intL (zsW mt ma) = .lst ([.int mt, .int ma] ++ List.replicate mt (.int 11)) := by simp [zsW, intL]
    have i0 : L2.atI (n0.map D.int) 0 = some (.int x0) := at_int (by omega) (by simp [g0])
    have i1 : L2.atI (n0.map D.int) 1 = some (.int x1) := at_int (by omega) (by simp [g1])
    have ll : 2 + mt ≤ 16777216 := by omega
    have ll2 : sl.length ≤ 16000000 := by omega
    have r1 : rng1K (.ok (.int (1 + (x1 : Int)))) = .ok ((List.range (1 + x1)).map fun (i : Nat) => D.int (i : Int)) := by
      rw [rng_int (by omega) (by omega), show (1 + (x1 : Int)).toNat = 1 + x1 by omega]
    rw [z] at e2 e3
    have lc' := lc (some (.lst ([.int mt, .int ma] ++ List.replicate mt (.int 11)))) (some (intL n0))
    simp -implicitDefEqProofs at lc' e2 e3
    simp -implicitDefEqProofs [c_l_wishes, envD, keepD, e1, m3, ll, ll2, e2, i0, i1, cut, lc', r1, e3]
  · exact hcb c hc
end
end Tv

namespace Tv
open PySem
section
variable {P : String → Option Fn} {con : String → Option D} {k : Nat} {d : D}
def isWhole : D → Bool
  | .int _ => true
  | _ => false
@[simp] theorem isWhole_i (i : Int) : isWhole (.int i) = true := rfl
theorem p_is_whole (h : P "is_whole" = some c_is_whole) (hd : d.tyOk = true) : pF P con (k + 1) "is_whole" [d] = .ret (.bl (isWhole d)) [] := by
  rw [pF_at h rfl]
  simp -implicitDefEqProofs [c_is_whole, envD, keepD, hd]
  cases d <;> first | (cases hd; done) | simp -implicitDefEqProofs [D.isi, isWhole, hd]
theorem p_is_many {i : Int} (h : P "is_many" = some c_is_many) (h1 : P "is_whole" = some c_is_whole) (h2 : con "MOST_COPIES" = some (.int 7)) (hi : 0 ≤ i ∧ i ≤ 7) : pF P con (k + 2) "is_many" [.int i] = .ret (.bl true) [] := by
  rw [pF_at h rfl]
  have w := p_is_whole (P := P) (con := con) (k := k) (d := .int i) h1 rfl
  simp -implicitDefEqProofs [c_is_many, envD, keepD, w, h2, hi]
theorem p_is_thing {i : Int} {n : Int} (h : P "is_thing" = some c_is_thing) (h1 : P "is_whole" = some c_is_whole) (hi : 0 ≤ i ∧ i < n) : pF P con (k + 2) "is_thing" [.int i, .int n] = .ret (.bl true) [] := by
  rw [pF_at h rfl]
  have w := p_is_whole (P := P) (con := con) (k := k) (d := .int i) h1 rfl
  simp -implicitDefEqProofs [c_is_thing, envD, keepD, w, hi]
theorem p_need_row {s : List Nat} {ds : List D} {n : Int} (h : P "need_row" = some c_need_row) (hl : 1 ≤ ds.length) (hn : (ds.length : Int) ≤ n) : pF P con (k + 1) "need_row" [.str s, .lst ds, .int n] = .ret .non [] := by
  rw [pF_at h rfl]
  have hl' : (1 : Int) ≤ ds.length := by omega
  simp -implicitDefEqProofs [c_need_row, envD, hl', hn]
theorem foldl_snoc {α : Type} (xs a : List α) : xs.foldl (fun s x => s ++ [x]) a = a ++ xs := by
  induction xs generalizing a with
  | nil => simp
  | cons y pre ih => rw [List.foldl_cons, ih]; simp
theorem rank_in1 {cl : PCalls} {seen row : List Int} {n : Int} {a0 a3 : Option D} (ht : ∀ x ∈ row, cl "is_thing" [.int x, .int n] = .ret (.bl true) []) (nd : (seen ++ row).Nodup) (hl : (seen ++ row).length ≤ 1000) :
    forP (forT cl con (.nm 4) c_are_ranks_b1) (row.map .int) [a0, some (.int n), some (intL seen), a3, none] = .nx [a0, some (.int n), some (intL (seen ++ row)), a3, none] := by
  have h := for_fold (st := forT cl con (.nm 4) c_are_ranks_b1) (inj := D.int) (enc := fun s : List Int => [a0, some (.int n), some (intL s), a3, none]) (f := fun s x => s ++ [x]) (xs := row) (s := seen) fun pre x post e => by
    have hs := foldl_snoc pre seen
    rw [hs]
    have nm : x ∉ seen ++ pre := by
      rw [e, ← List.append_assoc] at nd
      intro hx
      exact (List.nodup_append.mp nd).2.2 x hx x (by simp) rfl
    have t := ht x (by rw [e]; simp)
    have inn := in_intL x (seen ++ pre)
    have l2 : (seen ++ pre).length < 16000000 := by
      rw [e] at hl
      simp only [List.length_append, List.length_cons] at hl ⊢
      omega
    have ap := append_ok ((seen ++ pre).map D.int) (t := .int x) (by rw [List.length_map]; exact l2)
    rw [ints_app] at ap
    generalize seen ++ pre = s at *
    simp -implicitDefEqProofs [c_are_ranks_b1, t, inn, nm, ap]
  have hs := foldl_snoc row seen
  rw [hs] at h
  exact h
/-- the things of an asker's list, one behind the other -/
theorem p_are_ranks {n : Nat} {rs : List (List Int)} (h : P "are_ranks" = some c_are_ranks) (h1 : P "is_thing" = some c_is_thing) (h2 : P "is_whole" = some c_is_whole) (h3 : con "MOST_RANKS" = some (.int 5)) (ok : OkR n rs) (hn : n ≤ 100) :
    pF P con (k + 3) "are_ranks" [ranksD rs, .int n] = .ret (.bl true) [] := by
  have len := nodup_bound ok.nd ok.rg
  have loop := for_fold (st := forT (pF P con (k + 2)) con (.nm 3) c_are_ranks_b2) (inj := rowD) (enc := fun s : List Int => [some (ranksD rs), some (.int n), some (intL s), none, none]) (f := fun s r => s ++ r) (xs := rs) (s := []) fun pre r post e => by
    have hs : ∀ (pre : List (List Int)) (a : List Int), pre.foldl (fun s x => s ++ x) a = a ++ pre.flatten := by
      intro pre
      induction pre with
      | nil => intro a; simp
      | cons y pre ih => intro a; rw [List.foldl_cons, ih]; simp
    rw [hs, List.nil_append]
    have mem : r ∈ rs := by rw [e]; simp
    have sub : (pre.flatten ++ r).Sublist rs.flatten := by
      rw [e, List.flatten_append, List.flatten_cons, ← List.append_assoc]
      exact List.sublist_append_left _ _
    have r1 := rank_in1 (con := con) (cl := pF P con (k + 2)) (seen := pre.flatten) (row := r) (n := n) (a0 := some (ranksD rs)) (a3 := some (rowD r)) (fun x hx => p_is_thing h1 h2 (ok.rg x (List.mem_flatten.mpr ⟨r, mem, hx⟩))) (ok.nd.sublist sub) (by have := sub.length_le; omega)
    have nil := eqX_rnil r
    have ne : r.isEmpty = false := by have := ok.ne r mem; cases r <;> simp_all
    rw [ne] at nil
    generalize pre.flatten ++ r = q at *
    generalize pre.flatten = q0 at *
    generalize ranksD rs = R at *
    simp -implicitDefEqProofs [c_are_ranks_b2, nil, r1]
  rw [pF_at h rfl]
  have l5 : (rs.length : Int) ≤ 5 := by have := ok.len; omega
  have l5' : ¬ 5 < (rs.length : Int) := by omega
  simp -implicitDefEqProofs only [intL, List.map_nil] at loop
  simp -implicitDefEqProofs [c_are_ranks, envD, keepD, h3, l5', loop]
structure PLook (P : String → Option Fn) (con : String → Option D) : Prop where
  whole : P "is_whole" = some c_is_whole
  many : P "is_many" = some c_is_many
  thing : P "is_thing" = some c_is_thing
  row : P "need_row" = some c_need_row
  ranks : P "are_ranks" = some c_are_ranks
  look : P "look_at_wishes" = some c_look_at_wishes
  mc : con "MOST_COPIES" = some (.int 7)
  mr : con "MOST_RANKS" = some (.int 5)
  mt : con "MOST_THINGS" = some (.int 6)
  ma : con "MOST_ASKERS" = some (.int 7)
theorem p_look (p : PLook P con) {cs : List Int} {ls : List (List (List Int))} (ok : Okw cs ls) : pF P con (k + 4) "look_at_wishes" [wishD cs ls] = .ret .non [] := by
  have e1 := p_need_row (P := P) (con := con) (k := k + 2) (s := k_copies) (ds := cs.map D.int) (n := 6) p.row (by rw [List.length_map]; exact ok.c1) (by rw [List.length_map]; have := ok.c2; omega)
  have e2 := p_need_row (P := P) (con := con) (k := k + 2) (s := [108, 105, 115, 116, 115]) (ds := ls.map ranksD) (n := 7) p.row (by rw [List.length_map]; exact ok.l1) (by rw [List.length_map]; have := ok.l2; omega)
  have l1 : forP (forT (pF P con (k + 3)) con (.tp [3, 4]) c_look_at_wishes_b1) ((cs.map D.int).zipIdx.map fun p => .tup [.int p.2, p.1]) [none, some (intL cs), some (.lst (ls.map ranksD)), none, none, none] = .nx [none, some (intL cs), some (.lst (ls.map ranksD)), none, none, none] := by
    refine for_same fun d hd => ?_
    obtain ⟨q, hq, rfl⟩ := List.mem_map.mp hd
    obtain ⟨c, hc, e⟩ := List.mem_map.mp (List.fst_mem_of_mem_zipIdx hq)
    rw [← e]
    have m := p_is_many (P := P) (con := con) (k := k + 1) p.many p.whole p.mc (ok.cb c hc)
    generalize intL cs = C at *
    generalize D.lst (ls.map ranksD) = L at *
    simp -implicitDefEqProofs [c_look_at_wishes_b1, m]
  have l2 : forP (forT (pF P con (k + 3)) con (.tp [3, 5]) c_look_at_wishes_b2) ((ls.map ranksD).zipIdx.map fun p => .tup [.int p.2, p.1]) [none, some (intL cs), some (.lst (ls.map ranksD)), none, none, none] = .nx [none, some (intL cs), some (.lst (ls.map ranksD)), none, none, none] := by
    refine for_same fun d hd => ?_
    obtain ⟨q, hq, rfl⟩ := List.mem_map.mp hd
    obtain ⟨c, hc, e⟩ := List.mem_map.mp (List.fst_mem_of_mem_zipIdx hq)
    rw [← e]
    have m := p_are_ranks (P := P) (con := con) (k := k) p.ranks p.thing p.whole p.mr (ok.lr c hc) (by have := ok.c2; omega)
    generalize D.lst (ls.map ranksD) = L at *
    simp -implicitDefEqProofs [c_look_at_wishes_b2, m]
  rw [pF_at p.look rfl]
  have mt := p.mt
  have ma := p.ma
  simp only [wishD, intL] at l1 l2 ⊢
  generalize hC : cs.map D.int = C at *
  generalize hL : ls.map ranksD = L at *
  simp -implicitDefEqProofs [c_look_at_wishes, envD, mt, ma, e1, e2, l1, l2]
end
end Tv

namespace Tv
open PySem
def c_l_rank_b1 : Ss := 
    (.cons (.ife (.cmp .isIn (.frz 2) (.frz 4)) (
      (.cons (.ret [] (.bin .add (.frz 3) (.int 1))) .nil)) ((.kill [3, 4] .nil))) .nil)
def c_l_rank : Fn := ⟨3, 5, [], 
  (.cons (.for (.tp [3, 4]) (.enum (.ix (.ix (.frz 0) (.int 1)) (.frz 1))) c_l_rank_b1) 
  (.cons (.ret [] (.int 0)) .nil))⟩
def c_l_longest_e1 : E := .blt .len (.cons (.frz 1) .nil)
def c_l_longest : Fn := ⟨1, 2, [], 
  (.cons (.ret [] (.blt .max (.cons (.lc [1] (.nm 1) (.seq (.ix (.frz 0) (.int 1))) .no c_l_longest_e1) .nil))) .nil)⟩
def c_l_wished : Fn := ⟨2, 2, [], 
  (.cons (.ret [] (.blt .sorted (.cons (.blt .sum (.cons (.ix (.ix (.frz 0) (.int 1)) (.frz 1)) (.cons (.lst .nil) .nil))) .nil))) .nil)⟩
def c_l_copy_e1 : E := .blt .list (.cons (.frz 3) .nil)
def c_l_copy_b1 : Ss := 
    (.cons (.mut .append (.nm 1) (.cons (.lc [3] (.nm 3) (.seq (.frz 2)) .no c_l_copy_e1) .nil)) (.kill [2] .nil))
def c_l_copy : Fn := ⟨1, 4, [], 
  (.cons (.set 1 (.lst .nil)) 
  (.cons (.for (.nm 2) (.seq (.ix (.frz 0) (.int 1))) c_l_copy_b1) 
  (.cons (.ret [] (.tup (.cons (.blt .list (.cons (.ix (.frz 0) (.int 0)) .nil)) (.cons (.mov 1) .nil)))) .nil)))⟩
def c_l_is_number : Fn := ⟨1, 1, [], 
  (.cons (.ret [] (.and (.isi (.frz 0) .int) (.not (.isi (.frz 0) .bool)))) .nil)⟩
def c_l_wishes_of_e1 : E := .tup (.cons (.frz 2) (.cons (.frz 3) .nil))
def c_l_wishes_of_b1 : Ss := 
    (.cons (.mut .extend (.nm 1) (.cons (.lc [3] (.nm 3) (.seq (.call "_law_wished" (.cons (.frz 0) (.cons (.frz 2) .nil)))) .no c_l_wishes_of_e1) .nil)) (.kill [2] .nil))
def c_l_wishes_of : Fn := ⟨1, 4, [], 
  (.cons (.set 1 (.lst .nil)) 
  (.cons (.for (.nm 2) (.rng1 (.blt .len (.cons (.ix (.frz 0) (.int 1)) .nil))) c_l_wishes_of_b1) 
  (.cons (.ret [] (.mov 1)) .nil)))⟩
def c_l_claim_e1 : E := .bin .mul (.frz 2) (.frz 3)
def c_l_claim : Fn := ⟨2, 4, [], 
  (.cons (.ret [] (.bin .add (.blt .sum (.cons (.ix (.frz 1) (.int 1)) .nil)) (.blt .sum (.cons (.lc [2, 3] (.tp [2, 3]) (.zip (.ix (.frz 0) (.int 0)) (.ix (.frz 1) (.int 2))) .no c_l_claim_e1) .nil)))) .nil)⟩
def c_claim_of_b1 : Ss := 
    (.cons (.augV 2 .add (.bin .mul (.frz 3) (.frz 4))) (.kill [3, 4] .nil))
def c_claim_of : Fn := ⟨2, 5, [], 
  (.cons (.ex (.call "look_at_wishes" (.cons (.frz 0) .nil))) 
  (.cons (.setF 2 (.blt .sum (.cons (.ix (.frz 1) (.int 1)) .nil))) 
  (.cons (.for (.tp [3, 4]) (.zip (.ix (.frz 0) (.int 0)) (.ix (.frz 1) (.int 2))) c_claim_of_b1) 
  (.cons (.ret [] (.mov 2)) .nil))))⟩
section
variable {P : String → Option Fn} {con : String → Option D} {k : Nat} {cs : List Int} {ls : List (List (List Int))}
theorem enum_map {α : Type} (f : α → D) (xs : List α) : ((xs.map f).zipIdx.map fun p => D.tup [.int p.2, p.1]) = xs.zipIdx.map fun p => D.tup [.int p.2, f p.1] := by
  rw [List.zipIdx_map, List.map_map]; rfl
/-- the first odd one ends it -/
theorem for_find {α : Type} {st : D → PEnv → PS} {inj : α → D} {p : α → Bool} {G : PEnv} {t : α → D} : ∀ {xs : List α}, (∀ x ∈ xs, p x = false → st (inj x) G = .nx G) → (∀ x ∈ xs, p x = true → ∃ G', st (inj x) G = .rt (t x) G') →
    match xs.find? p with
    | none => forP st (xs.map inj) G = .nx G
    | some x => ∃ G', forP st (xs.map inj) G = .rt (t x) G'
  | [], _, _ => rfl
  | x :: xs, h1, h2 => by
    have ih := for_find (xs := xs) (fun y hy => h1 y (by simp [hy])) fun y hy => h2 y (by simp [hy])
    cases hp : p x with
    | true =>
      rw [List.find?_cons_of_pos hp]
      obtain ⟨G', e⟩ := h2 x (by simp) hp
      exact ⟨G', by rw [List.map_cons, forP_rt e]⟩
    | false =>
      rw [List.find?_cons_of_neg (by simp [hp])]
      rw [List.map_cons, forP_nx (h1 x (by simp) hp)]
      exact ih
/-! ### ranks -/
def rankOf (rs : List (List Int)) (x : Int) : Int := match rs.zipIdx.find? (fun p => decide (x ∈ p.1)) with
  | some p => (p.2 : Int) + 1
  | none => 0
theorem rankOf_rg (rs : List (List Int)) (x : Int) : 0 ≤ rankOf rs x ∧ rankOf rs x ≤ rs.length := by
  unfold rankOf
  split
  · rename_i p h
    have := List.snd_lt_of_mem_zipIdx (List.mem_of_find?_eq_some h)
    omega
  · omega
theorem rankOf_pos {rs : List (List Int)} {x : Int} (h : x ∈ rs.flatten) : 1 ≤ rankOf rs x := by
  unfold rankOf
  split
  · omega
  · rename_i h1
    obtain ⟨r, h2, h3⟩ := List.mem_flatten.mp h
    obtain ⟨i, hi, rfl⟩ := List.mem_iff_getElem.mp h2
    have := List.find?_eq_none.mp h1 (rs[i], i) (by rw [List.mem_zipIdx_iff_getElem?]; simp [hi])
    simp [h3] at this
theorem p_rank {a : Nat} {x : Int} {rs : List (List Int)} (h : P "_law_rank" = some c_l_rank) (ha : ls[a]? = some rs) : pF P con (k + 1) "_law_rank" [wishD cs ls, .int a, .int x] = .ret (.int (rankOf rs x)) [] := by
  have ga : L2.atI (ls.map ranksD) (a : Int) = some (ranksD rs) := at_nat (by simp [ha])
  have F := for_find (st := forT (pF P con k) con (.tp [3, 4]) c_l_rank_b1) (inj := fun p : List Int × Nat => D.tup [.int p.2, rowD p.1]) (p := fun p => decide (x ∈ p.1)) (G := [some (wishD cs ls), some (.int a), some (.int x), none, none]) (t := fun p => .int ((p.2 : Int) + 1)) (xs := rs.zipIdx)
    (fun p _ hp => by
      have inn := in_intL x p.1
      rw [hp] at inn
      generalize wishD cs ls = w
      simp -implicitDefEqProofs [c_l_rank_b1, inn])
    (fun p _ hp => by
      have inn := in_intL x p.1
      rw [hp] at inn
      generalize wishD cs ls = w
      simp -implicitDefEqProofs [c_l_rank_b1, inn])
  rw [pF_at h rfl]
  unfold rankOf
  have en := enum_map rowD rs
  split
  · rename_i p e
    rw [e] at F
    obtain ⟨G', F⟩ := F
    simp only [wishD, ranksD] at F ga ⊢
    generalize ls.map ranksD = L at *
    simp -implicitDefEqProofs [c_l_rank, envD, keepD, ga, en, F]
  · rename_i e
    rw [e] at F
    simp only [wishD, ranksD] at F ga ⊢
    generalize ls.map ranksD = L at *
    simp -implicitDefEqProofs [c_l_rank, envD, keepD, ga, en, F]
def lensOf (ls : List (List (List Int))) : List Int := ls.map fun rs => ((rs.length : Nat) : Int)
def longestOf (ls : List (List (List Int))) : Int := match lensOf ls with
  | [] => 0
  | a :: r => maxL a r
theorem p_longest (h : P "_law_longest" = some c_l_longest) (ok : Okw cs ls) : pF P con (k + 1) "_law_longest" [wishD cs ls] = .ret (.int (longestOf ls)) [] := by
  have lc := lc_map (st := lcT (pF P con k) con [1] (.nm 1) .no c_l_longest_e1 [some (wishD cs ls), none]) (inj := ranksD) (f := fun rs => .int ((rs.length : Nat) : Int)) (xs := ls) fun rs _ => by
    generalize wishD cs ls = w
    simp -implicitDefEqProofs [c_l_longest_e1]
  have hm : (ls.map fun rs => D.int ((rs.length : Nat) : Int)) = (lensOf ls).map D.int := by unfold lensOf; rw [List.map_map]; rfl
  have hl : ls.length ≤ 16000000 := by have := ok.l2; omega
  have hl' : (ls.map ranksD).length ≤ 16000000 := by rw [List.length_map]; exact hl
  rw [hm] at lc
  have hmax : bltD .max [.lst ((lensOf ls).map D.int)] = some (.int (longestOf ls)) := by
    unfold longestOf
    cases e : lensOf ls with
    | nil =>
      have := ok.l1
      have h0 : (lensOf ls).length = ls.length := by unfold lensOf; simp
      rw [e] at h0; simp at h0; omega
    | cons a r => exact max_ints
  rw [pF_at h rfl]
  simp only [wishD] at lc ⊢
  generalize ls.map ranksD = L at *
  simp -implicitDefEqProofs [c_l_longest, envD, keepD, hl', lc, hmax]
theorem longest_ge {rs : List (List Int)} (h : rs ∈ ls) : (rs.length : Int) ≤ longestOf ls := by
  have m : (rs.length : Int) ∈ lensOf ls := List.mem_map.mpr ⟨rs, h, rfl⟩
  unfold longestOf
  cases e : lensOf ls with
  | nil => rw [e] at m; cases m
  | cons a r =>
    rw [e] at m
    obtain ⟨_, h2, h3⟩ := maxL_spec r a
    rcases List.mem_cons.mp m with q | m
    · simp only; omega
    · exact h3 _ m
theorem longest_rg (ok : Okw cs ls) : 0 ≤ longestOf ls ∧ longestOf ls ≤ 5 := by
  have key : ∀ x ∈ lensOf ls, 0 ≤ x ∧ x ≤ 5 := fun x hx => by
    obtain ⟨rs, h1, rfl⟩ := List.mem_map.mp hx
    have := (ok.lr rs h1).len
    omega
  unfold longestOf
  cases e : lensOf ls with
  | nil => exact ⟨by simp, by simp⟩
  | cons a r =>
    rw [e] at key
    obtain ⟨h1, h2, h3⟩ := maxL_spec r a
    rcases h1 with h1 | h1
    · have := key a (by simp); simp only; omega
    · have := key _ (List.mem_cons_of_mem _ h1); simp only; omega
def wishedOf (rs : List (List Int)) : List Int := sortI rs.flatten
theorem wished_len {n : Nat} {rs : List (List Int)} (ok : OkR n rs) : (wishedOf rs).length ≤ n := by
  unfold wishedOf
  rw [(sortI_perm _).length_eq]
  exact nodup_bound ok.nd ok.rg
theorem mem_wished {rs : List (List Int)} {x : Int} : x ∈ wishedOf rs ↔ x ∈ rs.flatten := (sortI_perm _).mem_iff
theorem p_wished {a : Nat} {rs : List (List Int)} (h : P "_law_wished" = some c_l_wished) (ok : Okw cs ls) (ha : ls[a]? = some rs) : pF P con (k + 1) "_law_wished" [wishD cs ls, .int a] = .ret (intL (wishedOf rs)) [] := by
  have ga : L2.atI (ls.map ranksD) (a : Int) = some (ranksD rs) := at_nat (by simp [ha])
  have okr := ok.lr rs (List.mem_of_getElem? ha)
  have len := nodup_bound okr.nd okr.rg
  have hf : (rs.map fun r => r.map D.int).flatten = rs.flatten.map D.int := by rw [List.map_flatten]
  have hs := sum_rows' (fun r : List Int => r.map D.int) rs (by rw [hf, List.length_map]; have := ok.c2; omega)
  have h2 := sorted_ints rs.flatten
  rw [← hf] at h2
  rw [pF_at h rfl]
  simp only [wishD] at ga ⊢
  generalize ls.map ranksD = L at *
  simp only [ranksD, rowD] at ga
  simp -implicitDefEqProofs [c_l_wished, envD, keepD, ga, hs, h2, wishedOf]
theorem p_copy (h : P "_law_copy" = some c_l_copy) (ok : Okw cs ls) : pF P con (k + 1) "_law_copy" [wishD cs ls] = .ret (wishD cs ls) [] := by
  have loop := for_map (st := forT (pF P con k) con (.nm 2) c_l_copy_b1) (inj := ranksD) (enc := fun acc => [some (wishD cs ls), some (.lst acc), none, none]) (f := ranksD) (xs := ls) (acc := []) (by have := ok.l2; simp; omega) fun rs hrs acc hacc => by
    have lc := lc_map (st := lcT (pF P con k) con [3] (.nm 3) .no c_l_copy_e1 [some (wishD cs ls), some (.lst acc), some (ranksD rs), none]) (inj := rowD) (f := rowD) (xs := rs) fun r _ => by
      generalize wishD cs ls = w
      generalize ranksD rs = w2
      simp -implicitDefEqProofs [c_l_copy_e1]
    have hl : (rs.map rowD).length ≤ 16000000 := by rw [List.length_map]; have := (ok.lr rs hrs).len; omega
    generalize wishD cs ls = w at *
    simp only [ranksD] at lc ⊢
    generalize rs.map rowD = L at *
    simp -implicitDefEqProofs [c_l_copy_b1, hl, lc, hacc]
  rw [List.nil_append] at loop
  rw [pF_at h rfl]
  simp only [wishD] at loop ⊢
  generalize ls.map ranksD = L at *
  simp -implicitDefEqProofs [c_l_copy, envD, keepD, loop]
theorem p_is_number {i : Int} (h : P "_law_is_number" = some c_l_is_number) : pF P con (k + 1) "_law_is_number" [.int i] = .ret (.bl true) [] := by
  rw [pF_at h rfl]
  simp -implicitDefEqProofs [c_l_is_number, envD, keepD]
/-! ### all wishes -/
def pairsAt (p : List (List Int) × Nat) : List (Int × Int) := (wishedOf p.1).map fun x => ((p.2 : Int), x)
def pairsOf (ls : List (List (List Int))) : List (Int × Int) := ls.zipIdx.flatMap pairsAt
theorem mem_pairs {p : Int × Int} (h : p ∈ pairsOf ls) : ∃ (a : Nat) (rs : List (List Int)), ls[a]? = some rs ∧ p.1 = a ∧ p.2 ∈ rs.flatten := by
  obtain ⟨⟨rs, a⟩, h1, h2⟩ := List.mem_flatMap.mp h
  obtain ⟨x, h3, rfl⟩ := List.mem_map.mp h2
  rw [List.mem_zipIdx_iff_getElem?] at h1
  exact ⟨a, rs, h1, rfl, mem_wished.mp h3⟩
theorem pairs_mem {a : Nat} {rs : List (List Int)} {x : Int} (h : ls[a]? = some rs) (hx : x ∈ rs.flatten) : ((a : Int), x) ∈ pairsOf ls :=
  List.mem_flatMap.mpr ⟨(rs, a), by rw [List.mem_zipIdx_iff_getElem?]; exact h, List.mem_map.mpr ⟨x, mem_wished.mpr hx, rfl⟩⟩
theorem range_zip (ls : List (List (List Int))) : ((List.range ls.length).map fun (i : Nat) => D.int (i : Int)) = ls.zipIdx.map fun p => D.int (p.2 : Int) := by
  apply List.ext_getElem?
  intro i
  by_cases h : i < ls.length
  · simp [h]
  · simp [h]
theorem p_wishes_of (h : P "_law_wishes_of" = some c_l_wishes_of) (hw : P "_law_wished" = some c_l_wished) (ok : Okw cs ls) : pF P con (k + 2) "_law_wishes_of" [wishD cs ls] = .ret (.lst ((pairsOf ls).map pairD)) [] := by
  have turn : ∀ x ∈ ls.zipIdx, ∀ acc : List D, acc.length ≤ 1000 → forT (pF P con (k + 1)) con (.nm 2) c_l_wishes_of_b1 (.int (x.2 : Int)) [some (wishD cs ls), some (.lst acc), none, none] = .nx [some (wishD cs ls), some (.lst (acc ++ (pairsAt x).map pairD)), none, none] := by
    rintro ⟨rs, a⟩ hx acc hacc
    rw [List.mem_zipIdx_iff_getElem?] at hx
    have w := p_wished (P := P) (con := con) (k := k) (cs := cs) hw ok hx
    have lc := lc_map (st := lcT (pF P con (k + 1)) con [3] (.nm 3) .no c_l_wishes_of_e1 [some (wishD cs ls), some (.lst acc), some (.int (a : Int)), none]) (inj := D.int) (f := fun x => pairD ((a : Int), x)) (xs := wishedOf rs) fun x _ => by
      generalize wishD cs ls = w
      simp -implicitDefEqProofs [c_l_wishes_of_e1, pairD]
    have hp : (pairsAt (rs, a)).map pairD = (wishedOf rs).map fun x => pairD ((a : Int), x) := by unfold pairsAt; rw [List.map_map]; rfl
    have hl : (wishedOf rs).length ≤ 100 := by
      have := wished_len (ok.lr rs (List.mem_of_getElem? hx))
      have := ok.c2
      omega
    have hl2 : ((wishedOf rs).map D.int).length ≤ 16000000 := by rw [List.length_map]; omega
    have ex := extend_ok acc ((wishedOf rs).map fun x => pairD ((a : Int), x)) (by rw [List.length_map]; omega)
    rw [hp]
    generalize (wishedOf rs).map (fun x => pairD ((a : Int), x)) = u at *
    generalize wishD cs ls = w0 at *
    simp only [intL] at w
    generalize (wishedOf rs).map D.int = v at *
    simp -implicitDefEqProofs [c_l_wishes_of_b1, w, lc, hl2, ex]
  have loop : forP (forT (pF P con (k + 1)) con (.nm 2) c_l_wishes_of_b1) (ls.zipIdx.map fun p => D.int (p.2 : Int)) [some (wishD cs ls), some (.lst []), none, none] = .nx [some (wishD cs ls), some (.lst ((pairsOf ls).map pairD)), none, none] := by
    have gen : ∀ (xs : List (List (List Int) × Nat)) (acc : List D), (∀ x ∈ xs, x ∈ ls.zipIdx) → acc.length + 6 * xs.length ≤ 1000 → forP (forT (pF P con (k + 1)) con (.nm 2) c_l_wishes_of_b1) (xs.map fun p => D.int (p.2 : Int)) [some (wishD cs ls), some (.lst acc), none, none] = .nx [some (wishD cs ls), some (.lst (acc ++ (xs.flatMap pairsAt).map pairD)), none, none] := by
      intro xs
      induction xs with
      | nil => intro acc _ _; simp
      | cons x xs ih =>
        intro acc hm hl
        simp only [List.length_cons] at hl
        have m := hm x (by simp)
        rw [List.map_cons, forP_nx (turn x m acc (by omega)), ih _ (fun y hy => hm y (by simp [hy]))]
        · simp
        · have : (pairsAt x).length ≤ 6 := by
            unfold pairsAt
            rw [List.length_map]
            obtain ⟨rs, a⟩ := x
            rw [List.mem_zipIdx_iff_getElem?] at m
            have := wished_len (ok.lr rs (List.mem_of_getElem? m))
            have := ok.c2
            simp only; omega
          simp only [List.length_append, List.length_map]
          omega
    have := gen ls.zipIdx [] (fun x h => h) (by rw [List.length_zipIdx]; have := ok.l2; simp; omega)
    exact this
  have hl : ls.length ≤ 1000000 := by have := ok.l2; omega
  have rg : rng1K (.ok (.int (((ls.map ranksD).length : Nat) : Int))) = .ok (ls.zipIdx.map fun p => D.int (p.2 : Int)) := by
    rw [List.length_map, rng_nat hl, range_zip]
  rw [pF_at h rfl]
  simp only [wishD] at loop ⊢
  generalize ls.map ranksD = L at *
  simp -implicitDefEqProofs [c_l_wishes_of, envD, keepD, rg, loop]
end
end Tv

namespace Tv
open PySem
section
variable {P : String → Option Fn} {con : String → Option D} {k : Nat} {cs : List Int} {ls : List (List (List Int))}
theorem mulB {i j : Int} (hi : -1267650600228229401496703205376 < i ∧ i < 1267650600228229401496703205376) (hj : -1267650600228229401496703205376 < j ∧ j < 1267650600228229401496703205376) : binD .mul (.int i) (.int j) = some (.int (i * j)) := by
  rw [mul_ii]
  have a := log2_small (i := i) (n := 100) (by have : (2:Nat)^100 = 1267650600228229401496703205376 := by decide
                                               omega) (by decide)
  have b := log2_small (i := j) (n := 100) (by have : (2:Nat)^100 = 1267650600228229401496703205376 := by decide
                                               omega) (by decide)
  rw [if_pos (by omega)]
theorem zip_ints (xs ys : List Int) : (((xs.map D.int).zip (ys.map D.int)).map fun p => D.tup [p.1, p.2]) = (xs.zip ys).map pairD := by
  rw [List.zip_map, List.map_map]; rfl
/-! ### papers -/
abbrev paperD (t : Int) (asks prices : List Int) : D := .tup [.int t, intL asks, intL prices]
def dotOf (xs ys : List Int) : Int := ((xs.zip ys).map fun p => p.1 * p.2).sum
def Small (xs : List Int) : Prop := ∀ x ∈ xs, -1267650600228229401496703205376 < x ∧ x < 1267650600228229401496703205376
theorem p_claim {t : Int} {asks prices : List Int} (h : P "_law_claim" = some c_l_claim) (ok : Okw cs ls) (hp : Small prices) : pF P con (k + 1) "_law_claim" [wishD cs ls, paperD t asks prices] = .ret (.int (asks.sum + dotOf cs prices)) [] := by
  have lc := lc_map (st := lcT (pF P con k) con [2, 3] (.tp [2, 3]) .no c_l_claim_e1 [some (wishD cs ls), some (paperD t asks prices), none, none]) (inj := pairD) (f := fun p => .int (p.1 * p.2)) (xs := cs.zip prices) fun p hpp => by
    have m := List.of_mem_zip (show (p.1, p.2) ∈ cs.zip prices from hpp)
    have b1 := ok.cb _ m.1
    have b2 := hp _ m.2
    have mu := mulB (i := p.1) (j := p.2) (by omega) b2
    generalize wishD cs ls = w
    generalize paperD t asks prices = w2
    simp -implicitDefEqProofs [c_l_claim_e1, pairD, mu]
  have hm : ((cs.zip prices).map fun p => D.int (p.1 * p.2)) = ((cs.zip prices).map fun p => p.1 * p.2).map D.int := by rw [List.map_map]; rfl
  rw [hm] at lc
  have hl : (cs.zip prices).length ≤ 16000000 := by rw [List.length_zip]; have := ok.c2; omega
  have hl2 : min cs.length prices.length ≤ 16000000 := by have := ok.c2; omega
  have hz := zip_ints cs prices
  have hs := sum_ints ((cs.zip prices).map fun p => p.1 * p.2)
  rw [pF_at h rfl]
  unfold dotOf
  generalize (cs.zip prices).map (fun p => p.1 * p.2) = u at *
  simp only [wishD, paperD, intL] at lc ⊢
  generalize ls.map ranksD = L at *
  simp -implicitDefEqProofs [c_l_claim, envD, keepD, hz, hl2, lc, hs]
theorem sum_fold (xs : List (Int × Int)) (a : Int) : xs.foldl (fun s p => s + p.1 * p.2) a = a + (xs.map fun p => p.1 * p.2).sum := by
  induction xs generalizing a with
  | nil => simp
  | cons x xs ih => rw [List.foldl_cons, ih, List.map_cons, List.sum_cons]; omega
theorem p_claim_of {t : Int} {asks prices : List Int} (h : P "claim_of" = some c_claim_of) (p : PLook P con) (ok : Okw cs ls) (hp : Small prices) : pF P con (k + 5) "claim_of" [wishD cs ls, paperD t asks prices] = .ret (.int (asks.sum + dotOf cs prices)) [] := by
  have look := p_look (k := k) p ok
  have loop := for_fold (st := forT (pF P con (k + 4)) con (.tp [3, 4]) c_claim_of_b1) (inj := pairD) (enc := fun s : Int => [some (wishD cs ls), some (paperD t asks prices), some (.int s), none, none]) (f := fun (s : Int) (p : Int × Int) => s + p.1 * p.2) (xs := cs.zip prices) (s := asks.sum) fun pre q post e => by
    have hq : q ∈ cs.zip prices := by rw [e]; simp
    have m := List.of_mem_zip (show (q.1, q.2) ∈ cs.zip prices from hq)
    have b1 := ok.cb _ m.1
    have b2 := hp _ m.2
    have mu := mulB (i := q.1) (j := q.2) (by omega) b2
    generalize wishD cs ls = w
    generalize paperD t asks prices = w2
    generalize List.foldl (fun (s : Int) (p : Int × Int) => s + p.1 * p.2) asks.sum pre = s
    simp -implicitDefEqProofs [c_claim_of_b1, pairD, mu]
  rw [sum_fold] at loop
  have hz := zip_ints cs prices
  have hs := sum_ints asks
  rw [pF_at h rfl]
  unfold dotOf
  generalize ((cs.zip prices).map fun p => p.1 * p.2).sum = u at *
  simp only [wishD, paperD, intL] at loop look ⊢
  generalize ls.map ranksD = L at *
  simp -implicitDefEqProofs [c_claim_of, envD, keepD, look, hz, hs, loop]
end
end Tv

namespace Tv
open PySem
def k_firsts : List Nat := [102, 105, 114, 115, 116, 115]
def c_l_aim_e1 : E := .ix (.lst (.cons (.non) (.cons (.bin .sub (.frz 8) (.int 1)) .nil))) (.blt .int (.cons (.cmp .gt (.frz 8) (.int 0)) .nil))
def c_l_aim_b1 : Ss := 
      (.cons (.setF 8 (.bin .mod (.bin .add (.frz 8) (.int 1)) (.frz 3))) .nil)
def c_l_aim_b2 : Ss := 
    (.cons (.whl 1000 (.cmp .isIn (.frz 8) (.var 7)) c_l_aim_b1) 
    (.cons (.mut .append (.nm 7) (.cons (.frz 8) .nil)) (.kill [8] .nil)))
def c_l_aim : Fn := ⟨3, 9, [], 
  (.cons (.setF 3 (.blt .len (.cons (.ix (.frz 0) (.int 1)) .nil))) 
  (.cons (.setF 4 (.bin .add (.lst (.cons (.int 3) (.cons (.int 2) (.cons (.bin .add (.frz 3) (.int 1)) .nil)))) (.bin .mul (.lst (.cons (.bin .add (.blt .len (.cons (.ix (.frz 0) (.int 0)) .nil)) (.int 1)) .nil)) (.frz 3)))) 
  (.cons (.setF 5 (.call "_law_numbers" (.cons (.frz 1) (.cons (.frz 2) (.cons (.bin .add (.frz 4) (.bin .mul (.lst (.cons (.frz 3) .nil)) (.frz 3))) .nil))))) 
  (.cons (.set 6 (.non)) 
  (.cons (.ife (.cmp .eq (.ix (.frz 5) (.int 1)) (.int 1)) ((.kill [6] 
    (.cons (.set 6 (.lc [8] (.nm 8) (.seq (.sl (.frz 5) (.so (.int 3)) (.so (.bin .add (.int 3) (.frz 3))))) .no c_l_aim_e1)) .nil))) (.nil)) 
  (.cons (.set 7 (.lst .nil)) 
  (.cons (.for (.nm 8) (.seq (.sl (.frz 5) (.so (.bin .add (.int 3) (.frz 3))) (.so (.bin .add (.bin .add (.int 3) (.frz 3)) (.ix (.frz 5) (.int 2)))))) c_l_aim_b2) 
  (.cons (.ret [] (.tup (.cons (.ix (.lst (.cons (.str k_firsts) (.cons (.str [102, 117, 108, 108]) (.cons (.str [108, 97, 115, 116, 115]) .nil)))) (.ix (.frz 5) (.int 0))) (.cons (.mov 6) (.cons (.mov 7) .nil))))) .nil))))))))⟩

/-! ### aims drawn -/
theorem mul_rep {x : D} {n : Nat} (h : n ≤ 1000000) : binD .mul (.lst [x]) (.int (n : Int)) = some (.lst (List.replicate n x)) := by
  have p63 : (2 : Int) ^ 63 = 9223372036854775808 := by decide
  rw [mul_li, if_pos ⟨by omega, by omega, by simp; omega⟩]
  simp
theorem nodup_sub : ∀ {xs ys : List Int}, xs.Nodup → (∀ x ∈ xs, x ∈ ys) → xs.length ≤ ys.length
  | [], _, _, _ => by simp
  | x :: xs, ys, nd, h => by
    rw [List.nodup_cons] at nd
    have hx := h x (by simp)
    have ih := nodup_sub (xs := xs) (ys := ys.erase x) nd.2 fun y hy => (List.mem_erase_of_ne (by rintro rfl; exact nd.1 hy)).mpr (h y (by simp [hy]))
    have := List.length_erase_of_mem hx
    have := List.length_pos_of_mem hx
    simp only [List.length_cons]
    omega
def optD : Option Int → D
  | none => .non
  | some i => .int i
def oldD : Option (List (Option Int)) → D
  | none => .non
  | some xs => .lst (xs.map optD)
abbrev aimD (o : List Nat) (old : Option (List (Option Int))) (turns : List Int) : D := .tup [.str o, oldD old, intL turns]
structure OkAim (n m : Nat) (o : List Nat) (old : Option (List (Option Int))) (turns : List Int) : Prop where
  ord : o = k_firsts ∨ o = [102, 117, 108, 108] ∨ o = [108, 97, 115, 116, 115]
  ol : ∀ xs, old = some xs → xs.length = n
  og : ∀ xs, old = some xs → ∀ i, some i ∈ xs → 0 ≤ i ∧ i < m
  td : turns.Nodup
  tr : ∀ t ∈ turns, 0 ≤ t ∧ t < n
theorem OkAim.tl {n m o old turns} (h : OkAim n m o old turns) : turns.length ≤ n := by
  exact nodup_bound h.td h.tr
section
variable {P : String → Option Fn} {con : String → Option D} {k : Nat} {cs : List Int} {ls : List (List (List Int))}
/-- some number near is free -/
theorem free_near {n : Nat} {turns : List Int} {d : Int} (hl : turns.length < n) (hd : 0 ≤ d ∧ d < n) : ∃ j, j < n ∧ (d + j) % n ∉ turns ∧ ∀ i : Nat, i < j → (d + i) % n ∈ turns := by
  have key : ∀ m : Nat, (∀ i : Nat, i < m → (d + i) % n ∈ turns) ∨ ∃ j, j < m ∧ (d + j) % n ∉ turns ∧ ∀ i : Nat, i < j → (d + i) % n ∈ turns := by
    intro m
    induction m with
    | zero => exact .inl fun i h => by omega
    | succ m ih =>
      rcases ih with ih | ⟨j, h1, h2, h3⟩
      · by_cases c : (d + (m : Int)) % n ∈ turns
        · exact .inl fun i h => by
            by_cases e : i = m
            · subst e; exact c
            · exact ih i (by omega)
        · exact .inr ⟨m, by omega, c, ih⟩
      · exact .inr ⟨j, by omega, h2, h3⟩
  rcases key n with h | h
  · exfalso
    have := nodup_sub (xs := (List.range n).map fun (i : Nat) => (i : Int)) (ys := turns) (by
      rw [List.nodup_iff_pairwise_ne, List.pairwise_map]
      exact (List.nodup_iff_pairwise_ne.mp List.nodup_range).imp fun h => by omega) fun x hx => by
        obtain ⟨r, hr, rfl⟩ := List.mem_map.mp hx
        rw [List.mem_range] at hr
        by_cases c : d ≤ r
        · have := h (r - d).toNat (by omega)
          rwa [show (d + ((r - d).toNat : Int)) = (r : Int) by omega, Int.emod_eq_of_lt (by omega) (by omega)] at this
        · have := h (r + n - d).toNat (by omega)
          rwa [show (d + ((r + n - d).toNat : Int)) = (r : Int) + n by omega, Int.add_emod_right, Int.emod_eq_of_lt (by omega) (by omega)] at this
    rw [List.length_map, List.length_range] at this
    omega
  · exact h
theorem aim_whl {cl : PCalls} {n : Nat} {turns : List Int} {a0 a1 a2 a4 a5 a6 : Option D} (hn : 0 < n) : ∀ (j : Nat) (f : Nat) (d : Int), j < f → 0 ≤ d ∧ d < n → (d + j) % n ∉ turns → (∀ i : Nat, i < j → (d + i) % n ∈ turns) →
    whlP (pE cl con (.cmp .isIn (.frz 8) (.var 7))) (pSs cl con c_l_aim_b1) f [a0, a1, a2, some (.int n), a4, a5, a6, some (intL turns), some (.int d)] = .nx [a0, a1, a2, some (.int n), a4, a5, a6, some (intL turns), some (.int ((d + j) % n))] := by
  intro j
  induction j with
  | zero =>
    intro f d hf hd h1 _
    obtain ⟨f, rfl⟩ : ∃ g, f = g + 1 := ⟨f - 1, by omega⟩
    have e : (d + ((0 : Nat) : Int)) % n = d := by rw [Int.natCast_zero, Int.add_zero, Int.emod_eq_of_lt hd.1 hd.2]
    rw [e] at h1 ⊢
    have inn := in_intL d turns
    rw [decide_eq_false h1] at inn
    simp -implicitDefEqProofs [whlP, inn]
  | succ j ih =>
    intro f d hf hd h1 h2
    obtain ⟨f, rfl⟩ : ∃ g, f = g + 1 := ⟨f - 1, by omega⟩
    have h0 := h2 0 (by omega)
    rw [Int.natCast_zero, Int.add_zero, Int.emod_eq_of_lt hd.1 hd.2] at h0
    have inn := in_intL d turns
    rw [decide_eq_true h0] at inn
    have q : ∀ i : Nat, ((d + 1) % n + (i : Int)) % n = (d + ((i + 1 : Nat) : Int)) % n := fun i => by
      rw [Int.emod_add_emod]; congr 1; omega
    have hd' : 0 ≤ (d + 1) % (n : Int) ∧ (d + 1) % (n : Int) < n := ⟨Int.emod_nonneg _ (by omega), Int.emod_lt_of_pos _ (by omega)⟩
    have ih := ih f ((d + 1) % n) (by omega) hd' (by rw [q]; exact h1) fun i hi => by rw [q]; exact h2 (i + 1) (by omega)
    rw [q] at ih
    have md : binD .mod (.int (d + 1)) (.int n) = some (.int ((d + 1) % n)) := by
      rw [modI (by omega), Int.fmod_eq_emod_of_nonneg _ (by omega)]
    unfold whlP
    simp -implicitDefEqProofs [inn, c_l_aim_b1, md]
    exact ih
theorem aim_turn {cl : PCalls} {n : Nat} {turns : List Int} {d : Int} {a0 a1 a2 a4 a5 a6 a8 : Option D} (h7 : n ≤ 7) (hl : turns.length < n) (hd : 0 ≤ d ∧ d < n) :
    ∃ d', d' ∉ turns ∧ (0 ≤ d' ∧ d' < n) ∧ forT cl con (.nm 8) c_l_aim_b2 (.int d) [a0, a1, a2, some (.int n), a4, a5, a6, some (intL turns), a8] = .nx [a0, a1, a2, some (.int n), a4, a5, a6, some (intL (turns ++ [d'])), none] := by
  obtain ⟨j, h1, h2, h3⟩ := free_near hl hd
  refine ⟨_, h2, ⟨Int.emod_nonneg _ (by omega), Int.emod_lt_of_pos _ (by omega)⟩, ?_⟩
  have w := aim_whl (cl := cl) (con := con) (a0 := a0) (a1 := a1) (a2 := a2) (a4 := a4) (a5 := a5) (a6 := a6) (by omega) j 1000 d (by omega) hd h2 h3
  have hl2 : turns.length < 16000000 := by omega
  simp -implicitDefEqProofs [c_l_aim_b2, w, hl2]
theorem aim_loop {cl : PCalls} {n : Nat} {a0 a1 a2 a4 a5 a6 : Option D} (h7 : n ≤ 7) : ∀ (ds : List Int) (turns : List Int), turns.length + ds.length ≤ n → (∀ d ∈ ds, 0 ≤ d ∧ d < n) → turns.Nodup → (∀ t ∈ turns, 0 ≤ t ∧ t < n) →
    ∃ turns', turns'.Nodup ∧ (∀ t ∈ turns', 0 ≤ t ∧ t < (n : Int)) ∧ forP (forT cl con (.nm 8) c_l_aim_b2) (ds.map .int) [a0, a1, a2, some (.int n), a4, a5, a6, some (intL turns), none] = .nx [a0, a1, a2, some (.int n), a4, a5, a6, some (intL turns'), none]
  | [], turns, _, _, nd, tr => ⟨turns, nd, tr, rfl⟩
  | d :: ds, turns, hl, hd, nd, tr => by
    simp only [List.length_cons] at hl
    obtain ⟨d', h1, h2, h3⟩ := aim_turn (cl := cl) (con := con) (turns := turns) (a0 := a0) (a1 := a1) (a2 := a2) (a4 := a4) (a5 := a5) (a6 := a6) (a8 := none) h7 (by omega) (hd d (by simp))
    obtain ⟨turns', k1, k2, k3⟩ := aim_loop (cl := cl) (a0 := a0) (a1 := a1) (a2 := a2) (a4 := a4) (a5 := a5) (a6 := a6) h7 ds (turns ++ [d']) (by simp; omega) (fun e he => hd e (by simp [he]))
      (List.nodup_append.mpr ⟨nd, by simp, fun a ha b hb => by simp at hb; subst hb; rintro rfl; exact h1 ha⟩) fun t ht => by
        rcases List.mem_append.mp ht with h | h
        · exact tr t h
        · simp at h; subst h; exact h2
    exact ⟨turns', k1, k2, by rw [List.map_cons, forP_nx h3]; exact k3⟩
abbrev zsM (n m : Nat) : List Int := [3, 2, (n : Int) + 1] ++ List.replicate n ((m : Int) + 1) ++ List.replicate n (n : Int)
theorem zsM_pos {n m : Nat} (h : 1 ≤ n) : ∀ z ∈ zsM n m, 0 < z := fun z hz => by
  simp [zsM, List.mem_replicate] at hz
  omega
theorem zsM_sizes {n m : Nat} (h : 1 ≤ n) (h2 : n ≤ 7) (h3 : m ≤ 6) : Sizes (zsM n m) where
  pos := zsM_pos h
  big z hz := by
    have : (2 : Int) ^ 64 = 18446744073709551616 := by decide
    simp [zsM, List.mem_replicate] at hz
    omega
  len := by simp [zsM]; omega
theorem p_aim (h : P "_law_aim" = some c_l_aim) (hq : P "_law_numbers" = some c_numbers) (ok : Okw cs ls) {c s : Int} (hs : -1000000000 < s ∧ s < 1000000000) :
    ∃ o old turns, pF P con (k + 2) "_law_aim" [wishD cs ls, .int c, .int s] = .ret (aimD o old turns) [] ∧ OkAim ls.length cs.length o old turns := by
  obtain ⟨n, hn⟩ : ∃ n, n = ls.length := ⟨_, rfl⟩
  obtain ⟨m, hm⟩ : ∃ m, m = cs.length := ⟨_, rfl⟩
  have c1 := ok.c1; have c2 := ok.c2; have l1 := ok.l1; have l2 := ok.l2
  have e2 := p_numbers (P := P) (con := con) (k := k) (c := c) (s := s) hq (zsM_sizes (n := n) (m := m) (by omega) (by omega) (by omega)) hs
  obtain ⟨n0, hn0⟩ : ∃ n0, n0 = nums c s (zsM n m) := ⟨_, rfl⟩
  have hlen : n0.length = 3 + n + n := by rw [hn0, nums_length]; simp; omega
  have hget : ∀ (i : Nat) (z : Int), (zsM n m)[i]? = some z → ∃ d, n0[i]? = some d ∧ 0 ≤ d ∧ d < z := fun i z hz => by rw [hn0]; exact nums_get (zsM_pos (by omega)) hz
  rw [← hn0] at e2
  obtain ⟨d0, g0, p0, q0⟩ := hget 0 _ rfl
  obtain ⟨d1, g1, p1, q1⟩ := hget 1 _ rfl
  obtain ⟨d2, g2, p2, q2⟩ := hget 2 _ rfl
  have hA : ∀ d ∈ (n0.drop 3).take n, 0 ≤ d ∧ d < (m : Int) + 1 := fun d hd => by
    obtain ⟨i, hi, rfl⟩ := List.mem_iff_getElem.mp hd
    rw [List.length_take, List.length_drop, hlen] at hi
    obtain ⟨d', g', p', q'⟩ := hget (3 + i) ((m : Int) + 1) (by
      rw [List.getElem?_append_left (by simp; omega), List.getElem?_append_right (by simp)]
      simp [List.getElem?_replicate]; omega)
    rw [List.getElem_take, List.getElem_drop]
    rw [List.getElem?_eq_getElem (by omega)] at g'
    injection g' with g'
    omega
  have hB : ∀ d ∈ n0.drop (3 + n), 0 ≤ d ∧ d < (n : Int) := fun d hd => by
    obtain ⟨i, hi, rfl⟩ := List.mem_iff_getElem.mp hd
    rw [List.length_drop, hlen] at hi
    obtain ⟨d', g', p', q'⟩ := hget (3 + n + i) (n : Int) (by
      rw [List.getElem?_append_right (by simp; omega)]
      simp [List.getElem?_replicate]; omega)
    rw [List.getElem_drop]
    rw [List.getElem?_eq_getElem (by omega)] at g'
    injection g' with g'
    omega
  obtain ⟨x2, rfl⟩ : ∃ x2 : Nat, d2 = x2 := ⟨d2.toNat, by omega⟩
  obtain ⟨sa, hsa⟩ : ∃ sa, sa = (n0.drop 3).take n := ⟨_, rfl⟩
  obtain ⟨sb, hsb⟩ : ∃ sb, sb = (n0.drop (3 + n)).take x2 := ⟨_, rfl⟩
  have la : sa.length = n := by rw [hsa, List.length_take, List.length_drop, hlen]; omega
  have lb : sb.length ≤ n := by rw [hsb, List.length_take, List.length_drop, hlen]; omega
  have cut1 : cutL (n0.map D.int) (some 3) (some (3 + (n : Int))) = sa.map .int := by
    rw [cutL_map, cutL_two (by omega) (by omega), hsa, show (3 + (n : Int) - 3).toNat = n by omega]; rfl
  have cut2 : cutL (n0.map D.int) (some (3 + (n : Int))) (some (3 + (n : Int) + (x2 : Int))) = sb.map .int := by
    rw [cutL_map, cutL_two (by omega) (by omega), hsb, show (3 + (n : Int) + x2 - (3 + (n : Int))).toNat = x2 by omega, show (3 + (n : Int)).toNat = 3 + n by omega]
  have hsa2 : ∀ d ∈ sa, 0 ≤ d ∧ d < (m : Int) + 1 := fun d hd => hA d (hsa ▸ hd)
  have hsb2 : ∀ d ∈ sb, 0 ≤ d ∧ d < (n : Int) := fun d hd => hB d (List.mem_of_mem_take (hsb ▸ hd))
  clear hA hB
  obtain ⟨o, ho, hx⟩ : ∃ o, (o = k_firsts ∨ o = [102, 117, 108, 108] ∨ o = [108, 97, 115, 116, 115]) ∧ L2.atI [D.str k_firsts, .str [102, 117, 108, 108], .str [108, 97, 115, 116, 115]] d0 = some (.str o) := by
    rcases (by omega : d0 = 0 ∨ d0 = 1 ∨ d0 = 2) with rfl | rfl | rfl
    · exact ⟨_, .inl rfl, at_0 _ _⟩
    · exact ⟨_, .inr (.inl rfl), at_1 _ _ _⟩
    · exact ⟨_, .inr (.inr rfl), at_2 _ _ _ _⟩
  have lc : ∀ (G : PEnv), G.length = 9 → lcP (lcT (pF P con (k + 1)) con [8] (.nm 8) .no c_l_aim_e1 G) (sa.map .int) = .ok ((sa.map fun d => if 0 < d then some (d - 1) else none).map optD) := fun G hG => by
    rw [List.map_map]
    refine lc_map fun d hd => ?_
    have hd' := hsa2 d hd
    have hG' : 8 < G.length := by omega
    by_cases c : 0 < d
    · simp -implicitDefEqProofs [c_l_aim_e1, c, optD, hG', hG]
    · simp -implicitDefEqProofs [c_l_aim_e1, c, optD, hG', hG]
  have hL : (ls.map ranksD).length = n := by rw [List.length_map, hn]
  have hC : (cs.map D.int).length = m := by rw [List.length_map, hm]
  have z : intL (zsM n m) = .lst ([D.int 3, .int 2, .int ((n : Int) + 1)] ++ List.replicate n (D.int ((m : Int) + 1)) ++ List.replicate n (D.int (n : Int))) := by simp [zsM, intL]
  have i0 : L2.atI (n0.map D.int) 0 = some (.int d0) := at_int (by omega) (by simp [g0])
  have i1 : L2.atI (n0.map D.int) 1 = some (.int d1) := at_int (by omega) (by simp [g1])
  have i2 : L2.atI (n0.map D.int) 2 = some (.int x2) := at_int (by omega) (by simp [g2])
  have m1 : binD .mul (.lst [.int ((m : Int) + 1)]) (.int n) = some (.lst (List.replicate n (.int ((m : Int) + 1)))) := mul_rep (by omega)
  have m2 : binD .mul (.lst [.int (n : Int)]) (.int n) = some (.lst (List.replicate n (.int (n : Int)))) := mul_rep (by omega)
  have ll1 : 3 + n ≤ 16777216 := by omega
  have ll2 : n + 1 + 1 + 1 + n ≤ 16777216 := by omega
  have ll3 : sa.length ≤ 16000000 := by omega
  rw [z] at e2
  have run : ∀ old : Option (List (Option Int)), (d1 = 1 → old = some (sa.map fun d => if 0 < d then some (d - 1) else none)) → (d1 ≠ 1 → old = none) → ∃ turns, pF P con (k + 2) "_law_aim" [wishD cs ls, .int c, .int s] = .ret (aimD o old turns) [] ∧ turns.Nodup ∧ ∀ t ∈ turns, 0 ≤ t ∧ t < (n : Int) := by
    intro old h1 h2
    obtain ⟨turns, t1, t2, t3⟩ := aim_loop (cl := pF P con (k + 1)) (con := con) (n := n) (a0 := some (wishD cs ls)) (a1 := some (.int c)) (a2 := some (.int s)) (a4 := some (.lst ([D.int 3, .int 2, .int ((n : Int) + 1)] ++ List.replicate n (D.int ((m : Int) + 1))))) (a5 := some (intL n0)) (a6 := some (oldD old)) (by omega) sb [] (by simpa using lb) hsb2 (by simp) (by simp)
    refine ⟨turns, ?_, t1, t2⟩
    rw [pF_at h rfl]
    simp only [wishD, intL] at *
    generalize ls.map ranksD = L at *
    generalize hcc : cs.map D.int = CC at *
    by_cases c1 : d1 = 1
    · have := h1 c1
      subst this
      have lc' := lc [some (.tup [.lst CC, .lst L]), some (.int c), some (.int s), some (.int n), some (.lst ([D.int 3, .int 2, .int ((n : Int) + 1)] ++ List.replicate n (D.int ((m : Int) + 1)))), some (.lst (n0.map D.int)), none, none, none] rfl
      generalize (sa.map fun d => if 0 < d then some (d - 1) else none) = so at *
      simp only [List.cons_append, List.nil_append] at e2 lc' t3
      simp only [oldD, List.map_nil] at t3
      simp -implicitDefEqProofs [c_l_aim, envD, keepD, hL, hC, m1, m2, ll1, ll2, e2, i0, i1, i2, c1, cut1, cut2, lc', ll3, t3, hx, oldD]
    · have := h2 c1
      subst this
      simp only [List.cons_append, List.nil_append] at e2 t3
      simp only [oldD, List.map_nil] at t3
      simp -implicitDefEqProofs [c_l_aim, envD, keepD, hL, hC, m1, m2, ll1, ll2, e2, i0, i1, i2, c1, cut1, cut2, ll3, t3, hx, oldD]
  by_cases c1 : d1 = 1
  · obtain ⟨turns, r1, r2, r3⟩ := run (some (sa.map fun d => if 0 < d then some (d - 1) else none)) (fun _ => rfl) fun h => absurd c1 h
    refine ⟨o, _, turns, r1, ho, fun xs e => ?_, fun xs e i hi => ?_, r2, fun t ht => hn ▸ r3 t ht⟩
    · cases e; rw [List.length_map, la, hn]
    · cases e
      obtain ⟨d, hd, e⟩ := List.mem_map.mp hi
      have := hsa2 d hd
      split at e
      · cases e; omega
      · cases e
  · obtain ⟨turns, r1, r2, r3⟩ := run none (fun h => absurd h c1) fun _ => rfl
    exact ⟨o, none, turns, r1, ho, fun xs e => (by cases e), fun xs e => (by cases e), r2, fun t ht => hn ▸ r3 t ht⟩
end
end Tv

namespace Tv
open PySem
def c_l_worth_b1 : Ss := (.kill [8] 
    (.cons (.mut .append (.nm 7) (.cons (.bin .mul (.ix (.var 7) (.neg (.int 1))) (.frz 4)) .nil)) .nil))
def c_l_worth_b2 : Ss := 
    (.cons (.setF 9 (.bin .mul (.frz 9) (.bin .add (.frz 5) (.int 1)))) 
    (.cons (.setF 10 (.bin .mul (.frz 10) (.bin .add (.frz 5) (.int 1)))) 
    (.cons (.ife (.cmp .eq (.frz 11) (.frz 2)) ((.kill [11] 
      (.cons (.setF 10 (.bin .sub (.bin .add (.bin .add (.frz 10) (.frz 5)) (.int 1)) (.frz 6))) .nil))) ((.kill [11] .nil))) .nil)))
def c_l_worth : Fn := ⟨4, 15, [], 
  (.cons (.setT [12, 13, 14] (.frz 1)) 
  (.cons (.setF 4 (.bin .add (.blt .len (.cons (.ix (.frz 0) (.int 1)) .nil)) (.int 1))) 
  (.cons (.setF 5 (.call "_law_longest" (.cons (.frz 0) .nil))) 
  (.cons (.setF 6 (.call "_law_rank" (.cons (.frz 0) (.cons (.frz 2) (.cons (.frz 3) .nil))))) 
  (.cons (.set 7 (.lst (.cons (.int 1) .nil))) 
  (.cons (.for (.nm 8) (.rng1 (.frz 5)) c_l_worth_b1) 
  (.cons (.setF 9 (.ix (.var 7) (.bin .sub (.frz 5) (.frz 6)))) 
  (.cons (.ife (.cmp .eq (.frz 12) (.str [102, 117, 108, 108])) (
    (.cons (.setF 9 (.bin .add (.frz 9) (.ix (.var 7) (.frz 5)))) .nil)) (.nil)) 
  (.cons (.ife (.cmp .eq (.frz 12) (.str [108, 97, 115, 116, 115])) ((.kill [9, 12] 
    (.cons (.setF 9 (.bin .sub (.ix (.var 7) (.frz 5)) (.ix (.var 7) (.bin .sub (.frz 6) (.int 1))))) (.kill [7] .nil)))) ((.kill [7, 12] .nil))) 
  (.cons (.setF 9 (.bin .mul (.frz 9) (.frz 4))) 
  (.cons (.ife (.and (.notN (.frz 13)) (.cmp .eq (.ix (.frz 13) (.frz 2)) (.frz 3))) ((.kill [3, 13] 
    (.cons (.setF 9 (.bin .add (.frz 9) (.int 1))) .nil))) ((.kill [3, 13] .nil))) 
  (.cons (.set 10 (.int 0)) 
  (.cons (.for (.nm 11) (.seq (.frz 14)) c_l_worth_b2) 
  (.cons (.ret [] (.bin .add (.frz 9) (.frz 10))) .nil))))))))))))))⟩

def c_l_worths_b1 : Ss := 
    (.cons (.dsto (.nm 2) (.tup (.cons (.frz 3) (.cons (.frz 4) .nil))) (.call "_law_worth" (.cons (.frz 0) (.cons (.frz 1) (.cons (.frz 3) (.cons (.frz 4) .nil)))))) (.kill [3, 4] .nil))
def c_l_worths : Fn := ⟨2, 5, [], 
  (.cons (.set 2 (.dic0 true)) 
  (.cons (.for (.tp [3, 4]) (.seq (.call "_law_wishes_of" (.cons (.frz 0) .nil))) c_l_worths_b1) 
  (.cons (.ret [] (.mov 2)) .nil)))⟩

/-! ### worths -/
def powL (b : Int) (j : Nat) : List Int := (List.range (j + 1)).map fun i => b ^ i
theorem powL_succ (b : Int) (j : Nat) : powL b (j + 1) = powL b j ++ [b ^ (j + 1)] := by unfold powL; rw [List.range_succ, List.map_append]; rfl
theorem powL_len (b : Int) (j : Nat) : (powL b j).length = j + 1 := by simp [powL]
theorem powL_at {b : Int} {i j : Nat} (h : i ≤ j) : (powL b j)[i]? = some (b ^ i) := by
  unfold powL
  rw [List.getElem?_map, List.getElem?_range (by omega)]; rfl
theorem powL_last (b : Int) (j : Nat) : (powL b j).getLast? = some (b ^ j) := by
  rw [List.getLast?_eq_getElem?, powL_len]; exact powL_at (by omega)
theorem pow_rg {b : Int} (h1 : 1 ≤ b) (h2 : b ≤ 8) : ∀ i : Nat, 1 ≤ b ^ i ∧ b ^ i ≤ 8 ^ i
  | 0 => by simp
  | i + 1 => by
    obtain ⟨a1, a2⟩ := pow_rg h1 h2 i
    rw [Int.pow_succ, Int.pow_succ]
    constructor
    · have := Int.mul_le_mul a1 h1 (by omega) (by omega); simpa using this
    · exact Int.mul_le_mul a2 h2 (by omega) (by omega)
theorem pow_rg7 {b : Int} {i : Nat} (h1 : 1 ≤ b) (h2 : b ≤ 8) (hi : i ≤ 8) : 1 ≤ b ^ i ∧ b ^ i ≤ 16777216 := by
  obtain ⟨a1, a2⟩ := pow_rg h1 h2 i
  have : ∀ i, i ≤ 8 → (8 : Int) ^ i ≤ 16777216 := by decide
  have := this i hi
  exact ⟨a1, by omega⟩
theorem at_powL {b : Int} {i j : Nat} (h : i ≤ j) : L2.atI ((powL b j).map D.int) (i : Int) = some (.int (b ^ i)) := at_nat (by rw [List.getElem?_map, powL_at h]; rfl)
theorem at_powLI {b i : Int} {j : Nat} (h0 : 0 ≤ i) (h : i ≤ j) : L2.atI ((powL b j).map D.int) i = some (.int (b ^ i.toNat)) := at_int h0 (by rw [List.getElem?_map, powL_at (by omega)]; rfl)
theorem at_powL_last {b : Int} {j : Nat} : L2.atI ((powL b j).map D.int) (-1) = some (.int (b ^ j)) := at_last (by rw [List.getLast?_map, powL_last]; rfl)
theorem eqX_ss (s t : List Nat) : eqX (.str s) (.str t) = some (decide (s = t)) := by
  unfold eqX
  have e : eqD (.str s) (.str t) = decide (s = t) := by
    simp only [eqD, D.py, PyData.eqv]; rw [Bool.eq_iff_iff]; simp
  rw [e]; rfl
theorem eqD_opt (o : Option Int) (x : Int) : eqD (optD o) (.int x) = decide (o = some x) := by
  cases o with
  | none => simp [eqD, optD, D.py, PyData.eqv]
  | some i => rw [show optD (some i) = .int i from rfl, eqD_ii]; simp
theorem eqX_opt (o : Option Int) (x : Int) : eqX (optD o) (.int x) = some (decide (o = some x)) := by
  unfold eqX
  rw [eqD_opt]
  cases o <;> rfl
def byOrd (o : List Nat) (b : Int) (R r : Nat) : Int := if o = [108, 97, 115, 116, 115] then b ^ R - b ^ (r - 1) else if o = [102, 117, 108, 108] then b ^ (R - r) + b ^ R else b ^ (R - r)
def oldHit (old : Option (List (Option Int))) (a : Nat) (x : Int) : Bool := match old with
  | none => false
  | some xs => decide (xs[a]? = some (some x))
def pickOf (q c a : Int) : List Int → Int
  | [] => 0
  | t :: ts => if t = a then c * q ^ ts.length else pickOf q c a ts
theorem pickOf_no {q c a : Int} : ∀ {ts : List Int}, a ∉ ts → pickOf q c a ts = 0
  | [], _ => rfl
  | t :: ts, h => by
    simp only [List.mem_cons, not_or] at h
    unfold pickOf
    rw [if_neg (fun e => h.1 e.symm), pickOf_no h.2]
def wStep (R r a : Int) (s : Int × Int) (t : Int) : Int × Int := (s.1 * (R + 1), if t = a then s.2 * (R + 1) + R + 1 - r else s.2 * (R + 1))
theorem wStep_fold (R r a : Int) : ∀ (ts : List Int) (w p : Int), ts.Nodup → ts.foldl (wStep R r a) (w, p) = (w * (R + 1) ^ ts.length, p * (R + 1) ^ ts.length + pickOf (R + 1) (R + 1 - r) a ts)
  | [], w, p, _ => by simp [pickOf]
  | t :: ts, w, p, nd => by
    rw [List.nodup_cons] at nd
    rw [List.foldl_cons, show wStep R r a (w, p) t = (w * (R + 1), if t = a then p * (R + 1) + R + 1 - r else p * (R + 1)) from rfl, wStep_fold R r a ts _ _ nd.2]
    have e : ∀ z : Int, z * (R + 1) * (R + 1) ^ ts.length = z * (R + 1) ^ (ts.length + 1) := fun z => by rw [Int.pow_succ, Int.mul_assoc, Int.mul_comm (R + 1)]
    rw [List.length_cons]
    refine Prod.ext (e w) ?_
    show (if t = a then p * (R + 1) + R + 1 - r else p * (R + 1)) * (R + 1) ^ ts.length + pickOf (R + 1) (R + 1 - r) a ts = p * (R + 1) ^ (ts.length + 1) + pickOf (R + 1) (R + 1 - r) a (t :: ts)
    by_cases c : t = a
    · subst c
      rw [if_pos rfl, pickOf_no nd.1]
      unfold pickOf
      rw [if_pos rfl, ← e p, show p * (R + 1) + R + 1 - r = p * (R + 1) + (R + 1 - r) by omega, Int.add_mul]; omega
    · rw [if_neg c, e p, show pickOf (R + 1) (R + 1 - r) a (t :: ts) = pickOf (R + 1) (R + 1 - r) a ts by rw [pickOf, if_neg c]]
theorem pickOf_rg {q c a : Int} (hq : 1 ≤ q ∧ q ≤ 6) (hc : 0 ≤ c ∧ c ≤ 6) : ∀ (ts : List Int), ts.length ≤ 8 → 0 ≤ pickOf q c a ts ∧ pickOf q c a ts ≤ 100663296
  | [], _ => by simp [pickOf]
  | t :: ts, h => by
    simp only [List.length_cons] at h
    unfold pickOf
    split
    · obtain ⟨a1, a2⟩ := pow_rg7 (b := q) (i := ts.length) hq.1 (by omega) (by omega)
      constructor
      · exact Int.mul_nonneg hc.1 (by omega)
      · have := Int.mul_le_mul hc.2 a2 (by omega) (by omega); omega
    · exact pickOf_rg hq hc ts (by omega)
def baseW (o : List Nat) (old : Option (List (Option Int))) (b : Int) (R r a : Nat) (x : Int) : Int := byOrd o b R r * b + if oldHit old a x then 1 else 0
def worthOf (o : List Nat) (old : Option (List (Option Int))) (turns : List Int) (b : Int) (R r a : Nat) (x : Int) : Int := baseW o old b R r a x * ((R : Int) + 1) ^ turns.length + pickOf ((R : Int) + 1) ((R : Int) + 1 - r) a turns
theorem byOrd_rg {o : List Nat} {b : Int} {R r : Nat} (h1 : 2 ≤ b) (h2 : b ≤ 8) (hr : 1 ≤ r) (hR : r ≤ R) (h5 : R ≤ 5) : 1 ≤ byOrd o b R r ∧ byOrd o b R r ≤ 33554432 := by
  have a1 := pow_rg7 (b := b) (i := R) (by omega) h2 (by omega)
  have a2 := pow_rg7 (b := b) (i := R - r) (by omega) h2 (by omega)
  have a3 := pow_rg7 (b := b) (i := r - 1) (by omega) h2 (by omega)
  have a4 : b ^ (r - 1) < b ^ R := by
    obtain ⟨d, hd⟩ : ∃ d, R = (r - 1) + (d + 1) := ⟨R - r, by omega⟩
    rw [hd, Int.pow_add, Int.pow_succ]
    have := pow_rg (b := b) (by omega) h2 d
    have p1 := Int.mul_le_mul this.1 h1 (by omega) (by omega)
    have := Int.mul_lt_mul_of_pos_left (show (1 : Int) < b ^ d * b by omega) (show 0 < b ^ (r - 1) by omega)
    omega
  unfold byOrd
  split
  · omega
  · split <;> omega
theorem baseW_rg {o : List Nat} {old : Option (List (Option Int))} {b : Int} {R r a : Nat} {x : Int} (h1 : 2 ≤ b) (h2 : b ≤ 8) (hr : 1 ≤ r) (hR : r ≤ R) (h5 : R ≤ 5) : 2 ≤ baseW o old b R r a x ∧ baseW o old b R r a x ≤ 268435457 := by
  obtain ⟨a1, a2⟩ := byOrd_rg (o := o) h1 h2 hr hR h5
  unfold baseW
  have p1 := Int.mul_le_mul a2 h2 (by omega) (by omega)
  have p2 := Int.mul_le_mul a1 h1 (by omega) (by omega)
  split <;> omega
theorem worthOf_rg {o : List Nat} {old : Option (List (Option Int))} {turns : List Int} {b : Int} {R r a : Nat} {x : Int} (h1 : 2 ≤ b) (h2 : b ≤ 8) (hr : 1 ≤ r) (hR : r ≤ R) (h5 : R ≤ 5) (ht : turns.length ≤ 7) :
    1 ≤ worthOf o old turns b R r a x ∧ worthOf o old turns b R r a x ≤ 4503700000000000 := by
  obtain ⟨a1, a2⟩ := baseW_rg (o := o) (old := old) (a := a) (x := x) h1 h2 hr hR h5
  obtain ⟨a3, a4⟩ := pow_rg7 (b := (R : Int) + 1) (i := turns.length) (by omega) (by omega) (by omega)
  obtain ⟨a5, a6⟩ := pickOf_rg (q := (R : Int) + 1) (c := (R : Int) + 1 - r) (a := a) (by omega) (by omega) turns (by omega)
  unfold worthOf
  have p1 := Int.mul_le_mul a2 a4 (by omega) (by omega)
  have p2 := Int.mul_le_mul a1 a3 (by omega) (by omega)
  omega
section
variable {P : String → Option Fn} {con : String → Option D} {k : Nat} {cs : List Int} {ls : List (List (List Int))} {o : List Nat} {old : Option (List (Option Int))} {turns : List Int}
def bigR (ls : List (List (List Int))) : Nat := (longestOf ls).toNat
def worthAt (ls : List (List (List Int))) (o : List Nat) (old : Option (List (Option Int))) (turns : List Int) (a : Nat) (x : Int) : Int := match ls[a]? with
  | some rs => worthOf o old turns (ls.length + 1) (bigR ls) (rankOf rs x).toNat a x
  | none => 0
theorem wp_powers {cl : PCalls} {b : Int} {R : Nat} {a0 a1 a2 a3 a5 a6 a9 a10 a11 a12 a13 a14 : Option D} (h1 : 1 ≤ b) (h2 : b ≤ 8) (hR : R ≤ 5) :
    forP (forT cl con (.nm 8) c_l_worth_b1) ((List.range R).map fun (i : Nat) => D.int (i : Int)) [a0, a1, a2, a3, some (.int b), a5, a6, some (.lst [.int 1]), none, a9, a10, a11, a12, a13, a14] = .nx [a0, a1, a2, a3, some (.int b), a5, a6, some (intL (powL b R)), none, a9, a10, a11, a12, a13, a14] := by
  obtain ⟨G', e, rfl⟩ := for_inv (st := forT cl con (.nm 8) c_l_worth_b1) (n := R) (f := fun (i : Nat) => D.int (i : Int)) (I := fun i G => G = [a0, a1, a2, a3, some (.int b), a5, a6, some (intL (powL b i)), none, a9, a10, a11, a12, a13, a14])
    (fun i G hi e => by
      subst e
      refine ⟨_, ?_, rfl⟩
      have q := at_powL_last (b := b) (j := i)
      obtain ⟨r1, r2⟩ := pow_rg7 (b := b) (i := i) h1 h2 (by omega)
      have mu := mulI64 (i := b ^ i) (j := b) (by omega) (by omega)
      have hl : (powL b i).length < 16000000 := by rw [powL_len]; omega
      have e2 : (powL b i).map D.int ++ [.int (b ^ i * b)] = (powL b (i + 1)).map D.int := by rw [powL_succ, List.map_append, Int.pow_succ]; rfl
      generalize powL b i = u at *
      generalize powL b (i + 1) = v at *
      generalize b ^ i = w at *
      simp -implicitDefEqProofs [c_l_worth_b1, q, mu, hl, e2])
    (G := [a0, a1, a2, a3, some (.int b), a5, a6, some (.lst [.int 1]), none, a9, a10, a11, a12, a13, a14]) (by simp [powL])
  exact e
theorem wp_turns {cl : PCalls} {R r : Nat} {a : Nat} {w : Int} {a0 a1 a3 a4 a7 a8 a12 a13 a14 : Option D} (hR : R ≤ 5) (hr : r ≤ R) (hw : 0 ≤ w ∧ w ≤ 268435457) (nd : turns.Nodup) (hl : turns.length ≤ 7) :
    forP (forT cl con (.nm 11) c_l_worth_b2) (turns.map .int) [a0, a1, some (.int (a : Int)), a3, a4, some (.int (R : Int)), some (.int (r : Int)), a7, a8, some (.int w), some (.int 0), none, a12, a13, a14] =
      .nx [a0, a1, some (.int (a : Int)), a3, a4, some (.int (R : Int)), some (.int (r : Int)), a7, a8, some (.int (w * ((R : Int) + 1) ^ turns.length)), some (.int (pickOf ((R : Int) + 1) ((R : Int) + 1 - r) a turns)), none, a12, a13, a14] := by
  have loop := for_fold (st := forT cl con (.nm 11) c_l_worth_b2) (inj := D.int) (enc := fun s : Int × Int => [a0, a1, some (.int (a : Int)), a3, a4, some (.int (R : Int)), some (.int (r : Int)), a7, a8, some (.int s.1), some (.int s.2), none, a12, a13, a14]) (f := wStep (R : Int) (r : Int) (a : Int)) (xs := turns) (s := (w, 0)) fun pre t post e => by
    have nd1 : pre.Nodup := by rw [e] at nd; exact (List.nodup_append.mp nd).1
    have l1 : pre.length ≤ 7 := by rw [e] at hl; simp at hl; omega
    have f := wStep_fold (R : Int) (r : Int) (a : Int) pre w 0 nd1
    obtain ⟨a3, a4⟩ := pow_rg7 (b := (R : Int) + 1) (i := pre.length) (by omega) (by omega) (by omega)
    obtain ⟨a5, a6⟩ := pickOf_rg (q := (R : Int) + 1) (c := (R : Int) + 1 - r) (a := a) (by omega) (by omega) pre (by omega)
    have p1 := Int.mul_le_mul hw.2 a4 (by omega) (by omega)
    have p2 := Int.mul_nonneg hw.1 (show 0 ≤ ((R : Int) + 1) ^ pre.length by omega)
    rw [f, Int.zero_mul, Int.zero_add]
    generalize w * ((R : Int) + 1) ^ pre.length = u at *
    generalize pickOf ((R : Int) + 1) ((R : Int) + 1 - r) a pre = v at *
    have mu := mulI64 (i := u) (j := (R : Int) + 1) (by omega) (by omega)
    have mv := mulI64 (i := v) (j := (R : Int) + 1) (by omega) (by omega)
    by_cases c : t = a
    · simp -implicitDefEqProofs [c_l_worth_b2, mu, mv, wStep, c]
    · simp -implicitDefEqProofs [c_l_worth_b2, mu, mv, wStep, c]
  rw [wStep_fold _ _ _ _ _ _ nd, Int.zero_mul, Int.zero_add] at loop
  exact loop
theorem p_worth (h : P "_law_worth" = some c_l_worth) (hl : P "_law_longest" = some c_l_longest) (hr : P "_law_rank" = some c_l_rank) (ok : Okw cs ls) (oa : OkAim ls.length cs.length o old turns) {a : Nat} {x : Int} {rs : List (List Int)} (ha : ls[a]? = some rs) (hx : x ∈ rs.flatten) :
    pF P con (k + 2) "_law_worth" [wishD cs ls, aimD o old turns, .int a, .int x] = .ret (.int (worthAt ls o old turns a x)) [] := by
  have mem := List.mem_of_getElem? ha
  have alt : a < ls.length := (List.getElem?_eq_some_iff.mp ha).1
  have e1 := p_longest (P := P) (con := con) (k := k) hl ok
  have e2 := p_rank (P := P) (con := con) (k := k) (cs := cs) (x := x) hr ha
  have r1 := rankOf_rg rs x
  have r2 := rankOf_pos hx
  have r3 := longest_rg ok
  have r4 := longest_ge mem
  have ww : worthAt ls o old turns a x = worthOf o old turns (ls.length + 1) (bigR ls) (rankOf rs x).toNat a x := by unfold worthAt; rw [ha]
  rw [ww]
  unfold bigR
  have l1 := ok.l1; have l2 := ok.l2
  have tl := oa.tl
  obtain ⟨R, hR⟩ : ∃ R : Nat, longestOf ls = R := ⟨(longestOf ls).toNat, by omega⟩
  obtain ⟨r, hr'⟩ : ∃ r : Nat, rankOf rs x = r := ⟨(rankOf rs x).toNat, by omega⟩
  rw [hR] at e1 r3 r4
  rw [hr'] at e2 r1 r2
  rw [hR, hr', Int.toNat_natCast, Int.toNat_natCast]
  obtain ⟨b, hb⟩ : ∃ b : Int, b = (ls.length : Int) + 1 := ⟨_, rfl⟩
  rw [← hb]
  have pw := fun a0 a1 a2 a3 a5 a6 a9 a10 a11 a12 a13 a14 => wp_powers (cl := pF P con (k + 1)) (con := con) (b := b) (R := R) (a0 := a0) (a1 := a1) (a2 := a2) (a3 := a3) (a5 := a5) (a6 := a6) (a9 := a9) (a10 := a10) (a11 := a11) (a12 := a12) (a13 := a13) (a14 := a14) (by omega) (by omega) (by omega)
  have bo := byOrd_rg (o := o) (b := b) (R := R) (r := r) (by omega) (by omega) (by omega) (by omega) (by omega)
  have bw := baseW_rg (o := o) (old := old) (b := b) (R := R) (r := r) (a := a) (x := x) (by omega) (by omega) (by omega) (by omega) (by omega)
  have pt := fun a0 a1 a3 a4 a7 a8 a12 a13 a14 => wp_turns (turns := turns) (cl := pF P con (k + 1)) (con := con) (R := R) (r := r) (a := a) (w := baseW o old b R r a x) (a0 := a0) (a1 := a1) (a3 := a3) (a4 := a4) (a7 := a7) (a8 := a8) (a12 := a12) (a13 := a13) (a14 := a14) (by omega) (by omega) (by omega) oa.td (by omega)
  have x1 := at_powLI (b := b) (i := (R : Int) - (r : Int)) (j := R) (by omega) (by omega)
  have x2 := at_powL (b := b) (i := R) (j := R) (Nat.le_refl _)
  have x3 := at_powLI (b := b) (i := (r : Int) - 1) (j := R) (by omega) (by omega)
  rw [show ((R : Int) - (r : Int)).toNat = R - r by omega] at x1
  rw [show ((r : Int) - 1).toNat = r - 1 by omega] at x3
  have mu := mulI64 (i := byOrd o b R r) (j := b) (by omega) (by omega)
  have rg := rng_nat (n := R) (by omega)
  rw [pF_at h rfl]
  unfold worthOf
  have eo : ∀ t : List Nat, eqX (.str o) (.str t) = some (decide (o = t)) := fun t => eqX_ss o t
  have hL : (ls.map ranksD).length = ls.length := List.length_map _
  simp only [wishD, intL] at *
  generalize ls.map ranksD = L at *
  obtain ⟨e1', e2', q1, q2, q3, q4⟩ : ∃ e1' e2' : Bool, eqX (.str o) (.str [102, 117, 108, 108]) = some e1' ∧ eqX (.str o) (.str [108, 97, 115, 116, 115]) = some e2' ∧ byOrd o b R r = (if e2' then b ^ R - b ^ (r - 1) else if e1' then b ^ (R - r) + b ^ R else b ^ (R - r)) ∧ (e1' = true → e2' = true → False) := by
    refine ⟨_, _, eo _, eo _, ?_, fun z1 z2 => ?_⟩
    · unfold byOrd; simp only [decide_eq_true_eq]
    · simp only [decide_eq_true_eq] at z1 z2
      rw [z1] at z2; cases z2
  obtain ⟨hh, eh⟩ : ∃ hh, hh = oldHit old a x := ⟨_, rfl⟩
  have bw' : byOrd o b R r * b + (if hh = true then 1 else 0) = baseW o old b R r a x := by rw [eh]; rfl
  generalize baseW o old b R r a x = W at *
  generalize byOrd o b R r = Y at *
  generalize b ^ R = p2 at *
  generalize b ^ (R - r) = p1 at *
  generalize b ^ (r - 1) = p3 at *
  generalize powL b R = PL at *
  have fin : ∀ q13 : D, q13 = oldD old → (hh = false → (q13 = .non ∨ ∃ (xs : List (Option Int)) (z : Option Int), q13 = .lst (xs.map optD) ∧ L2.atI (xs.map optD) (a : Int) = some (optD z) ∧ eqX (optD z) (.int x) = some false)) → (hh = true → ∃ (xs : List (Option Int)) (z : Option Int), q13 = .lst (xs.map optD) ∧ L2.atI (xs.map optD) (a : Int) = some (optD z) ∧ eqX (optD z) (.int x) = some true) →
      toPC c_l_worth.io (pSs (pF P con (k + 1)) con c_l_worth.body (envD [.tup [.lst (cs.map .int), .lst L], .tup [.str o, q13, .lst (turns.map .int)], .int a, .int x] c_l_worth.ns)) = .ret (.int (W * ((R : Int) + 1) ^ turns.length + pickOf ((R : Int) + 1) ((R : Int) + 1 - r) a turns)) [] := by
    intro q13 _ h0 h1
    cases hh with
    | true =>
      obtain ⟨xs, z, rfl, g1, g2⟩ := h1 rfl
      rw [if_pos rfl] at bw'
      cases e1' with
      | true =>
        cases e2' with
        | true => exact (q4 rfl rfl).elim
        | false =>
          rw [if_neg (by decide), if_pos rfl] at q3
          subst q3
          simp -implicitDefEqProofs [c_l_worth, envD, keepD, hL, ← hb, e1, e2, rg, pw, x1, x2, x3, q1, q2, mu, g1, g2, bw', pt]
      | false =>
        cases e2' with
        | true =>
          rw [if_pos rfl] at q3
          subst q3
          simp -implicitDefEqProofs [c_l_worth, envD, keepD, hL, ← hb, e1, e2, rg, pw, x1, x2, x3, q1, q2, mu, g1, g2, bw', pt]
        | false =>
          rw [if_neg (by decide), if_neg (by decide)] at q3
          subst q3
          simp -implicitDefEqProofs [c_l_worth, envD, keepD, hL, ← hb, e1, e2, rg, pw, x1, x2, x3, q1, q2, mu, g1, g2, bw', pt]
    | false =>
      rw [if_neg (by decide), Int.add_zero] at bw'
      rcases h0 rfl with rfl | ⟨xs, z, rfl, g1, g2⟩
      · cases e1' with
        | true =>
          cases e2' with
          | true => exact (q4 rfl rfl).elim
          | false =>
            rw [if_neg (by decide), if_pos rfl] at q3
            subst q3
            simp -implicitDefEqProofs [c_l_worth, envD, keepD, hL, ← hb, e1, e2, rg, pw, x1, x2, x3, q1, q2, mu, bw', pt]
        | false =>
          cases e2' with
          | true =>
            rw [if_pos rfl] at q3
            subst q3
            simp -implicitDefEqProofs [c_l_worth, envD, keepD, hL, ← hb, e1, e2, rg, pw, x1, x2, x3, q1, q2, mu, bw', pt]
          | false =>
            rw [if_neg (by decide), if_neg (by decide)] at q3
            subst q3
            simp -implicitDefEqProofs [c_l_worth, envD, keepD, hL, ← hb, e1, e2, rg, pw, x1, x2, x3, q1, q2, mu, bw', pt]
      · cases e1' with
        | true =>
          cases e2' with
          | true => exact (q4 rfl rfl).elim
          | false =>
            rw [if_neg (by decide), if_pos rfl] at q3
            subst q3
            simp -implicitDefEqProofs [c_l_worth, envD, keepD, hL, ← hb, e1, e2, rg, pw, x1, x2, x3, q1, q2, mu, g1, g2, bw', pt]
        | false =>
          cases e2' with
          | true =>
            rw [if_pos rfl] at q3
            subst q3
            simp -implicitDefEqProofs [c_l_worth, envD, keepD, hL, ← hb, e1, e2, rg, pw, x1, x2, x3, q1, q2, mu, g1, g2, bw', pt]
          | false =>
            rw [if_neg (by decide), if_neg (by decide)] at q3
            subst q3
            simp -implicitDefEqProofs [c_l_worth, envD, keepD, hL, ← hb, e1, e2, rg, pw, x1, x2, x3, q1, q2, mu, g1, g2, bw', pt]
  refine fin _ rfl (fun hf => ?_) fun ht => ?_
  · cases old with
    | none => exact .inl rfl
    | some xs =>
      have hxs := oa.ol xs rfl
      obtain ⟨z, hz⟩ : ∃ z, xs[a]? = some z := ⟨_, List.getElem?_eq_getElem (by omega)⟩
      refine .inr ⟨xs, z, rfl, at_nat (by simp [hz]), ?_⟩
      rw [eqX_opt]
      have : oldHit (some xs) a x = decide (z = some x) := by simp only [oldHit, hz]; simp
      rw [hf, this] at eh
      rw [← eh]
  · cases old with
    | none => rw [ht] at eh; cases eh
    | some xs =>
      have hxs := oa.ol xs rfl
      obtain ⟨z, hz⟩ : ∃ z, xs[a]? = some z := ⟨_, List.getElem?_eq_getElem (by omega)⟩
      refine ⟨xs, z, rfl, at_nat (by simp [hz]), ?_⟩
      rw [eqX_opt]
      have : oldHit (some xs) a x = decide (z = some x) := by simp only [oldHit, hz]; simp
      rw [ht, this] at eh
      rw [← eh]
end
end Tv

namespace Tv
open PySem
def c_l_paper_e1 : E := .bin .mul (.frz 7) (.dix (.frz 1) (.frz 18))
def c_l_paper_b1 : Ss := 
    (.cons (.setF 13 (.bin .add (.lst (.cons (.int 0) .nil)) (.lc [18] (.nm 18) (.keys (.frz 1)) (.so (.cmp .eq (.ix (.frz 18) (.int 1)) (.frz 10))) c_l_paper_e1))) 
    (.cons (.setF 14 (.ix (.frz 13) (.bin .mod (.ix (.frz 6) (.bin .add (.bin .add (.int 2) (.frz 8)) (.frz 10))) (.blt .len (.cons (.frz 13) .nil))))) (.kill [13] 
    (.cons (.mut .append (.nm 9) (.cons (.blt .max (.cons (.int 0) (.cons (.bin .add (.frz 14) (.ix (.lst (.cons (.int 0) (.cons (.int 0) (.cons (.int 0) (.cons (.neg (.int 1)) (.cons (.int 1) (.cons (.ix (.frz 6) (.int 1)) .nil))))))) (.ix (.frz 6) (.bin .add (.int 2) (.frz 10))))) .nil))) .nil)) (.kill [10, 14] .nil)))))
def c_l_paper_e2 : E := .bin .sub (.bin .mul (.frz 7) (.dix (.frz 1) (.frz 18))) (.ix (.var 9) (.ix (.frz 18) (.int 1)))
def c_l_paper_b2 : Ss := 
    (.cons (.setF 15 (.lc [18] (.nm 18) (.keys (.frz 1)) (.so (.cmp .eq (.ix (.frz 18) (.int 0)) (.frz 12))) c_l_paper_e2)) 
    (.cons (.setF 16 (.blt .max (.cons (.bin .add (.lst (.cons (.int 0) .nil)) (.frz 15)) .nil))) (.kill [15] 
    (.cons (.setF 17 (.ix (.lst (.cons (.int 0) (.cons (.int 0) (.cons (.int 0) (.cons (.int 0) (.cons (.int 0) (.cons (.int 0) (.cons (.int 1) (.cons (.ix (.frz 6) (.int 1)) (.cons (.bin .sub (.int 0) (.frz 4)) .nil)))))))))) (.ix (.frz 6) (.bin .add (.bin .add (.int 2) (.bin .mul (.int 2) (.frz 8))) (.frz 12))))) (.kill [12] 
    (.cons (.mut .append (.nm 11) (.cons (.bin .add (.frz 16) (.frz 17)) .nil)) (.kill [16, 17] .nil)))))))
def c_l_paper : Fn := ⟨5, 19, [], 
  (.cons (.setF 5 (.bin .add (.bin .add (.bin .add (.lst (.cons (.int 3) (.cons (.bin .pow (.int 10) (.int 9)) .nil))) (.bin .mul (.lst (.cons (.int 6) .nil)) (.blt .len (.cons (.ix (.frz 0) (.int 0)) .nil)))) (.bin .mul (.lst (.cons (.int 8) .nil)) (.blt .len (.cons (.ix (.frz 0) (.int 0)) .nil)))) (.bin .mul (.lst (.cons (.int 9) .nil)) (.blt .len (.cons (.ix (.frz 0) (.int 1)) .nil))))) 
  (.cons (.setF 6 (.call "_law_numbers" (.cons (.frz 2) (.cons (.frz 3) (.cons (.frz 5) .nil))))) 
  (.cons (.setF 7 (.ix (.lst (.cons (.int 1) (.cons (.int 1) (.cons (.bin .add (.int 2) (.ix (.frz 6) (.int 1))) .nil)))) (.ix (.frz 6) (.int 0)))) 
  (.cons (.setF 8 (.blt .len (.cons (.ix (.frz 0) (.int 0)) .nil))) 
  (.cons (.set 9 (.lst .nil)) 
  (.cons (.for (.nm 10) (.rng1 (.frz 8)) c_l_paper_b1) 
  (.cons (.set 11 (.lst .nil)) 
  (.cons (.for (.nm 12) (.rng1 (.blt .len (.cons (.ix (.frz 0) (.int 1)) .nil))) c_l_paper_b2) 
  (.cons (.ret [] (.tup (.cons (.mov 7) (.cons (.mov 11) (.cons (.mov 9) .nil))))) .nil)))))))))⟩

/-! ### dicts of pairs -/
theorem eqD_pair (p q : Int × Int) : eqD (pairD p) (pairD q) = decide (p = q) := by
  obtain ⟨a, b⟩ := p
  obtain ⟨c, d⟩ := q
  rw [show pairD (a, b) = .tup [.int a, .int b] from rfl, show pairD (c, d) = .tup [.int c, .int d] from rfl, eqD_tup]
  have h1 := eqD_ii a c
  have h2 := eqD_ii b d
  simp only [eqD, D.py] at h1 h2
  simp only [D.pys, PyData.eqvAll, D.py, h1, h2]
  rw [Bool.eq_iff_iff]; simp
theorem dHas_pairs (ps : List (Int × Int)) (p : Int × Int) : dHas (ps.map pairD) (pairD p) = decide (p ∈ ps) := by
  unfold dHas
  rw [List.any_map, Bool.eq_iff_iff, List.any_eq_true]
  simp only [Function.comp_def, eqD_pair, decide_eq_true_eq]
  constructor
  · rintro ⟨q, h1, rfl⟩; exact h1
  · intro h; exact ⟨p, h, rfl⟩
theorem dGet_pairs (W : Int × Int → D) : ∀ (ps : List (Int × Int)) (p : Int × Int), p ∈ ps → dGet (ps.map pairD) (ps.map W) (pairD p) = some (W p)
  | [], p, h => by cases h
  | q :: ps, p, h => by
    unfold dGet
    rw [List.map_cons, List.map_cons, List.zip_cons_cons, List.find?_cons]
    by_cases c : q = p
    · subst c; rw [eqD_pair, decide_eq_true rfl]; rfl
    · rw [eqD_pair, decide_eq_false c]
      have ih := dGet_pairs W ps p ((List.mem_cons.mp h).resolve_left fun e => c e.symm)
      unfold dGet at ih
      exact ih
theorem imms_pairs (ps : List (Int × Int)) : D.imms (ps.map pairD) = true := by
  rw [imms_all, List.all_map, List.all_eq_true]
  intro p _
  rfl
abbrev worthsD (W : Int × Int → Int) (ps : List (Int × Int)) : D := .dct true (ps.map pairD) (ps.map fun p => .int (W p))
theorem dix_pairs {W : Int × Int → Int} {ps : List (Int × Int)} {p : Int × Int} (h : p ∈ ps) : dixD (worthsD W ps) (pairD p) = some (.int (W p)) := by
  unfold dixD
  simp only [dicD, Option.bind_some]
  rw [dGet_pairs (fun p => .int (W p)) ps p h]
  rfl
theorem pairs_nodup {cs : List Int} {ls : List (List (List Int))} (ok : Okw cs ls) : (pairsOf ls).Nodup := by
  unfold pairsOf
  rw [List.nodup_iff_pairwise_ne, List.pairwise_flatMap]
  constructor
  · rintro ⟨rs, a⟩ h
    rw [List.mem_zipIdx_iff_getElem?] at h
    have okr := ok.lr rs (List.mem_of_getElem? h)
    unfold pairsAt
    rw [List.pairwise_map]
    have nd : (wishedOf rs).Nodup := ((sortI_perm _).nodup_iff).mpr okr.nd
    exact (List.nodup_iff_pairwise_ne.mp nd).imp fun h e => h (by cases e; rfl)
  · have : (ls.zipIdx.map Prod.snd).Pairwise (· ≠ ·) := by
      rw [List.zipIdx_map_snd, ← List.nodup_iff_pairwise_ne]
      exact List.nodup_range'
    rw [List.pairwise_map] at this
    refine this.imp fun {p q} h x hx y hy e => ?_
    subst e
    obtain ⟨z, _, e1⟩ := List.mem_map.mp hx
    obtain ⟨z', _, e2⟩ := List.mem_map.mp hy
    rw [← e2] at e1
    have := congrArg Prod.fst e1
    simp only at this
    omega
section
variable {P : String → Option Fn} {con : String → Option D} {k : Nat} {cs : List Int} {ls : List (List (List Int))} {o : List Nat} {old : Option (List (Option Int))} {turns : List Int}
def wv (ls : List (List (List Int))) (o : List Nat) (old : Option (List (Option Int))) (turns : List Int) (p : Int × Int) : Int := worthAt ls o old turns p.1.toNat p.2
theorem wv_rg (ok : Okw cs ls) (oa : OkAim ls.length cs.length o old turns) {p : Int × Int} (h : p ∈ pairsOf ls) : 1 ≤ wv ls o old turns p ∧ wv ls o old turns p ≤ 4503700000000000 := by
  obtain ⟨a, rs, h1, h2, h3⟩ := mem_pairs h
  unfold wv
  rw [h2, Int.toNat_natCast]
  unfold worthAt
  rw [h1]
  have r1 := rankOf_rg rs p.2
  have r2 := rankOf_pos h3
  have r3 := longest_rg ok
  have r4 := longest_ge (List.mem_of_getElem? h1)
  have l1 := ok.l1; have l2 := ok.l2
  have tl := oa.tl
  unfold bigR
  exact worthOf_rg (by omega) (by omega) (by omega) (by omega) (by omega) (by omega)
theorem pairs_len (ok : Okw cs ls) : (pairsOf ls).length ≤ 1000 := by
  have key : ∀ xs : List (List (List Int) × Nat), (∀ x ∈ xs, x.1 ∈ ls) → (xs.flatMap pairsAt).length ≤ 6 * xs.length := by
    intro xs
    induction xs with
    | nil => intro _; simp
    | cons x xs ih =>
      intro h
      have := ih fun y hy => h y (by simp [hy])
      have w := wished_len (ok.lr x.1 (h x (by simp)))
      have c2 := ok.c2
      have e : (pairsAt x).length = (wishedOf x.1).length := by unfold pairsAt; rw [List.length_map]
      rw [List.flatMap_cons, List.length_append, List.length_cons]
      omega
  have := key ls.zipIdx fun x hx => by
    obtain ⟨rs, a⟩ := x
    rw [List.mem_zipIdx_iff_getElem?] at hx
    exact List.mem_of_getElem? hx
  rw [List.length_zipIdx] at this
  have l2 := ok.l2
  unfold pairsOf
  omega
theorem p_worths (h : P "_law_worths" = some c_l_worths) (hw : P "_law_worth" = some c_l_worth) (h1 : P "_law_wishes_of" = some c_l_wishes_of) (h2 : P "_law_wished" = some c_l_wished) (hl : P "_law_longest" = some c_l_longest) (hr : P "_law_rank" = some c_l_rank) (ok : Okw cs ls) (oa : OkAim ls.length cs.length o old turns) :
    pF P con (k + 3) "_law_worths" [wishD cs ls, aimD o old turns] = .ret (worthsD (wv ls o old turns) (pairsOf ls)) [] := by
  have ew := p_wishes_of (P := P) (con := con) (k := k) h1 h2 ok
  have nd := pairs_nodup ok
  have len := pairs_len ok
  have loop := for_fold (st := forT (pF P con (k + 2)) con (.tp [3, 4]) c_l_worths_b1) (inj := pairD) (enc := fun pre : List (Int × Int) => [some (wishD cs ls), some (aimD o old turns), some (worthsD (wv ls o old turns) pre), none, none]) (f := fun pre p => pre ++ [p]) (xs := pairsOf ls) (s := []) fun pre p post e => by
    rw [foldl_snoc, List.nil_append]
    obtain ⟨a, rs, g1, g2, g3⟩ := mem_pairs (p := p) (by rw [e]; simp)
    have w := p_worth (P := P) (con := con) (k := k) hw hl hr ok oa g1 g3
    have hn : p ∉ pre := fun hp => by
      rw [e] at nd
      exact (List.nodup_append.mp nd).2.2 p hp p (by simp) rfl
    have hl : pre.length < 16777216 := by
      have : (pairsOf ls).length = pre.length + (post.length + 1) := by rw [e]; simp
      omega
    have hh := dHas_pairs pre p
    rw [decide_eq_false hn] at hh
    have dp : dstoD (some (worthsD (wv ls o old turns) pre)) (pairD p) (.int (wv ls o old turns p)) = some (worthsD (wv ls o old turns) (pre ++ [p])) := by
      unfold dstoD dPut
      simp only [hh]
      rw [if_pos (by simp [keyFits, pairD, D.kyB]; omega)]
      simp
    have wp : worthAt ls o old turns a p.2 = wv ls o old turns p := by unfold wv; rw [g2, Int.toNat_natCast]
    rw [wp, ← g2] at w
    rw [show pairD p = .tup [.int p.1, .int p.2] from rfl] at dp ⊢
    generalize wv ls o old turns p = W at *
    simp only [wishD, aimD, worthsD, intL] at *
    generalize ls.map ranksD = L at *
    generalize oldD old = OD at *
    generalize cs.map D.int = C at *
    simp -implicitDefEqProofs [c_l_worths_b1, w]
    simp -implicitDefEqProofs [List.map_append] at dp
    simp -implicitDefEqProofs [dp]
  rw [foldl_snoc, List.nil_append] at loop
  rw [pF_at h rfl]
  simp only [wishD, aimD, worthsD, intL, List.map_nil] at *
  generalize ls.map ranksD = L at *
  generalize oldD old = OD at *
  simp -implicitDefEqProofs [c_l_worths, envD, keepD, ew, loop]
/-! ### papers drawn -/
theorem pick_int (xs : List Int) {i : Int} (h : 0 ≤ i ∧ i < xs.length) : ∃ v ∈ xs, L2.atI (xs.map D.int) i = some (.int v) := by
  obtain ⟨n, rfl⟩ : ∃ n : Nat, i = n := ⟨i.toNat, by omega⟩
  have hn : n < xs.length := by omega
  exact ⟨xs[n], List.getElem_mem _, at_nat (by simp [hn])⟩
abbrev zsP (n m : Nat) : List Int := [3, 1000000000] ++ List.replicate m 6 ++ List.replicate m 8 ++ List.replicate n 9
theorem zsP_pos {n m : Nat} : ∀ z ∈ zsP n m, 0 < z := fun z hz => by
  simp [zsP, List.mem_replicate] at hz
  omega
theorem zsP_sizes {n m : Nat} (h2 : n ≤ 7) (h3 : m ≤ 6) : Sizes (zsP n m) where
  pos := zsP_pos
  big z hz := by
    have : (2 : Int) ^ 64 = 18446744073709551616 := by decide
    simp [zsP, List.mem_replicate] at hz
    omega
  len := by simp [zsP]; omega
/-- what a drawn paper keeps -/
structure OkP (n m : Nat) (W : Int × Int → Int) (ps : List (Int × Int)) (low t : Int) (asks prices : List Int) : Prop where
  t1 : 1 ≤ t
  t2 : t ≤ 1000000001
  al : asks.length = n
  pl : prices.length = m
  ag : ∀ x ∈ asks, 0 - low ≤ x ∧ x < 9200000000000000000000000
  pg : ∀ x ∈ prices, 0 ≤ x ∧ x < 4600000000000000000000000
  cov : ∀ (a x : Nat) (ask price : Int), ((a : Int), (x : Int)) ∈ ps → asks[a]? = some ask → prices[x]? = some price → t * W ((a : Int), (x : Int)) - low ≤ ask + price
def WOk (n m : Nat) (W : Int × Int → Int) (ps : List (Int × Int)) : Prop := ps.length ≤ 1000 ∧ ∀ p ∈ ps, (1 ≤ W p ∧ W p ≤ 4503700000000000) ∧ (0 ≤ p.1 ∧ p.1 < n) ∧ (0 ≤ p.2 ∧ p.2 < m)
theorem WOk.mul {n m : Nat} {W : Int × Int → Int} {ps : List (Int × Int)} {t : Int} (w : WOk n m W ps) (ht : 1 ≤ t ∧ t ≤ 1000000001) {p : Int × Int} (h : p ∈ ps) : 1 ≤ t * W p ∧ t * W p ≤ 4503700004503700000000000 := by
  obtain ⟨⟨a1, a2⟩, _⟩ := w.2 p h
  have p1 := Int.mul_le_mul ht.2 a2 (by omega) (by omega)
  have p2 := Int.mul_le_mul ht.1 a1 (by omega) (by omega)
  omega
theorem pp_price {cl : PCalls} {n m : Nat} {W : Int × Int → Int} {ps : List (Int × Int)} {t : Int} {dg pr : List Int} {i : Nat} {a0 a2 a3 a4 a5 a10 a11 a12 a15 a16 a17 : Option D} (w : WOk n m W ps) (ht : 1 ≤ t ∧ t ≤ 1000000001) (hm : m ≤ 6) (hi : i < m) (hp : pr.length = i)
    (g1 : ∃ q, L2.atI (dg.map D.int) 1 = some (.int q) ∧ 0 ≤ q ∧ q < 1000000000) (g2 : ∃ q, L2.atI (dg.map D.int) (2 + (i : Int)) = some (.int q) ∧ 0 ≤ q ∧ q < 6) (g3 : ∃ q, L2.atI (dg.map D.int) (2 + (m : Int) + (i : Int)) = some (.int q) ∧ 0 ≤ q ∧ q < 8) :
    ∃ v, (0 ≤ v ∧ v < 4600000000000000000000000) ∧ forT cl con (.nm 10) c_l_paper_b1 (.int (i : Int)) [a0, some (worthsD W ps), a2, a3, a4, a5, some (intL dg), some (.int t), some (.int m), some (intL pr), a10, a11, a12, none, none, a15, a16, a17, none] =
      .nx [a0, some (worthsD W ps), a2, a3, a4, a5, some (intL dg), some (.int t), some (.int m), some (intL (pr ++ [v])), none, a11, a12, none, none, a15, a16, a17, none] := by
  obtain ⟨q1, g1, b1⟩ := g1
  obtain ⟨q2, g2, b2⟩ := g2
  obtain ⟨q3, g3, b3⟩ := g3
  have lc := lc_filter (st := lcT cl con [18] (.nm 18) (.so (.cmp .eq (.ix (.frz 18) (.int 1)) (.frz 10))) c_l_paper_e1 [a0, some (worthsD W ps), a2, a3, a4, a5, some (intL dg), some (.int t), some (.int m), some (intL pr), some (.int (i : Int)), a11, a12, none, none, a15, a16, a17, none]) (inj := pairD) (p := fun p => decide (p.2 = (i : Int))) (f := fun p => .int (t * W p)) (xs := ps) fun p hpp => by
    have dx := dix_pairs (W := W) hpp
    have mb := w.mul ht hpp
    have wb := (w.2 p hpp).1
    have mu := mulB (i := t) (j := W p) (by omega) (by omega)
    rw [show pairD p = .tup [.int p.1, .int p.2] from rfl] at dx ⊢
    generalize worthsD W ps = WD at *
    generalize W p = Wp at *
    by_cases c : p.2 = (i : Int)
    · simp -implicitDefEqProofs [c_l_paper_e1, c] at dx ⊢
      simp -implicitDefEqProofs [c_l_paper_e1, dx, mu]
    · simp -implicitDefEqProofs [c_l_paper_e1, c]
  obtain ⟨sl, hsl⟩ : ∃ sl, sl = (ps.filter fun p => decide (p.2 = (i : Int))).map fun p => t * W p := ⟨_, rfl⟩
  have esl : ((ps.filter fun p => decide (p.2 = (i : Int))).map fun p => D.int (t * W p)) = sl.map D.int := by rw [hsl, List.map_map]; rfl
  rw [esl] at lc
  have lsl : sl.length ≤ 1000 := by rw [hsl, List.length_map]; exact Nat.le_trans (List.length_filter_le _ _) w.1
  have bsl : ∀ v ∈ (0 : Int) :: sl, 0 ≤ v ∧ v ≤ 4503700004503700000000000 := fun v hv => by
    rcases List.mem_cons.mp hv with rfl | hv
    · omega
    · rw [hsl] at hv
      obtain ⟨p, hpp, rfl⟩ := List.mem_map.mp hv
      have := w.mul ht (List.mem_filter.mp hpp).1
      omega
  have fr := fmI (a := q3) (m := ((sl.length + 1 : Nat) : Int)) (by omega)
  obtain ⟨s, hs, g4⟩ := pick_int ((0 : Int) :: sl) (i := q3.fmod ((sl.length + 1 : Nat) : Int)) (by rw [List.length_cons]; exact fr)
  have sb := bsl s hs
  obtain ⟨e, he, g5⟩ := pick_int [0, 0, 0, -1, 1, q1] (i := q2) (by simp; omega)
  have eb : -1 ≤ e ∧ e < 1000000000 := by
    simp only [List.mem_cons, List.not_mem_nil, or_false] at he
    omega
  simp only [List.map_cons, List.map_nil] at g4 g5
  have md : binD .mod (.int q3) (.int ((sl.length + 1 : Nat) : Int)) = some (.int (q3.fmod ((sl.length + 1 : Nat) : Int))) := modI (by omega)
  have hl : pr.length < 16000000 := by omega
  have hk := keysK_d true (ps.map pairD) (ps.map fun p => .int (W p)) (imms_pairs ps)
  have hl1 : 1 + sl.length ≤ 16777216 := by omega
  have hl2 : (ps.map pairD).length ≤ 16000000 := by rw [List.length_map]; have := w.1; omega
  refine ⟨if s + e > 0 then s + e else 0, by split <;> omega, ?_⟩
  generalize q3.fmod ((sl.length + 1 : Nat) : Int) = q4 at *
  simp only [worthsD, intL] at *
  generalize ps.map pairD = PD at *
  generalize (ps.map fun p => D.int (W p)) = WD at *
  simp -implicitDefEqProofs at md hl1
  simp -implicitDefEqProofs [c_l_paper_b1, hk, hl2, lc, hl1, g1, g2, g3, md, g4, g5, hl]
theorem pp_ask {cl : PCalls} {n m : Nat} {W : Int × Int → Int} {ps : List (Int × Int)} {t low : Int} {dg pr as : List Int} {i : Nat} {a0 a2 a3 a5 a10 a12 a13 a14 : Option D} (w : WOk n m W ps) (ht : 1 ≤ t ∧ t ≤ 1000000001) (hlow : 0 ≤ low ∧ low ≤ 1) (hn : n ≤ 7) (hm : m ≤ 6) (hi : i < n) (hp : as.length = i) (hpr : pr.length = m) (bpr : ∀ x ∈ pr, 0 ≤ x ∧ x < 4600000000000000000000000)
    (g1 : ∃ q, L2.atI (dg.map D.int) 1 = some (.int q) ∧ 0 ≤ q ∧ q < 1000000000) (g2 : ∃ q, L2.atI (dg.map D.int) (2 + 2 * (m : Int) + (i : Int)) = some (.int q) ∧ 0 ≤ q ∧ q < 9) :
    ∃ v, (0 - low ≤ v ∧ v < 9200000000000000000000000) ∧ (∀ (x : Nat) (price : Int), ((i : Int), (x : Int)) ∈ ps → pr[x]? = some price → t * W ((i : Int), (x : Int)) - low ≤ v + price) ∧
      forT cl con (.nm 12) c_l_paper_b2 (.int (i : Int)) [a0, some (worthsD W ps), a2, a3, some (.int low), a5, some (intL dg), some (.int t), some (.int m), some (intL pr), a10, some (intL as), a12, a13, a14, none, none, none, none] =
      .nx [a0, some (worthsD W ps), a2, a3, some (.int low), a5, some (intL dg), some (.int t), some (.int m), some (intL pr), a10, some (intL (as ++ [v])), none, a13, a14, none, none, none, none] := by
  obtain ⟨q1, g1, b1⟩ := g1
  obtain ⟨q2, g2, b2⟩ := g2
  obtain ⟨pf, hpf⟩ : ∃ pf : Int → Int, pf = fun x => (pr[x.toNat]?).getD 0 := ⟨_, rfl⟩
  have hpf2 : ∀ p ∈ ps, pr[p.2.toNat]? = some (pf p.2) ∧ L2.atI (pr.map D.int) p.2 = some (.int (pf p.2)) ∧ 0 ≤ pf p.2 ∧ pf p.2 < 4600000000000000000000000 := fun p hpp => by
    have r := (w.2 p hpp).2.2
    have hx : p.2.toNat < pr.length := by omega
    have e : pr[p.2.toNat]? = some (pf p.2) := by rw [hpf]; simp [hx]
    exact ⟨e, at_int r.1 (by rw [List.getElem?_map, e]; rfl), bpr _ (List.mem_of_getElem? e)⟩
  have lc := lc_filter (st := lcT cl con [18] (.nm 18) (.so (.cmp .eq (.ix (.frz 18) (.int 0)) (.frz 12))) c_l_paper_e2 [a0, some (worthsD W ps), a2, a3, some (.int low), a5, some (intL dg), some (.int t), some (.int m), some (intL pr), a10, some (intL as), some (.int (i : Int)), a13, a14, none, none, none, none]) (inj := pairD) (p := fun p => decide (p.1 = (i : Int))) (f := fun p => .int (t * W p - pf p.2)) (xs := ps) fun p hpp => by
    have dx := dix_pairs (W := W) hpp
    have mb := w.mul ht hpp
    have wb := (w.2 p hpp).1
    have mu := mulB (i := t) (j := W p) (by omega) (by omega)
    have px := (hpf2 p hpp).2.1
    rw [show pairD p = .tup [.int p.1, .int p.2] from rfl] at dx ⊢
    generalize worthsD W ps = WD at *
    generalize W p = Wp at *
    by_cases c : p.1 = (i : Int)
    · simp -implicitDefEqProofs [c_l_paper_e2, c] at dx ⊢
      simp -implicitDefEqProofs [c_l_paper_e2, dx, mu, px]
    · simp -implicitDefEqProofs [c_l_paper_e2, c]
  obtain ⟨sl, hsl⟩ : ∃ sl, sl = (ps.filter fun p => decide (p.1 = (i : Int))).map fun p => t * W p - pf p.2 := ⟨_, rfl⟩
  have esl : ((ps.filter fun p => decide (p.1 = (i : Int))).map fun p => D.int (t * W p - pf p.2)) = sl.map D.int := by rw [hsl, List.map_map]; rfl
  rw [esl] at lc
  have lsl : sl.length ≤ 1000 := by rw [hsl, List.length_map]; exact Nat.le_trans (List.length_filter_le _ _) w.1
  have bsl : ∀ v ∈ sl, v ≤ 4503700004503700000000000 := fun v hv => by
    rw [hsl] at hv
    obtain ⟨p, hpp, rfl⟩ := List.mem_map.mp hv
    have hpp := (List.mem_filter.mp hpp).1
    have := w.mul ht hpp
    have := (hpf2 p hpp).2.2
    omega
  obtain ⟨ms1, ms2, ms3⟩ := maxL_spec sl 0
  have hmax : bltD .max [.lst (D.int 0 :: sl.map D.int)] = some (.int (maxL 0 sl)) := max_ints (x := 0) (xs := sl)
  have mb : 0 ≤ maxL 0 sl ∧ maxL 0 sl ≤ 4503700004503700000000000 := by
    rcases ms1 with e | e
    · omega
    · have := bsl _ e; omega
  obtain ⟨e, he, g5⟩ := pick_int [0, 0, 0, 0, 0, 0, 1, q1, 0 - low] (i := q2) (by simp; omega)
  have eb : 0 - low ≤ e ∧ e < 1000000000 := by
    simp only [List.mem_cons, List.not_mem_nil, or_false] at he
    omega
  simp only [List.map_cons, List.map_nil] at g5
  have hl : as.length < 16000000 := by omega
  have hk := keysK_d true (ps.map pairD) (ps.map fun p => .int (W p)) (imms_pairs ps)
  have hl1 : 1 + sl.length ≤ 16777216 := by omega
  have hl2 : (ps.map pairD).length ≤ 16000000 := by rw [List.length_map]; have := w.1; omega
  have m2 : binD .mul (.int 2) (.int (m : Int)) = some (.int (2 * (m : Int))) := mulI64 (by omega) (by omega)
  refine ⟨maxL 0 sl + e, by omega, fun x price hx hpx => ?_, ?_⟩
  · have h1 := hpf2 _ hx
    have h2 := h1.1
    simp only [Int.toNat_natCast] at h2
    rw [hpx] at h2
    cases h2
    have := ms3 (t * W ((i : Int), (x : Int)) - pf (x : Int)) (by rw [hsl]; exact List.mem_map.mpr ⟨((i : Int), (x : Int)), List.mem_filter.mpr ⟨hx, by simp⟩, rfl⟩)
    omega
  · generalize maxL 0 sl = mx at *
    simp only [worthsD, intL] at *
    generalize ps.map pairD = PD at *
    generalize (ps.map fun p => D.int (W p)) = WD at *
    simp -implicitDefEqProofs at hl1 g5
    simp -implicitDefEqProofs [c_l_paper_b2, hk, hl2, lc, hl1, hmax, g1, g2, m2, g5, hl]
theorem p_paper (h : P "_law_paper" = some c_l_paper) (hq : P "_law_numbers" = some c_numbers) (ok : Okw cs ls) {W : Int × Int → Int} {ps : List (Int × Int)} (w : WOk ls.length cs.length W ps) {c s low : Int} (hs : -1000000000 < s ∧ s < 1000000000) (hlow : 0 ≤ low ∧ low ≤ 1) :
    ∃ t asks prices, pF P con (k + 2) "_law_paper" [wishD cs ls, worthsD W ps, .int c, .int s, .int low] = .ret (paperD t asks prices) [] ∧ OkP ls.length cs.length W ps low t asks prices := by
  obtain ⟨n, hn⟩ : ∃ n, n = ls.length := ⟨_, rfl⟩
  obtain ⟨m, hm⟩ : ∃ m, m = cs.length := ⟨_, rfl⟩
  rw [← hn, ← hm] at w ⊢
  have c1 := ok.c1; have c2 := ok.c2; have l1 := ok.l1; have l2 := ok.l2
  have e2 := p_numbers (P := P) (con := con) (k := k) (c := c) (s := s) hq (zsP_sizes (n := n) (m := m) (by omega) (by omega)) hs
  obtain ⟨n0, hn0⟩ : ∃ n0, n0 = nums c s (zsP n m) := ⟨_, rfl⟩
  have hget : ∀ (i : Nat) (z : Int), (zsP n m)[i]? = some z → ∃ d, L2.atI (n0.map D.int) (i : Int) = some (.int d) ∧ 0 ≤ d ∧ d < z := fun i z hz => by
    obtain ⟨d, e, b⟩ := nums_get (c := c) (s := s) zsP_pos hz
    rw [← hn0] at e
    exact ⟨d, at_nat (by rw [List.getElem?_map, e]; rfl), b⟩
  rw [← hn0] at e2
  obtain ⟨d0, g0, b0⟩ := hget 0 _ rfl
  obtain ⟨d1, g1, b1⟩ := hget 1 _ rfl
  have hA : ∀ i, i < m → ∃ q, L2.atI (n0.map D.int) (2 + (i : Int)) = some (.int q) ∧ 0 ≤ q ∧ q < 6 := fun i hi => by
    have := hget (2 + i) 6 (by
      rw [List.getElem?_append_left (by simp; omega), List.getElem?_append_left (by simp; omega), List.getElem?_append_right (by simp)]
      simp [List.getElem?_replicate]; omega)
    rwa [show ((2 + i : Nat) : Int) = 2 + (i : Int) by omega] at this
  have hB : ∀ i, i < m → ∃ q, L2.atI (n0.map D.int) (2 + (m : Int) + (i : Int)) = some (.int q) ∧ 0 ≤ q ∧ q < 8 := fun i hi => by
    have := hget (2 + m + i) 8 (by
      rw [List.getElem?_append_left (by simp; omega), List.getElem?_append_right (by simp; omega)]
      simp [List.getElem?_replicate]; omega)
    rwa [show ((2 + m + i : Nat) : Int) = 2 + (m : Int) + (i : Int) by omega] at this
  have hC : ∀ i, i < n → ∃ q, L2.atI (n0.map D.int) (2 + 2 * (m : Int) + (i : Int)) = some (.int q) ∧ 0 ≤ q ∧ q < 9 := fun i hi => by
    have := hget (2 + 2 * m + i) 9 (by
      rw [List.getElem?_append_right (by simp; omega)]
      simp [List.getElem?_replicate]; omega)
    rwa [show ((2 + 2 * m + i : Nat) : Int) = 2 + 2 * (m : Int) + (i : Int) by omega] at this
  obtain ⟨t, ht, gt⟩ := pick_int [1, 1, 2 + d1] (i := d0) (by simp; omega)
  have bt : 1 ≤ t ∧ t ≤ 1000000001 := by
    simp only [List.mem_cons, List.not_mem_nil, or_false] at ht
    omega
  simp only [List.map_cons, List.map_nil] at gt
  have z : intL (zsP n m) = .lst ([D.int 3, .int 1000000000] ++ List.replicate m (D.int 6) ++ List.replicate m (D.int 8) ++ List.replicate n (D.int 9)) := by simp [zsP, intL]
  obtain ⟨zs, hzs⟩ : ∃ zs, zs = ([D.int 3, .int 1000000000] ++ List.replicate m (D.int 6) ++ List.replicate m (D.int 8) ++ List.replicate n (D.int 9)) := ⟨_, rfl⟩
  rw [z, ← hzs] at e2
  obtain ⟨G1, f1, pr, rfl, prl, prb⟩ := for_inv (st := forT (pF P con (k + 1)) con (.nm 10) c_l_paper_b1) (n := m) (f := fun (i : Nat) => D.int (i : Int)) (I := fun i G => ∃ pr : List Int, G = [some (wishD cs ls), some (worthsD W ps), some (.int c), some (.int s), some (.int low), some (.lst zs), some (intL n0), some (.int t), some (.int m), some (intL pr), none, none, none, none, none, none, none, none, none] ∧ pr.length = i ∧ ∀ x ∈ pr, 0 ≤ x ∧ x < 4600000000000000000000000)
    (fun i G hi ⟨pr, e1, e2, e3⟩ => by
      subst e1
      obtain ⟨v, v1, v2⟩ := pp_price (cl := pF P con (k + 1)) (con := con) (a0 := some (wishD cs ls)) (a2 := some (.int c)) (a3 := some (.int s)) (a4 := some (.int low)) (a5 := some (.lst zs)) (a10 := none) (a11 := none) (a12 := none) (a15 := none) (a16 := none) (a17 := none) w bt (by omega) hi e2 ⟨d1, g1, b1⟩ (hA i hi) (hB i hi)
      refine ⟨_, v2, _, rfl, by simp [e2], fun x hx => ?_⟩
      rcases List.mem_append.mp hx with h | h
      · exact e3 x h
      · simp at h; subst h; exact v1)
    (G := [some (wishD cs ls), some (worthsD W ps), some (.int c), some (.int s), some (.int low), some (.lst zs), some (intL n0), some (.int t), some (.int m), some (.lst []), none, none, none, none, none, none, none, none, none]) ⟨[], rfl, rfl, by simp⟩
  obtain ⟨G2, f2, as, rfl, asl, asb, asc⟩ := for_inv (st := forT (pF P con (k + 1)) con (.nm 12) c_l_paper_b2) (n := n) (f := fun (i : Nat) => D.int (i : Int)) (I := fun i G => ∃ as : List Int, G = [some (wishD cs ls), some (worthsD W ps), some (.int c), some (.int s), some (.int low), some (.lst zs), some (intL n0), some (.int t), some (.int m), some (intL pr), none, some (intL as), none, none, none, none, none, none, none] ∧ as.length = i ∧ (∀ x ∈ as, 0 - low ≤ x ∧ x < 9200000000000000000000000) ∧
      ∀ (a x : Nat) (ask price : Int), ((a : Int), (x : Int)) ∈ ps → as[a]? = some ask → pr[x]? = some price → t * W ((a : Int), (x : Int)) - low ≤ ask + price)
    (fun i G hi ⟨as, e1, e2, e3, e4⟩ => by
      subst e1
      obtain ⟨v, v1, v2, v3⟩ := pp_ask (cl := pF P con (k + 1)) (con := con) (a0 := some (wishD cs ls)) (a2 := some (.int c)) (a3 := some (.int s)) (a5 := some (.lst zs)) (a10 := none) (a12 := none) (a13 := none) (a14 := none) w bt hlow (by omega) (by omega) hi e2 prl prb ⟨d1, g1, b1⟩ (hC i hi)
      refine ⟨_, v3, _, rfl, by simp [e2], fun x hx => ?_, fun a x ask price h1 h2 h3 => ?_⟩
      · rcases List.mem_append.mp hx with h | h
        · exact e3 x h
        · simp at h; subst h; exact v1
      · by_cases c : a < i
        · rw [List.getElem?_append_left (by omega)] at h2
          exact e4 a x ask price h1 h2 h3
        · rw [List.getElem?_append_right (by omega)] at h2
          have : a = i := by
            have := (List.getElem?_eq_some_iff.mp h2).1
            simp at this
            omega
          subst this
          rw [e2, Nat.sub_self] at h2
          cases h2
          exact v2 x price h1 h3)
    (G := [some (wishD cs ls), some (worthsD W ps), some (.int c), some (.int s), some (.int low), some (.lst zs), some (intL n0), some (.int t), some (.int m), some (intL pr), none, some (.lst []), none, none, none, none, none, none, none]) ⟨[], rfl, rfl, by simp, by simp⟩
  refine ⟨t, as, pr, ?_, ⟨bt.1, bt.2, asl, prl, asb, prb, asc⟩⟩
  have hL : (ls.map ranksD).length = n := by rw [List.length_map, hn]
  have hCl : (cs.map D.int).length = m := by rw [List.length_map, hm]
  have r1 := rng_nat (n := m) (by omega)
  have r2 := rng_nat (n := n) (by omega)
  have p9 : binD .pow (.int 10) (.int 9) = some (.int 1000000000) := by rw [pow_ii, if_pos (by decide)]; rfl
  have m1 : binD .mul (.lst [.int 6]) (.int (m : Int)) = some (.lst (List.replicate m (.int 6))) := mul_rep (by omega)
  have m2 : binD .mul (.lst [.int 8]) (.int (m : Int)) = some (.lst (List.replicate m (.int 8))) := mul_rep (by omega)
  have m3 : binD .mul (.lst [.int 9]) (.int (n : Int)) = some (.lst (List.replicate n (.int 9))) := mul_rep (by omega)
  obtain ⟨z1, hz1⟩ : ∃ z1, z1 = [D.int 3, .int 1000000000] ++ List.replicate m (D.int 6) := ⟨_, rfl⟩
  obtain ⟨z2, hz2⟩ : ∃ z2, z2 = z1 ++ List.replicate m (D.int 8) := ⟨_, rfl⟩
  have zl1 : z1.length = 2 + m := by rw [hz1]; simp; omega
  have zl2 : z2.length = 2 + m + m := by rw [hz2, List.length_append, zl1]; simp
  have add1 : binD .add (.lst [.int 3, .int 1000000000]) (.lst (List.replicate m (.int 6))) = some (.lst z1) := by rw [add_ll, if_pos (by simp; omega), hz1]
  have add2 : binD .add (.lst z1) (.lst (List.replicate m (.int 8))) = some (.lst z2) := by rw [add_ll, if_pos (by simp; omega), hz2]
  have add3 : binD .add (.lst z2) (.lst (List.replicate n (.int 9))) = some (.lst zs) := by rw [add_ll, if_pos (by simp; omega), hzs, hz2, hz1]
  rw [pF_at h rfl]
  simp only [wishD, worthsD, intL, paperD] at *
  generalize ls.map ranksD = L at *
  generalize cs.map D.int = C at *
  generalize ps.map pairD = PD at *
  generalize (ps.map fun p => D.int (W p)) = WD at *
  clear hget hA hB hC asc asb prb
  have g0' : L2.atI (n0.map D.int) 0 = some (.int d0) := g0
  have g1' : L2.atI (n0.map D.int) 1 = some (.int d1) := g1
  generalize zs = zs' at *
  simp -implicitDefEqProofs [c_l_paper, envD, keepD, hL, hCl, p9, m1, m2, m3, -add_ll, add1, add2, add3, e2, g0', g1', gt, r1, f1, r2, f2]
end
end Tv

-- tree
open PySem PySem.Spec PyProof.Rows L2
namespace Kx
open Tv

abbrev f_is_whole : Fn := c_is_whole

abbrev f_need_row : Fn := c_need_row

abbrev f_is_many : Fn := c_is_many

abbrev f_is_thing : Fn := c_is_thing

abbrev f_are_ranks : Fn := c_are_ranks

abbrev f_look_at_wishes : Fn := c_look_at_wishes

abbrev f_claim_of : Fn := c_claim_of

abbrev f__law_cell_at : Fn := c_l_cell_at

abbrev f__law_numbers : Fn := c_numbers

abbrev f__law_wishes : Fn := c_l_wishes

abbrev f__law_rank : Fn := c_l_rank

abbrev f__law_longest : Fn := c_l_longest

abbrev f__law_wished : Fn := c_l_wished

abbrev f__law_aim : Fn := c_l_aim

abbrev f__law_worth : Fn := c_l_worth

abbrev f__law_copy : Fn := c_l_copy

abbrev f__law_is_number : Fn := c_l_is_number

abbrev f__law_wishes_of : Fn := c_l_wishes_of

abbrev f__law_worths : Fn := c_l_worths

abbrev f__law_claim : Fn := c_l_claim

abbrev f__law_paper : Fn := c_l_paper

def f_law_b1 : Ss := 
    (.cons (.setF 7 (.call "_law_paper" (.cons (.frz 1) (.cons (.frz 3) (.cons (.frz 6) (.cons (.bin .add (.int 31) (.frz 5)) (.cons (.int 0) .nil))))))) (.kill [5, 6] 
    (.cons (.setF 8 (.tup (.cons (.ix (.frz 7) (.int 0)) (.cons (.blt .list (.cons (.ix (.frz 7) (.int 1)) .nil)) (.cons (.blt .list (.cons (.ix (.frz 7) (.int 2)) .nil)) .nil))))) 
    (.cons (.setF 9 (.call "claim_of" (.cons (.frz 4) (.cons (.frz 8) .nil)))) 
    (.cons (.ife (.or (.not (.call "_law_is_number" (.cons (.frz 9) .nil))) (.or (.cmp .ne (.frz 9) (.call "_law_claim" (.cons (.frz 1) (.cons (.frz 7) .nil)))) (.cmp .ne (.frz 8) (.frz 7)))) (
      (.cons (.ret [] (.bl false)) .nil)) ((.kill [7, 8, 9] .nil))) .nil)))))
def f_law : Fn := ⟨1, 10, [], 
  (.cons (.setF 1 (.call "_law_wishes" (.cons (.frz 0) (.cons (.int 1) (.cons (.int 6) (.cons (.int 7) (.cons (.int 5) .nil))))))) 
  (.cons (.setF 2 (.call "_law_aim" (.cons (.frz 1) (.cons (.call "_law_cell_at" (.cons (.frz 0) (.cons (.int 0) .nil))) (.cons (.int 5) .nil))))) 
  (.cons (.setF 3 (.call "_law_worths" (.cons (.frz 1) (.cons (.frz 2) .nil)))) 
  (.cons (.setF 4 (.call "_law_copy" (.cons (.frz 1) .nil))) 
  (.cons (.for (.tp [5, 6]) (.enum (.bin .add (.lst (.cons (.call "_law_cell_at" (.cons (.frz 0) (.cons (.int 2) .nil))) .nil)) (.sl (.frz 0) (.so (.int 9)) (.so (.int 63))))) f_law_b1) 
  (.cons (.ret [] (.cmp .eq (.frz 4) (.frz 1))) .nil))))))⟩

def top (i : Nat) : Stmt := PySem.Challenge.pw_wishdeal_k36_claims.main.body.getD i (.Pass ⟨0, 0, 0, 0⟩)
def cs : List (String × D) := [("MOST_THINGS", .int (6)), ("MOST_COPIES", .int (7)), ("MOST_ASKERS", .int (7)), ("MOST_RANKS", .int (5))]
def as : List (String × String) := []
def d_is_whole : Df := ⟨("is_whole", none), ⟨("is_whole", none), "is_whole", "is_whole", defArgs (top 1), defBody (top 1), defScope (top 1), [], []⟩, f_is_whole, ⟨["thing"], ["thing"]⟩⟩
def d_need_row : Df := ⟨("need_row", none), ⟨("need_row", none), "need_row", "need_row", defArgs (top 10), defBody (top 10), defScope (top 10), [], []⟩, f_need_row, ⟨["part", "thing", "most"], ["part", "thing", "most"]⟩⟩
def d_is_many : Df := ⟨("is_many", none), ⟨("is_many", none), "is_many", "is_many", defArgs (top 11), defBody (top 11), defScope (top 11), [], []⟩, f_is_many, ⟨["thing"], ["thing"]⟩⟩
def d_is_thing : Df := ⟨("is_thing", none), ⟨("is_thing", none), "is_thing", "is_thing", defArgs (top 12), defBody (top 12), defScope (top 12), [], []⟩, f_is_thing, ⟨["thing", "many"], ["thing", "many"]⟩⟩
def d_are_ranks : Df := ⟨("are_ranks", none), ⟨("are_ranks", none), "are_ranks", "are_ranks", defArgs (top 13), defBody (top 13), defScope (top 13), [], []⟩, f_are_ranks, ⟨["thing", "many", "seen", "rank", "one"], ["thing", "many"]⟩⟩
def d_look_at_wishes : Df := ⟨("look_at_wishes", none), ⟨("look_at_wishes", none), "look_at_wishes", "look_at_wishes", defArgs (top 14), defBody (top 14), defScope (top 14), [], []⟩, f_look_at_wishes, ⟨["thing", "copies", "lists", "number", "many", "ranks"], ["thing"]⟩⟩
def d_claim_of : Df := ⟨("claim_of", none), ⟨("claim_of", none), "claim_of", "claim_of", defArgs (top 16), defBody (top 16), defScope (top 16), [], []⟩, f_claim_of, ⟨["wishes", "paper", "claim", "many", "price"], ["wishes", "paper"]⟩⟩
def d__law_cell_at : Df := ⟨("_law_cell_at", none), ⟨("_law_cell_at", none), "_law_cell_at", "_law_cell_at", defArgs (top 18), defBody (top 18), defScope (top 18), [], []⟩, f__law_cell_at, ⟨["_law_script", "_law_k"], ["_law_script", "_law_k"]⟩⟩
def d__law_numbers : Df := ⟨("_law_numbers", none), ⟨("_law_numbers", none), "_law_numbers", "_law_numbers", defArgs (top 19), defBody (top 19), defScope (top 19), [], []⟩, f__law_numbers, ⟨["_law_cell", "_law_salt", "_law_sizes", "_law_number", "_law_left", "_law_found", "_law_k", "_law_one"], ["_law_cell", "_law_salt", "_law_sizes"]⟩⟩
def d__law_wishes : Df := ⟨("_law_wishes", none), ⟨("_law_wishes", none), "_law_wishes", "_law_wishes", defArgs (top 20), defBody (top 20), defScope (top 20), [], []⟩, f__law_wishes, ⟨["_law_script", "_law_at", "_law_most_things", "_law_most_askers", "_law_most_ranks", "_law_sizes", "_law_digits", "_law_copies", "_law_lists", "_law_asker", "_law_cell", "_law_places", "_law_ranks", "_law_rank_here", "_law_digit", "_law_row", "_law_thing"], ["_law_script", "_law_at", "_law_most_things", "_law_most_askers", "_law_most_ranks"]⟩⟩
def d__law_rank : Df := ⟨("_law_rank", none), ⟨("_law_rank", none), "_law_rank", "_law_rank", defArgs (top 21), defBody (top 21), defScope (top 21), [], []⟩, f__law_rank, ⟨["_law_wishes_here", "_law_asker", "_law_thing", "_law_k", "_law_row"], ["_law_wishes_here", "_law_asker", "_law_thing"]⟩⟩
def d__law_longest : Df := ⟨("_law_longest", none), ⟨("_law_longest", none), "_law_longest", "_law_longest", defArgs (top 22), defBody (top 22), defScope (top 22), [], []⟩, f__law_longest, ⟨["_law_wishes_here", "_law_ranks"], ["_law_wishes_here"]⟩⟩
def d__law_wished : Df := ⟨("_law_wished", none), ⟨("_law_wished", none), "_law_wished", "_law_wished", defArgs (top 23), defBody (top 23), defScope (top 23), [], []⟩, f__law_wished, ⟨["_law_wishes_here", "_law_asker"], ["_law_wishes_here", "_law_asker"]⟩⟩
def d__law_aim : Df := ⟨("_law_aim", none), ⟨("_law_aim", none), "_law_aim", "_law_aim", defArgs (top 24), defBody (top 24), defScope (top 24), [], []⟩, f__law_aim, ⟨["_law_wishes_here", "_law_cell", "_law_salt", "_law_askers", "_law_sizes", "_law_digits", "_law_old", "_law_turns", "_law_digit"], ["_law_wishes_here", "_law_cell", "_law_salt"]⟩⟩
def d__law_worth : Df := ⟨("_law_worth", none), ⟨("_law_worth", none), "_law_worth", "_law_worth", defArgs (top 25), defBody (top 25), defScope (top 25), [], []⟩, f__law_worth, ⟨["_law_wishes_here", "_law_aim_here", "_law_asker", "_law_thing", "_law_base", "_law_ranks", "_law_rank_here", "_law_powers", "_law_k", "_law_worth_here", "_law_pick", "_law_one", "_law_order", "_law_old", "_law_turns"], ["_law_wishes_here", "_law_aim_here", "_law_asker", "_law_thing"]⟩⟩
def d__law_copy : Df := ⟨("_law_copy", none), ⟨("_law_copy", none), "_law_copy", "_law_copy", defArgs (top 26), defBody (top 26), defScope (top 26), [], []⟩, f__law_copy, ⟨["_law_wishes_here", "_law_lists", "_law_ranks", "_law_row"], ["_law_wishes_here"]⟩⟩
def d__law_is_number : Df := ⟨("_law_is_number", none), ⟨("_law_is_number", none), "_law_is_number", "_law_is_number", defArgs (top 27), defBody (top 27), defScope (top 27), [], []⟩, f__law_is_number, ⟨["_law_thing"], ["_law_thing"]⟩⟩
def d__law_wishes_of : Df := ⟨("_law_wishes_of", none), ⟨("_law_wishes_of", none), "_law_wishes_of", "_law_wishes_of", defArgs (top 28), defBody (top 28), defScope (top 28), [], []⟩, f__law_wishes_of, ⟨["_law_wishes_here", "_law_found", "_law_asker", "_law_thing"], ["_law_wishes_here"]⟩⟩
def d__law_worths : Df := ⟨("_law_worths", none), ⟨("_law_worths", none), "_law_worths", "_law_worths", defArgs (top 29), defBody (top 29), defScope (top 29), [], []⟩, f__law_worths, ⟨["_law_wishes_here", "_law_aim_here", "_law_found", "_law_asker", "_law_thing"], ["_law_wishes_here", "_law_aim_here"]⟩⟩
def d__law_claim : Df := ⟨("_law_claim", none), ⟨("_law_claim", none), "_law_claim", "_law_claim", defArgs (top 30), defBody (top 30), defScope (top 30), [], []⟩, f__law_claim, ⟨["_law_wishes_here", "_law_paper_here", "_law_many", "_law_price"], ["_law_wishes_here", "_law_paper_here"]⟩⟩
def d__law_paper : Df := ⟨("_law_paper", none), ⟨("_law_paper", none), "_law_paper", "_law_paper", defArgs (top 31), defBody (top 31), defScope (top 31), [], []⟩, f__law_paper, ⟨["_law_wishes_here", "_law_worths_here", "_law_cell", "_law_salt", "_law_lower", "_law_sizes", "_law_digits", "_law_times", "_law_things", "_law_prices", "_law_thing", "_law_asks", "_law_asker", "_law_some", "_law_price", "_law_wants", "_law_ask", "_law_more", "_law_pair"], ["_law_wishes_here", "_law_worths_here", "_law_cell", "_law_salt", "_law_lower"]⟩⟩
def d_law : Df := ⟨("law", none), ⟨("law", none), "law", "law", defArgs (top 32), defBody (top 32), defScope (top 32), [], []⟩, f_law, ⟨["_law_script", "_law_wishes_here", "_law_aim_here", "_law_worths_here", "_law_handed", "_law_k", "_law_cell", "_law_paper_here", "_law_given", "_law_found"], ["_law_script"]⟩⟩
def ds : List Df := [d_is_whole, d_need_row, d_is_many, d_is_thing, d_are_ranks, d_look_at_wishes, d_claim_of, d__law_cell_at, d__law_numbers, d__law_wishes, d__law_rank, d__law_longest, d__law_wished, d__law_aim, d__law_worth, d__law_copy, d__law_is_number, d__law_wishes_of, d__law_worths, d__law_claim, d__law_paper, d_law]
theorem p_is_whole : d_is_whole.plain := ⟨rfl, rfl, rfl, fun _ _ _ _ _ _ us hl => match us, hl with | [_], _ => rfl⟩
theorem g_is_whole : d_is_whole.good ds as = true := by kernel_rfl
theorem p_need_row : d_need_row.plain := ⟨rfl, rfl, rfl, fun _ _ _ _ _ _ us hl => match us, hl with | [_, _, _], _ => rfl⟩
theorem g_need_row : d_need_row.good ds as = true := by kernel_rfl
theorem p_is_many : d_is_many.plain := ⟨rfl, rfl, rfl, fun _ _ _ _ _ _ us hl => match us, hl with | [_], _ => rfl⟩
theorem g_is_many : d_is_many.good ds as = true := by kernel_rfl
theorem p_is_thing : d_is_thing.plain := ⟨rfl, rfl, rfl, fun _ _ _ _ _ _ us hl => match us, hl with | [_, _], _ => rfl⟩
theorem g_is_thing : d_is_thing.good ds as = true := by kernel_rfl
theorem p_are_ranks : d_are_ranks.plain := ⟨rfl, rfl, rfl, fun _ _ _ _ _ _ us hl => match us, hl with | [_, _], _ => rfl⟩
theorem g_are_ranks : d_are_ranks.good ds as = true := by kernel_rfl
theorem p_look_at_wishes : d_look_at_wishes.plain := ⟨rfl, rfl, rfl, fun _ _ _ _ _ _ us hl => match us, hl with | [_], _ => rfl⟩
theorem g_look_at_wishes : d_look_at_wishes.good ds as = true := by kernel_rfl
theorem p_claim_of : d_claim_of.plain := ⟨rfl, rfl, rfl, fun _ _ _ _ _ _ us hl => match us, hl with | [_, _], _ => rfl⟩
theorem g_claim_of : d_claim_of.good ds as = true := by kernel_rfl
theorem p__law_cell_at : d__law_cell_at.plain := ⟨rfl, rfl, rfl, fun _ _ _ _ _ _ us hl => match us, hl with | [_, _], _ => rfl⟩
theorem g__law_cell_at : d__law_cell_at.good ds as = true := by kernel_rfl
theorem p__law_numbers : d__law_numbers.plain := ⟨rfl, rfl, rfl, fun _ _ _ _ _ _ us hl => match us, hl with | [_, _, _], _ => rfl⟩
theorem g__law_numbers : d__law_numbers.good ds as = true := by kernel_rfl
theorem p__law_wishes : d__law_wishes.plain := ⟨rfl, rfl, rfl, fun _ _ _ _ _ _ us hl => match us, hl with | [_, _, _, _, _], _ => rfl⟩
theorem g__law_wishes : d__law_wishes.good ds as = true := by kernel_rfl
theorem p__law_rank : d__law_rank.plain := ⟨rfl, rfl, rfl, fun _ _ _ _ _ _ us hl => match us, hl with | [_, _, _], _ => rfl⟩
theorem g__law_rank : d__law_rank.good ds as = true := by kernel_rfl
theorem p__law_longest : d__law_longest.plain := ⟨rfl, rfl, rfl, fun _ _ _ _ _ _ us hl => match us, hl with | [_], _ => rfl⟩
theorem g__law_longest : d__law_longest.good ds as = true := by kernel_rfl
theorem p__law_wished : d__law_wished.plain := ⟨rfl, rfl, rfl, fun _ _ _ _ _ _ us hl => match us, hl with | [_, _], _ => rfl⟩
theorem g__law_wished : d__law_wished.good ds as = true := by kernel_rfl
theorem p__law_aim : d__law_aim.plain := ⟨rfl, rfl, rfl, fun _ _ _ _ _ _ us hl => match us, hl with | [_, _, _], _ => rfl⟩
theorem g__law_aim : d__law_aim.good ds as = true := by kernel_rfl
theorem p__law_worth : d__law_worth.plain := ⟨rfl, rfl, rfl, fun _ _ _ _ _ _ us hl => match us, hl with | [_, _, _, _], _ => rfl⟩
theorem g__law_worth : d__law_worth.good ds as = true := by kernel_rfl
theorem p__law_copy : d__law_copy.plain := ⟨rfl, rfl, rfl, fun _ _ _ _ _ _ us hl => match us, hl with | [_], _ => rfl⟩
theorem g__law_copy : d__law_copy.good ds as = true := by kernel_rfl
theorem p__law_is_number : d__law_is_number.plain := ⟨rfl, rfl, rfl, fun _ _ _ _ _ _ us hl => match us, hl with | [_], _ => rfl⟩
theorem g__law_is_number : d__law_is_number.good ds as = true := by kernel_rfl
theorem p__law_wishes_of : d__law_wishes_of.plain := ⟨rfl, rfl, rfl, fun _ _ _ _ _ _ us hl => match us, hl with | [_], _ => rfl⟩
theorem g__law_wishes_of : d__law_wishes_of.good ds as = true := by kernel_rfl
theorem p__law_worths : d__law_worths.plain := ⟨rfl, rfl, rfl, fun _ _ _ _ _ _ us hl => match us, hl with | [_, _], _ => rfl⟩
theorem g__law_worths : d__law_worths.good ds as = true := by kernel_rfl
theorem p__law_claim : d__law_claim.plain := ⟨rfl, rfl, rfl, fun _ _ _ _ _ _ us hl => match us, hl with | [_, _], _ => rfl⟩
theorem g__law_claim : d__law_claim.good ds as = true := by kernel_rfl
theorem p__law_paper : d__law_paper.plain := ⟨rfl, rfl, rfl, fun _ _ _ _ _ _ us hl => match us, hl with | [_, _, _, _, _], _ => rfl⟩
theorem g__law_paper : d__law_paper.good ds as = true := by kernel_rfl
theorem p_law : d_law.plain := ⟨rfl, rfl, rfl, fun _ _ _ _ _ _ us hl => match us, hl with | [_], _ => rfl⟩
theorem g_law : d_law.good ds as = true := by kernel_rfl
theorem txt : Txt ds cs as := ⟨fun e he => by
  simp only [ds, List.mem_cons, List.not_mem_nil, or_false] at he
  rcases he with rfl | rfl | rfl | rfl | rfl | rfl | rfl | rfl | rfl | rfl | rfl | rfl | rfl | rfl | rfl | rfl | rfl | rfl | rfl | rfl | rfl | rfl
  · exact g_is_whole
  · exact g_need_row
  · exact g_is_many
  · exact g_is_thing
  · exact g_are_ranks
  · exact g_look_at_wishes
  · exact g_claim_of
  · exact g__law_cell_at
  · exact g__law_numbers
  · exact g__law_wishes
  · exact g__law_rank
  · exact g__law_longest
  · exact g__law_wished
  · exact g__law_aim
  · exact g__law_worth
  · exact g__law_copy
  · exact g__law_is_number
  · exact g__law_wishes_of
  · exact g__law_worths
  · exact g__law_claim
  · exact g__law_paper
  · exact g_law
  , fun e he => by
  simp only [ds, List.mem_cons, List.not_mem_nil, or_false] at he
  rcases he with rfl | rfl | rfl | rfl | rfl | rfl | rfl | rfl | rfl | rfl | rfl | rfl | rfl | rfl | rfl | rfl | rfl | rfl | rfl | rfl | rfl | rfl
  · exact p_is_whole
  · exact p_need_row
  · exact p_is_many
  · exact p_is_thing
  · exact p_are_ranks
  · exact p_look_at_wishes
  · exact p_claim_of
  · exact p__law_cell_at
  · exact p__law_numbers
  · exact p__law_wishes
  · exact p__law_rank
  · exact p__law_longest
  · exact p__law_wished
  · exact p__law_aim
  · exact p__law_worth
  · exact p__law_copy
  · exact p__law_is_number
  · exact p__law_wishes_of
  · exact p__law_worths
  · exact p__law_claim
  · exact p__law_paper
  · exact p_law
  , by decide +kernel⟩
def loose0 : List PySem.Str := ["MOST_THINGS", "MOST_COPIES", "MOST_ASKERS", "MOST_RANKS", "is_whole", "DealError", "NoWishes", "need_row", "is_many", "is_thing", "are_ranks", "look_at_wishes", "claim_of", "_law_cell_at", "_law_numbers", "_law_wishes", "_law_rank", "_law_longest", "_law_wished", "_law_aim", "_law_worth", "_law_copy", "_law_is_number", "_law_wishes_of", "_law_worths", "_law_claim", "_law_paper"]
def loose : List PySem.Str := loose0
def tab : List Tab := [⟨"_law_cell_at", [(.rd .n .any), .im], (.rd .n .any), [], []⟩, ⟨"_law_numbers", [(.rd .n .any), .im, (.rd .n (.ol .im))], (.ol .im), [], []⟩, ⟨"_law_wishes", [(.rd .n .any), .im, .im, .im, .im], (.ot [(.ol .im), (.ol (.ol (.rd .c (.ol .im))))]), [], []⟩, ⟨"_law_aim", [(.rd .n (.ot [(.ol .im), (.ol (.ol (.rd .c (.ol .im))))])), (.rd .n .any), .im], (.ot [.im, (.ol .im), (.ol .im)]), [], []⟩, ⟨"_law_wished", [(.rd .n (.ot [(.ol .im), (.ol (.ol (.rd .c (.ol .im))))])), .im], (.ol .im), [], []⟩, ⟨"_law_wishes_of", [(.rd .n (.ot [(.ol .im), (.ol (.ol (.rd .c (.ol .im))))]))], (.ol .im), [], []⟩, ⟨"_law_longest", [(.rd .n (.ot [(.ol .im), (.ol (.ol (.rd .c (.ol .im))))]))], .im, [], []⟩, ⟨"_law_rank", [(.rd .n (.ot [(.ol .im), (.ol (.ol (.rd .c (.ol .im))))])), .im, .im], .im, [], []⟩, ⟨"_law_worth", [(.rd .n (.ot [(.ol .im), (.ol (.ol (.rd .c (.ol .im))))])), (.rd .n (.ot [.im, (.ol .im), (.ol .im)])), .im, .im], .im, [], []⟩, ⟨"_law_worths", [(.rd .n (.ot [(.ol .im), (.ol (.ol (.rd .c (.ol .im))))])), (.rd .n (.ot [.im, (.ol .im), (.ol .im)]))], (.od .im), [], []⟩, ⟨"_law_copy", [(.rd .n (.ot [(.ol .im), (.ol (.ol (.rd .c (.ol .im))))]))], (.ot [(.ol .im), (.ol (.ol (.ol .im)))]), [], []⟩, ⟨"_law_paper", [(.rd .n (.ot [(.ol .im), (.ol (.ol (.rd .c (.ol .im))))])), (.rd .n (.od .im)), (.rd .n .any), .im, .im], (.ot [.im, (.ol .im), (.ol .im)]), [], []⟩, ⟨"need_row", [.im, (.rd .n (.ol .im)), .im], .im, [], []⟩, ⟨"is_whole", [.im], .im, [], []⟩, ⟨"is_many", [.im], .im, [], []⟩, ⟨"need_row", [.im, (.rd .n (.ol (.ol (.ol .im)))), .im], .im, [], []⟩, ⟨"is_thing", [.im, .im], .im, [], []⟩, ⟨"are_ranks", [(.rd .n (.ol (.ol .im))), .im], .im, [], []⟩, ⟨"look_at_wishes", [(.rd .n (.ot [(.ol .im), (.ol (.ol (.ol .im)))]))], .im, [], []⟩, ⟨"claim_of", [(.rd .n (.ot [(.ol .im), (.ol (.ol (.ol .im)))])), (.rd .n (.ot [.im, (.ol .im), (.ol .im)]))], .im, [], []⟩, ⟨"_law_is_number", [.im], .im, [], []⟩, ⟨"_law_claim", [(.rd .n (.ot [(.ol .im), (.ol (.ol (.rd .c (.ol .im))))])), (.rd .n (.ot [.im, (.ol .im), (.ol .im)]))], .im, [], []⟩, ⟨"law", [(.rd .n .any)], .im, [], []⟩]
theorem tabok : okTabs (tblP ds) (tblC cs) tab = true := by kernel_rfl
theorem law_tab : (smOf tab "law" [.rd .n .any]).map Prod.snd = some [] := by kernel_rfl
theorem law_of {k : Nat} {ns : List Int} (h : pF (tblP ds) (tblC cs) k "law" [.scr ns] = .ret (.bl true) []) : evF (tblP ds) (tblC cs) k "law" [.v (.scr ns)] = .ret (.v (.bl true)) [] := law_pure tabok (by have := law_tab; cases q : smOf tab "law" [.rd .n .any] with | none => rw [q] at this; cases this | some r => rfl) (fun r q => by have := law_tab; rw [q] at this; exact Option.some.inj this) h
def lawAt : Nat := 32
end Kx

-- last: X7
open PySem
namespace Kx
open Tv
theorem lk : PLook (tblP ds) (tblC cs) := ⟨rfl, rfl, rfl, rfl, rfl, rfl, rfl, rfl, rfl, rfl⟩
theorem okD_paper (t : Int) (as ps : List Int) : (paperD t as ps).okD 60 = true := by
  have h : ∀ xs : List Int, D.okDs (xs.map D.int) 58 = true := fun xs => okDs_flat (flat_ints xs) 58
  simp [paperD, D.okD, D.okDs, h]
theorem WOk_of {cw : List Int} {ls : List (List (List Int))} {o old turns} (ok : Okw cw ls) (oa : OkAim ls.length cw.length o old turns) : WOk ls.length cw.length (wv ls o old turns) (pairsOf ls) := by
  refine ⟨pairs_len ok, fun p hp => ⟨wv_rg ok oa hp, ?_⟩⟩
  obtain ⟨a, rs, h1, h2, h3⟩ := mem_pairs hp
  have := (List.getElem?_eq_some_iff.mp h1).1
  have okr := ok.lr rs (List.mem_of_getElem? h1)
  exact ⟨by omega, okr.rg _ h3⟩
theorem law_val : ∀ ns : List Int, ns.length ≤ 63 → pF (tblP ds) (tblC cs) 9 "law" [.scr ns] = .ret (.bl true) [] := by
  intro ns hn
  obtain ⟨cw, ls, e1, ok, _⟩ := p_wishes (P := tblP ds) (con := tblC cs) (k := 6) (ns := ns) (at_ := 1) (mt := 6) (ma := 7) (mr := 5) rfl rfl rfl (by decide) (by decide) (by decide) (by decide) (by decide) (by decide)
  have e2 := p_cell_at (P := tblP ds) (con := tblC cs) (k := 7) (ns := ns) (i := 0) rfl
  obtain ⟨o, old, turns, e3, oa⟩ := p_aim (P := tblP ds) (con := tblC cs) (k := 6) (c := cellAt ns 0) (s := 5) rfl rfl ok (by decide)
  have e4 := p_worths (P := tblP ds) (con := tblC cs) (k := 5) (o := o) (old := old) (turns := turns) rfl rfl rfl rfl rfl rfl ok oa
  have e5 := p_copy (P := tblP ds) (con := tblC cs) (k := 7) rfl ok
  have e6 := p_cell_at (P := tblP ds) (con := tblC cs) (k := 7) (ns := ns) (i := 2) rfl
  have W := WOk_of ok oa
  have eqw := eqX_wish cw ls
  have turn : ∀ (c i : Int), 0 ≤ i → i ≤ 100 → forT (pF (tblP ds) (tblC cs) 8) (tblC cs) (.tp [5, 6]) f_law_b1 (.tup [.int i, .int c]) [some (.scr ns), some (wishD cw ls), some (aimD o old turns), some (worthsD (wv ls o old turns) (pairsOf ls)), some (wishD cw ls), none, none, none, none, none] = .nx [some (.scr ns), some (wishD cw ls), some (aimD o old turns), some (worthsD (wv ls o old turns) (pairsOf ls)), some (wishD cw ls), none, none, none, none, none] := by
    intro c i h0 h1
    obtain ⟨t, as, ps, q1, op⟩ := p_paper (P := tblP ds) (con := tblC cs) (k := 6) (c := c) (s := 31 + i) (low := 0) rfl rfl ok W (by omega) (by decide)
    have sm : Small ps := fun x hx => by have := op.pg x hx; omega
    have q2 := Tv.p_claim_of (P := tblP ds) (con := tblC cs) (k := 3) (t := t) (asks := as) rfl lk ok sm
    have q3 := p_claim (P := tblP ds) (con := tblC cs) (k := 7) (t := t) (asks := as) rfl ok sm
    have q4 := p_is_number (P := tblP ds) (con := tblC cs) (k := 7) (i := as.sum + dotOf cw ps) rfl
    have q5 := eqX_self (okD_paper t as ps)
    generalize as.sum + dotOf cw ps = z at *
    generalize wishD cw ls = w at *
    generalize worthsD (wv ls o old turns) (pairsOf ls) = wd at *
    generalize aimD o old turns = ad at *
    simp only [paperD] at *
    simp -implicitDefEqProofs [f_law_b1, q1, q2, q3, q4, q5]
  obtain ⟨cl, hcl⟩ : ∃ cl, cl = cellAt ns 2 :: (ns.drop 9).take 54 := ⟨_, rfl⟩
  have ccl : [D.int (cellAt ns 2)] ++ cutL (ns.map D.int) (some 9) (some 63) = cl.map .int := by
    rw [cutL_map, cutL_two (by decide) (by decide), hcl]; rfl
  have lcl : cl.length ≤ 100 := by rw [hcl]; simp; omega
  have loop : forP (forT (pF (tblP ds) (tblC cs) 8) (tblC cs) (.tp [5, 6]) f_law_b1) ((cl.map D.int).zipIdx.map fun p => .tup [.int p.2, p.1]) [some (.scr ns), some (wishD cw ls), some (aimD o old turns), some (worthsD (wv ls o old turns) (pairsOf ls)), some (wishD cw ls), none, none, none, none, none] = .nx [some (.scr ns), some (wishD cw ls), some (aimD o old turns), some (worthsD (wv ls o old turns) (pairsOf ls)), some (wishD cw ls), none, none, none, none, none] := by
    rw [enum_map]
    refine for_same fun d hd => ?_
    obtain ⟨⟨c, i⟩, hp, rfl⟩ := List.mem_map.mp hd
    have := List.snd_lt_of_mem_zipIdx hp
    exact turn c i (by omega) (by simp at this; omega)
  have hc1 : 1 + (cutL (ns.map D.int) (some 9) (some 63)).length ≤ 16777216 := by
    have := cutL_len (ns.map D.int) (some 9) (some 63)
    simp at this
    omega
  rw [pF_at (fn := f_law) rfl rfl]
  generalize wishD cw ls = w at *
  generalize worthsD (wv ls o old turns) (pairsOf ls) = wd at *
  generalize aimD o old turns = ad at *
  simp only [List.cons_append, List.nil_append] at ccl
  simp -implicitDefEqProofs at e1 e2 e6
  simp -implicitDefEqProofs [f_law, envD, keepD, e1, e2, e3, e4, e5, e6, hc1, ccl, loop, eqw]
theorem law_ok : ∀ ns : List Int, ns.length ≤ 63 → evF (tblP ds) (tblC cs) 9 "law" [.v (.scr ns)] = .ret (.v (.bl true)) [] := fun ns h => law_of (law_val ns h)
end Kx
open PySem PySem.Spec PyProof.Rows L2
namespace Kx
open Tv
abbrev RR : PySem.W.OpenRow := PySem.W.OpenLaw.row PySem.Challenge.rw_wishdeal_k36_claims
abbrev pp : W.Frag → Bool := tvB ds cs as
abbrev fnl : List He.DefD := ds.map Df.d
theorem run (w : World) : HandSHeadRun.RunEq RR (PySem.W.view RR.prog [lawAt]) (hookV 4 pp fnl) (obV 4 pp fnl) 4000 loose w := by
  intro os
  kernel_rfl
theorem fin (hw : RR.toRowW.promised) : RR.Holds :=
  HandSHeadRun.head_any (r := RR) (q := PySem.W.view RR.prog [lawAt]) (H := hookV 4 pp fnl) (ob := obV 4 pp fnl) (M := 4000) (loose := loose) (d := HandSHeadRun.topDef RR.prog lawAt) (kwd := []) obV_eq (by kernel_rfl) (fun s => by kernel_rfl) run
    (by kernel_rfl) (by kernel_rfl) (by kernel_rfl) (by rfl) (by first | assumption | decide +kernel) (by decide +kernel) ⟨rfl, rfl, rfl, rfl, rfl, by decide +kernel⟩ hw
    (law_end (l := PySem.Challenge.rw_wishdeal_k36_claims) (n := 63) (k := 9) (x := "_law_script") (el := d_law) txt (by simp [ds]) rfl rfl rfl rfl (by decide) (by kernel_rfl) ⟨rfl, by decide, by decide⟩ (by kernel_rfl) law_ok)
end Kx
open PySem PySem.W PyProof.Rows
set_option maxRecDepth 100000 in
set_option maxHeartbeats 0 in
theorem PySem.Challenge.cw_wishdeal_k36_claims_holds : PySem.Challenge.rw_wishdeal_k36_claims.Holds := by
  w_on; o_law
  refine Kx.fin ?hw
  case hw => w_witness2
