import PyProof.Rows.All
import Wide.All
import OpenK.AllK
import Wide.FinOn
import HandS.ForMost
import HandS.ForExc
import HandS.Walk
import HandS.IsInst
import HandS.Deep
import HandS.TupAny
import HandS.Style
import HandS.Strs
import HandS.More
import HandS.Conv
import HandS.Iter
import KE.GoesEnum
import HandS.Rev
import HandS.RevRange
import HandS.Zip
import HandS.Small
import HandS.ExcInit
import HandS.ExcField
import HandS.WordsExc
import KE.SortData
import KE.DataMinMax
import KE.KDictPairs
import KE.KDictKeyed
import HandS.FStr
import HandS.Dict
import PyProof.Rows.TupDisplay
import HandS.MapSum
import KE.KDictWalk
import HandS.Defaults
import HandS.Head0
import HandS.Head1
import HandS.Head2
import HandS.HeadEnd
import HandS.HeadHook1
import HandS.HeadHook2
import HandS.HeadHook3
import PySem.Challenge.RW_ballastbook_k18_whole_tables_are_closed
set_option Elab.async false
set_option linter.all false
set_option autoImplicit false
set_option maxRecDepth 100000
/-! Dl: plain data behind the values of a run. -/
namespace Dl
open PySem PySem.Spec PyProof.Rows L2
/-- a value as plain data -/
inductive D where
  | non | bl (b : Bool) | int (i : Int) | str (x : Str)
  | tup (xs : List D) | lst (xs : List D) | frl (xs : List D) | ktp (xs : List D) | dic (t : Bool) (ks vs : List D)
  | obj (n : Nat)
  deriving Inhabited
abbrev Pred := Addr → Prop
/-- the module's things, its names -/
structure KM where
  k : PySem.W.Frag
  mg : Str → Option Value
/-- .. and where the numbered objects stand -/
structure KF where
  m : KM
  l : List Addr
abbrev KF.k (K : KF) : PySem.W.Frag := K.m.k
/-- what must be avoided, and where the numbered objects stand -/
structure TL where
  p : Pred
  l : List Addr
instance : CoeFun TL fun _ => Addr → Prop := ⟨TL.p⟩
instance : Coe TL Pred := ⟨TL.p⟩
abbrev KM.at (K : KM) (T : TL) : KF := ⟨K, T.l⟩
def _root_.L2.Cx.KM (X : Cx) : KM := ⟨X.K, X.mg⟩
def keyD : Key → D
  | .inl i => .int i
  | .inr x => .str x
/-- a list that is never written: locked, or of the module -/
def SqF (K : PySem.W.Frag) (H : Hp) (a : Addr) (xs : List V) : Prop :=
  (∃ o, H a = some (.frz o (.lst xs))) ∨
    ∃ (o : Obj) (its : Array Value) (n : Nat), K.lookup a = some o ∧ o.cls = .type "list" ∧ o.dict = none ∧ o.data = .seq its n ∧ its.size ≤ sizeLine ∧ Vals xs its.toList
theorem SqF.sq {K : PySem.W.Frag} {H : Hp} {a : Addr} {xs : List V} (h : SqF K H a xs) : SqL K H a xs := h.elim (fun h => .inl (.inr h)) .inr
theorem SqF.same {K : PySem.W.Frag} {H H' : Hp} {a : Addr} {xs : List V} (s : Same H H') (h : SqF K H a xs) : SqF K H' a xs := h.elim (fun ⟨o, h⟩ => .inl ⟨o, s _ _ h⟩) .inr
/-- a dict of keys ks and values vs; t: its keys are tuples -/
def DicH (rd : HO → Prop) (t : Bool) (ks : List D) (vs : List V) : Prop := match t with
  | false => ∃ kvs : List (Key × V), rd (.dK kvs) ∧ kvs.map (fun p => keyD p.1) = ks ∧ kvs.map (·.2) = vs
  | true => ∃ kvs : List (List Key × V), rd (.dT kvs) ∧ kvs.map (fun p => D.tup (p.1.map keyD)) = ks ∧ kvs.map (·.2) = vs
theorem DicH.mono {rd rd' : HO → Prop} {t : Bool} {ks : List D} {vs : List V} (h : DicH rd t ks vs) (m : ∀ u, rd u → rd' u) : DicH rd' t ks vs := by
  cases t with
  | false => obtain ⟨kvs, a, b⟩ := h; exact ⟨kvs, m _ a, b⟩
  | true => obtain ⟨kvs, a, b⟩ := h; exact ⟨kvs, m _ a, b⟩
theorem DicH.there {rd : HO → Prop} {t : Bool} {ks : List D} {vs : List V} (h : DicH rd t ks vs) : ∃ u, rd u := by
  cases t with
  | false => obtain ⟨kvs, a, b⟩ := h; exact ⟨_, a⟩
  | true => obtain ⟨kvs, a, b⟩ := h; exact ⟨_, a⟩
mutual
/-- v stands for d, its lists and dicts beyond A -/
def Rp (K : KF) (H : Hp) (A : Pred) : V → D → Prop
  | v, .non => v = .non
  | v, .bl b => v = .bl b
  | v, .int i => v = .int i
  | v, .str x => v = .str x
  | v, .tup ds => ∃ a vs, v = .ref a ∧ H a = some (.tup vs) ∧ Rps K H A vs ds
  | v, .ktp ds => ∃ a vs, v = .ref a ∧ SqT K.k H a vs ∧ Rps K H A vs ds
  | v, .lst ds => ∃ a vs, v = .ref a ∧ ¬ A a ∧ H a = some (.lst vs) ∧ Rps K H A vs ds
  | v, .frl ds => ∃ a vs, v = .ref a ∧ SqF K.k H a vs ∧ Rps K H A vs ds
  | v, .dic t ks ws => ∃ a vs, v = .ref a ∧ ¬ A a ∧ DicH (Rd H a) t ks vs ∧ Rps K H A vs ws
  | v, .obj n => ∃ a, v = .ref a ∧ K.l[n]? = some a
def Rps (K : KF) (H : Hp) (A : Pred) : List V → List D → Prop
  | vs, [] => vs = []
  | vs, d :: ds => ∃ v r, vs = v :: r ∧ Rp K H A v d ∧ Rps K H A r ds
end
mutual
/-- no list and no dict within -/
def imm : D → Bool
  | .tup ds => imms ds
  | .frl ds => imms ds
  | .ktp ds => imms ds
  | .lst _ => false
  | .dic _ _ _ => false
  | _ => true
def imms : List D → Bool
  | [] => true
  | d :: ds => imm d && imms ds
end
section
variable {K : KF} {H H' : Hp} {A A' : Pred}
theorem Rps.nil : Rps K H A [] [] := by unfold Rps; rfl
theorem Rps.cons {v : V} {d : D} {vs : List V} {ds : List D} (h : Rp K H A v d) (t : Rps K H A vs ds) : Rps K H A (v :: vs) (d :: ds) := by
  unfold Rps; exact ⟨v, vs, rfl, h, t⟩
theorem Rps.uncons {d : D} {vs : List V} {ds : List D} (h : Rps K H A vs (d :: ds)) : ∃ v r, vs = v :: r ∧ Rp K H A v d ∧ Rps K H A r ds := by
  unfold Rps at h; exact h
theorem Rps.nil_eq {vs : List V} (h : Rps K H A vs []) : vs = [] := by unfold Rps at h; exact h
theorem Rps.length : ∀ {vs : List V} {ds : List D}, Rps K H A vs ds → vs.length = ds.length
  | vs, [], h => by rw [h.nil_eq]; rfl
  | vs, d :: ds, h => by
    obtain ⟨v, r, rfl, _, t⟩ := h.uncons
    simp [Rps.length t]
theorem Rps.get : ∀ {vs : List V} {ds : List D} {i : Nat} {d : D}, Rps K H A vs ds → ds[i]? = some d → ∃ v, vs[i]? = some v ∧ Rp K H A v d
  | _, [], _, _, _, e => by simp at e
  | _, d :: ds, 0, _, h, e => by
    obtain ⟨v, r, rfl, q, _⟩ := h.uncons
    simp at e; subst e; exact ⟨v, rfl, q⟩
  | _, d :: ds, i + 1, d', h, e => by
    obtain ⟨v, r, rfl, _, t⟩ := h.uncons
    obtain ⟨u, e1, q⟩ := Rps.get (i := i) (d := d') t (by simpa using e)
    exact ⟨u, by simpa using e1, q⟩
theorem Rps.append : ∀ {vs ws : List V} {ds es : List D}, Rps K H A vs ds → Rps K H A ws es → Rps K H A (vs ++ ws) (ds ++ es)
  | _, _, [], _, h, g => by rw [h.nil_eq]; exact g
  | _, _, d :: ds, _, h, g => by
    obtain ⟨v, r, rfl, q, t⟩ := h.uncons
    exact .cons q (Rps.append t g)
theorem Rps.one {v : V} {d : D} (h : Rp K H A v d) : Rps K H A [v] [d] := .cons h .nil
theorem Rps.take : ∀ {vs : List V} {ds : List D} (n : Nat), Rps K H A vs ds → Rps K H A (vs.take n) (ds.take n)
  | _, _, 0, _ => by simp only [List.take_zero]; exact .nil
  | _, [], _ + 1, h => by rw [h.nil_eq]; exact .nil
  | _, d :: ds, n + 1, h => by
    obtain ⟨v, r, rfl, q, t⟩ := h.uncons
    exact .cons q (Rps.take n t)
theorem Rps.drop : ∀ {vs : List V} {ds : List D} (n : Nat), Rps K H A vs ds → Rps K H A (vs.drop n) (ds.drop n)
  | _, _, 0, h => h
  | _, [], _ + 1, h => by rw [h.nil_eq]; exact .nil
  | _, d :: ds, n + 1, h => by
    obtain ⟨v, r, rfl, q, t⟩ := h.uncons
    exact Rps.drop n t
theorem Rps.set {v : V} {d : D} (q : Rp K H A v d) : ∀ {vs : List V} {ds : List D} (i : Nat), Rps K H A vs ds → Rps K H A (vs.set i v) (ds.set i d)
  | _, [], _, h => by rw [h.nil_eq]; exact .nil
  | _, e :: ds, 0, h => by
    obtain ⟨_, r, rfl, _, t⟩ := h.uncons
    exact .cons q t
  | _, e :: ds, i + 1, h => by
    obtain ⟨_, r, rfl, p, t⟩ := h.uncons
    exact .cons p (Rps.set q i t)
theorem Rps.reverse : ∀ {vs : List V} {ds : List D}, Rps K H A vs ds → Rps K H A vs.reverse ds.reverse
  | _, [], h => by rw [h.nil_eq]; exact .nil
  | _, e :: ds, h => by
    obtain ⟨v, r, rfl, p, t⟩ := h.uncons
    rw [List.reverse_cons, List.reverse_cons]
    exact (Rps.reverse t).append (.one p)
/-- what the values lean on, carried to another heap -/
structure Carry (K : KF) (H H' : Hp) (A A' : Pred) : Prop where
  tup : ∀ a xs, H a = some (.tup xs) → H' a = some (.tup xs)
  ktp : ∀ a xs, SqT K.k H a xs → SqT K.k H' a xs
  frl : ∀ a xs, SqF K.k H a xs → SqF K.k H' a xs
  lst : ∀ a xs, ¬ A a → H a = some (.lst xs) → ¬ A' a ∧ H' a = some (.lst xs)
  obj : ∀ a u, ¬ A a → Rd H a u → ¬ A' a ∧ Rd H' a u
mutual
theorem Rp.carry (c : Carry K H H' A A') : ∀ (d : D) (v : V), Rp K H A v d → Rp K H' A' v d
  | .non, v, h => by unfold Rp at *; exact h
  | .bl _, v, h => by unfold Rp at *; exact h
  | .int _, v, h => by unfold Rp at *; exact h
  | .str _, v, h => by unfold Rp at *; exact h
  | .obj _, v, h => by unfold Rp at *; exact h
  | .tup ds, v, h => by
    unfold Rp at *
    obtain ⟨a, vs, e, s, t⟩ := h
    exact ⟨a, vs, e, c.tup a vs s, Rps.carry c ds vs t⟩
  | .lst ds, v, h => by
    unfold Rp at *
    obtain ⟨a, vs, e, n, r, t⟩ := h
    obtain ⟨n', r'⟩ := c.lst a _ n r
    exact ⟨a, vs, e, n', r', Rps.carry c ds vs t⟩
  | .frl ds, v, h => by
    unfold Rp at *
    obtain ⟨a, vs, e, s, t⟩ := h
    exact ⟨a, vs, e, c.frl a vs s, Rps.carry c ds vs t⟩
  | .ktp ds, v, h => by
    unfold Rp at *
    obtain ⟨a, vs, e, s, t⟩ := h
    exact ⟨a, vs, e, c.ktp a vs s, Rps.carry c ds vs t⟩
  | .dic t ks ws, v, h => by
    unfold Rp at *
    obtain ⟨a, vs, e, n, h, r⟩ := h
    obtain ⟨u, hu⟩ := h.there
    exact ⟨a, vs, e, (c.obj a u n hu).1, h.mono fun u z => (c.obj a u n z).2, Rps.carry c ws vs r⟩
theorem Rps.carry (c : Carry K H H' A A') : ∀ (ds : List D) (vs : List V), Rps K H A vs ds → Rps K H' A' vs ds
  | [], vs, h => by unfold Rps at *; exact h
  | d :: ds, vs, h => by
    unfold Rps at *
    obtain ⟨v, r, e, q, t⟩ := h
    exact ⟨v, r, e, Rp.carry c d v q, Rps.carry c ds r t⟩
end
theorem SqT.same {K : PySem.W.Frag} {a : Addr} {xs : List V} (s : Same H H') (h : SqT K H a xs) : SqT K H' a xs := by
  rcases h with (h | ⟨o, h⟩) | h
  · exact .inl (.inl (s _ _ h))
  · exact .inl (.inr ⟨o, s _ _ h⟩)
  · exact .inr h
theorem Rd.same {a : Addr} {u : HO} (s : Same H H') (h : Rd H a u) : Rd H' a u := by
  rcases h with h | ⟨o, h⟩
  · exact .inl (s _ _ h)
  · exact .inr ⟨o, s _ _ h⟩
theorem Carry.same (s : Same H H') : Carry K H H' A A := ⟨fun _ _ h => s _ _ h, fun _ _ h => SqT.same s h, fun _ _ h => SqF.same s h, fun _ _ n h => ⟨n, s _ _ h⟩, fun _ _ n h => ⟨n, Rd.same s h⟩⟩
theorem Carry.weak (m : ∀ a, A' a → A a) : Carry K H H A A' := ⟨fun _ _ h => h, fun _ _ h => h, fun _ _ h => h, fun a _ n h => ⟨fun x => n (m a x), h⟩, fun a _ n h => ⟨fun x => n (m a x), h⟩⟩
theorem Rp.same {v : V} {d : D} (h : Rp K H A v d) (s : Same H H') : Rp K H' A v d := Rp.carry (.same s) d v h
theorem Rps.same {vs : List V} {ds : List D} (h : Rps K H A vs ds) (s : Same H H') : Rps K H' A vs ds := Rps.carry (.same s) ds vs h
theorem Rp.weak {v : V} {d : D} (h : Rp K H A v d) (m : ∀ a, A' a → A a) : Rp K H A' v d := Rp.carry (.weak m) d v h
theorem Rps.weak {vs : List V} {ds : List D} (h : Rps K H A vs ds) (m : ∀ a, A' a → A a) : Rps K H A' vs ds := Rps.carry (.weak m) ds vs h
/-- beyond a new address too -/
theorem Rd.ne {a p : Addr} {u : HO} (h : Rd H a u) (n : H p = none) : a ≠ p := by
  rcases h with h | ⟨o, h⟩
  · exact ne_of_none h n
  · exact ne_of_none h n
theorem Carry.new {p : Addr} {o : HO} (n : H p = none) : Carry K H (upd H p o) A (fun a => A a ∨ a = p) := by
  have s : Same H (upd H p o) := fun b x e => by rw [upd_ne (ne_of_none e n)]; exact e
  exact ⟨fun _ _ h => s _ _ h, fun _ _ h => SqT.same s h, fun _ _ h => SqF.same s h, fun a xs na h => ⟨fun z => z.elim na (fun e => ne_of_none h n e), s _ _ h⟩, fun a u na h => ⟨fun z => z.elim na (fun e => Rd.ne h n e), Rd.same s h⟩⟩
theorem same_new {p : Addr} {o : HO} (n : H p = none) : Same H (upd H p o) := fun b x e => by rw [upd_ne (ne_of_none e n)]; exact e
mutual
theorem Rp.imm : ∀ (d : D) (v : V), Rp K H A v d → Dl.imm d = true → Rp K H A' v d
  | .non, v, h, _ => by unfold Rp at *; exact h
  | .bl _, v, h, _ => by unfold Rp at *; exact h
  | .int _, v, h, _ => by unfold Rp at *; exact h
  | .str _, v, h, _ => by unfold Rp at *; exact h
  | .obj _, v, h, _ => by unfold Rp at *; exact h
  | .tup ds, v, h, i => by
    unfold Rp at *
    unfold Dl.imm at i
    obtain ⟨a, vs, e, s, t⟩ := h
    exact ⟨a, vs, e, s, Rps.imm ds vs t i⟩
  | .frl ds, v, h, i => by
    unfold Rp at *
    unfold Dl.imm at i
    obtain ⟨a, vs, e, s, t⟩ := h
    exact ⟨a, vs, e, s, Rps.imm ds vs t i⟩
  | .ktp ds, v, h, i => by
    unfold Rp at *
    unfold Dl.imm at i
    obtain ⟨a, vs, e, s, t⟩ := h
    exact ⟨a, vs, e, s, Rps.imm ds vs t i⟩
  | .lst ds, v, h, i => by unfold Dl.imm at i; cases i
  | .dic t ks ws, v, h, i => by unfold Dl.imm at i; cases i
theorem Rps.imm : ∀ (ds : List D) (vs : List V), Rps K H A vs ds → Dl.imms ds = true → Rps K H A' vs ds
  | [], vs, h, _ => by unfold Rps at *; exact h
  | d :: ds, vs, h, i => by
    unfold Rps at *
    unfold Dl.imms at i
    rw [Bool.and_eq_true] at i
    obtain ⟨v, r, e, q, t⟩ := h
    exact ⟨v, r, e, Rp.imm d v q i.1, Rps.imm ds r t i.2⟩
end
mutual
/-- more objects -/
theorem Rp.grow {K' : KF} (e : K'.m = K.m) (g : ∀ (n : Nat) (a : Addr), K.l[n]? = some a → K'.l[n]? = some a) : ∀ (d : D) (v : V), Rp K H A v d → Rp K' H A v d
  | .non, v, h => by unfold Rp at *; exact h
  | .bl _, v, h => by unfold Rp at *; exact h
  | .int _, v, h => by unfold Rp at *; exact h
  | .str _, v, h => by unfold Rp at *; exact h
  | .obj _, v, h => by unfold Rp at *; obtain ⟨a, e1, e2⟩ := h; exact ⟨a, e1, g _ _ e2⟩
  | .tup ds, v, h => by
    unfold Rp at *
    obtain ⟨a, vs, e1, s, t⟩ := h
    exact ⟨a, vs, e1, s, Rps.grow e g ds vs t⟩
  | .lst ds, v, h => by
    unfold Rp at *
    obtain ⟨a, vs, e1, n, r, t⟩ := h
    exact ⟨a, vs, e1, n, r, Rps.grow e g ds vs t⟩
  | .frl ds, v, h => by
    unfold Rp at *
    obtain ⟨a, vs, e1, s, t⟩ := h
    exact ⟨a, vs, e1, (show K'.k = K.k from congrArg KM.k e) ▸ s, Rps.grow e g ds vs t⟩
  | .ktp ds, v, h => by
    unfold Rp at *
    obtain ⟨a, vs, e1, s, t⟩ := h
    exact ⟨a, vs, e1, (show K'.k = K.k from congrArg KM.k e) ▸ s, Rps.grow e g ds vs t⟩
  | .dic t ks ws, v, h => by
    unfold Rp at *
    obtain ⟨a, vs, e1, n, h, r⟩ := h
    exact ⟨a, vs, e1, n, h, Rps.grow e g ws vs r⟩
theorem Rps.grow {K' : KF} (e : K'.m = K.m) (g : ∀ (n : Nat) (a : Addr), K.l[n]? = some a → K'.l[n]? = some a) : ∀ (ds : List D) (vs : List V), Rps K H A vs ds → Rps K' H A vs ds
  | [], vs, h => by unfold Rps at *; exact h
  | d :: ds, vs, h => by
    unfold Rps at *
    obtain ⟨v, r, e1, q, t⟩ := h
    exact ⟨v, r, e1, Rp.grow e g d v q, Rps.grow e g ds r t⟩
end
theorem Rp.int {v : V} {i : Int} : Rp K H A v (.int i) ↔ v = .int i := by unfold Rp; exact Iff.rfl
theorem Rp.bl {v : V} {b : Bool} : Rp K H A v (.bl b) ↔ v = .bl b := by unfold Rp; exact Iff.rfl
theorem Rp.non {v : V} : Rp K H A v .non ↔ v = .non := by unfold Rp; exact Iff.rfl
theorem Rp.str {v : V} {x : Str} : Rp K H A v (.str x) ↔ v = .str x := by unfold Rp; exact Iff.rfl
theorem Rp.tup {v : V} {ds : List D} : Rp K H A v (.tup ds) ↔ ∃ a vs, v = .ref a ∧ H a = some (.tup vs) ∧ Rps K H A vs ds := by conv => lhs; unfold Rp
theorem Rp.obj {v : V} {n : Nat} : Rp K H A v (.obj n) ↔ ∃ a, v = .ref a ∧ K.l[n]? = some a := by unfold Rp; exact Iff.rfl
theorem Rp.ktp {v : V} {ds : List D} : Rp K H A v (.ktp ds) ↔ ∃ a vs, v = .ref a ∧ SqT K.k H a vs ∧ Rps K H A vs ds := by conv => lhs; unfold Rp
theorem Rp.lst {v : V} {ds : List D} : Rp K H A v (.lst ds) ↔ ∃ a vs, v = .ref a ∧ ¬ A a ∧ H a = some (.lst vs) ∧ Rps K H A vs ds := by conv => lhs; unfold Rp
theorem Rp.frl {v : V} {ds : List D} : Rp K H A v (.frl ds) ↔ ∃ a vs, v = .ref a ∧ SqF K.k H a vs ∧ Rps K H A vs ds := by conv => lhs; unfold Rp
end
/-! ### outcomes -/
abbrev Fields := List (Str × D)
abbrev DEnv := List (Option D)
inductive Out where
  | nx (e : DEnv) | rt (d : D) | bk (e : DEnv) | ct (e : DEnv) | exc (c : Str) (fs : Fields) (e : DEnv) | bad
abbrev DS := DEnv → Out
/-- how a slot is held: own: a list or dict that nothing else reaches; nw: within it (or it itself) nothing that stood at the entry -/
structure Md where
  own : Bool := false
  nw : Bool := false
  /-- 0: as above; 1: a tree that nothing else reaches, gone with the first write; 2: a dict of lists that nothing else reaches -/
  dp : Nat := 0
abbrev Mds := List Md
def mdAt (md : Mds) (i : Nat) : Md := (md[i]?).getD {}
/-- own things are lists and dicts -/
def isMutO : HO → Bool
  | .lst _ => true
  | .dK _ => true
  | .dT _ => true
  | .ins _ _ _ => true
  | .frz _ (.dK _) => true
  | .frz _ (.dT _) => true
  | _ => false
/-- at most one slot of the last kind, none of both kinds -/
structure MdOk (md : Mds) : Prop where
  od : ∀ i, (mdAt md i).own = true → (mdAt md i).dp = 0
  one : ∀ i j, (mdAt md i).dp ≠ 0 → (mdAt md j).dp ≠ 0 → i = j
def isLD : D → Bool
  | .lst _ => true
  | .dic _ _ _ => true
  | _ => false
def OwnAt (md : Mds) (σ : L2.St) (env : DEnv) (i : Nat) (a : Addr) : Prop := (mdAt md i).own = true ∧ (∃ d, env[i]? = some (some d) ∧ isLD d = true) ∧ σ[i]? = some (some (.ref a))
def Avd (md : Mds) (σ : L2.St) (env : DEnv) (T : TL) (H0 : Hp) (nw : Bool) : Pred := fun a => (∃ i, OwnAt md σ env i a) ∨ T a ∨ (nw = true ∧ ∃ o, H0 a = some o)
/-- an owned list or dict at a -/
def Top (K : KF) (H : Hp) (A : Pred) (a : Addr) : D → Prop
  | .lst ds => ∃ vs, H a = some (.lst vs) ∧ Rps K H A vs ds
  | .dic t ks ws => ∃ vs, DicH (fun u => H a = some u) t ks vs ∧ Rps K H A vs ws
  | _ => False
/-- a dict of lists at v, each reached once, all within S, their items without lists -/
def DpFull (K : KF) (H : Hp) (S : Pred) (v : V) (d : D) : Prop := ∃ (a : Addr) (kvs : List (List Key × V)) (bs : List Addr) (ws : List (List D)), v = .ref a ∧ S a ∧ H a = some (.dT kvs) ∧ d = .dic true (kvs.map fun p => D.tup (p.1.map keyD)) (ws.map D.lst) ∧
  kvs.map (·.2) = bs.map V.ref ∧ (a :: bs).Nodup ∧ bs.length = ws.length ∧ ∀ (j : Nat) (b : Addr) (w : List D), bs[j]? = some b → ws[j]? = some w → S b ∧ imms w = true ∧ ∃ us, H b = some (.lst us) ∧ Rps K H (fun _ => False) us w
/-- a list of at most n items, of which nothing more is known -/
def goneD (n : Nat) : D := .dic false (List.replicate (n + 1) .non) []
def DpOk (K : KF) (H : Hp) (S : Pred) (k : Nat) (v : V) (d : D) : Prop := match k with
  | 1 => Rp K H (fun a => ¬ S a) v d ∨ ∃ (n : Nat) (a : Addr) (vs : List V), d = goneD n ∧ v = .ref a ∧ S a ∧ H a = some (.lst vs) ∧ vs.length ≤ n
  | _ => DpFull K H S v d
theorem DpOk.carry {K : KF} {H H' : Hp} {S S' : Pred} {k : Nat} {v : V} {d : D} (h : DpOk K H S k v d) (c : Carry K H H' (fun a => ¬ S a) (fun a => ¬ S' a)) (m : ∀ a u, S a → H a = some u → H' a = some u ∧ S' a) : DpOk K H' S' k v d := by
  unfold DpOk at *
  split at h
  · rcases h with h | ⟨n, a, vs, e1, e2, e3, e4, e5⟩
    · exact .inl (Rp.carry c d v h)
    · exact .inr ⟨n, a, vs, e1, e2, (m a _ e3 e4).2, (m a _ e3 e4).1, e5⟩
  · obtain ⟨a, kvs, bs, ws, e1, e2, e3, e4, e5, e6, e7, e8⟩ := h
    obtain ⟨f1, f2⟩ := m a _ e2 e3
    refine ⟨a, kvs, bs, ws, e1, f2, f1, e4, e5, e6, e7, fun j b w hb hw => ?_⟩
    obtain ⟨g1, g2, us, g3, g4⟩ := e8 j b w hb hw
    obtain ⟨k1, k2⟩ := m b _ g1 g3
    exact ⟨k2, g2, us, k1, Rps.imm _ _ (Rps.carry c _ _ (Rps.imm (A' := fun a => ¬ S a) _ _ g4 g2)) g2⟩
/-- what an own slot holds: a list or dict that nothing else reaches, or a value without lists -/
structure OwnOk (K : KF) (H : Hp) (A : Pred) (v : V) (d : D) : Prop where
  top : isLD d = true → ∃ a, v = .ref a ∧ Top K H A a d
  im : isLD d = false → imm d = true ∧ Rp K H (fun _ => False) v d
def SlotOk (K : KF) (H : Hp) (A : Pred) (m : Md) (v : V) (d : D) : Prop :=
  if m.own = true then OwnOk K H A v d else Rp K H A v d
/-- what stands at a numbered object: a list, a dict, an instance (its class, its fields) -/
def CellOk (K : KF) (H : Hp) (A : Pred) (a : Addr) : D → Prop
  | .lst ds => ∃ vs, H a = some (.lst vs) ∧ Rps K H A vs ds
  | .dic t ks ws => ∃ vs, DicH (fun u => H a = some u) t ks vs ∧ Rps K H A vs ws
  | .tup [.non, .dic t ks ws] => ∃ (od : Obj) (u : HO) (vs : List V), H a = some (.frz od u) ∧ DicH (fun w => w = u) t ks vs ∧ Rps K H A vs ws
  | .tup [.str c, .lst ks, .lst ws] => ∃ (C dx : Addr) (fs : List (Str × V)) (vs : List V), K.m.mg c = some (.ref C) ∧ H a = some (.ins C dx fs) ∧ Rps K H A vs ws ∧ ks.length = vs.length ∧ (∀ (i : Nat) (f : Str) (v : V), ks[i]? = some (.str f) → vs[i]? = some v → fs.lookup f = some v) ∧ ∀ f v, fs.lookup f = some v → D.str f ∈ ks
  | _ => False
/-- what stands there may be written, or is locked -/
def FzN (B : Hp) (a : Addr) : Prop := B a = none ∨ ∃ o u, B a = some (.frz o u)
/-- where a numbered object may stand: w: it may be written; else it stood at the entry -/
def SC (w : Bool) (T : TL) (H0 B : Hp) (a : Addr) : Prop := match w with
  | true => T.p a ∧ FzN B a
  | false => ∃ u, H0 a = some u
/-- the store: all numbered objects, each at its own address -/
structure Sto (K : KM) (T : TL) (w : Bool) (A : Pred) (H0 B H : Hp) (d : D) : Prop where
  ex : ∃ cs, d = .lst cs ∧ cs.length = T.l.length ∧ T.l.Nodup ∧ ∀ (n : Nat) (a : Addr) (c : D), T.l[n]? = some a → cs[n]? = some c → SC w T H0 B a ∧ CellOk (K.at T) H A a c
/-- the slots of a frame, their data; H0: the heap at the entry, B: what must stand, T: beyond that too -/
structure Rel (K : KM) (md : Mds) (T : TL) (H0 B H : Hp) (σ : L2.St) (env : DEnv) : Prop where
  s0 : ∀ a o, H0 a = some o → ∃ u, B a = some u
  sB : Same B H
  tB : ∀ a, T a → ∃ o, H a = some o
  len : σ.length = env.length
  slot : ∀ i d, env[i]? = some (some d) → (mdAt md i).dp = 0 → ∃ v, σ[i]? = some (some v) ∧ SlotOk (K.at T) H (Avd md σ env T H0 (mdAt md i).nw) (mdAt md i) v d
  out : ∀ i a, OwnAt md σ env i a → B a = none
  sep : ∀ i j a, OwnAt md σ env i a → OwnAt md σ env j a → i = j
  tO : ∀ i a, OwnAt md σ env i a → ¬ T a
  st : MdOk md
  tM : ∀ a, T a → H0 a = none → ∃ u, H a = some u ∧ isMutO u = true
  deep : ∀ i d, env[i]? = some (some d) → (mdAt md i).dp ≠ 0 → (mdAt md i).dp < 3 → ∃ v, σ[i]? = some (some v) ∧ DpOk (K.at T) H (fun a => T a ∧ B a = none) (mdAt md i).dp v d
  sto : ∀ i d, env[i]? = some (some d) → 3 ≤ (mdAt md i).dp → Sto K T ((mdAt md i).dp == 3) (Avd md σ env T H0 false) H0 B H d
section
variable {K : KM} {md : Mds} {T : TL} {H0 B H H' : Hp} {σ : L2.St} {env : DEnv}
theorem Top.carry {K : KF} {A A' : Pred} {a : Addr} {d : D} (c : Carry K H H' A A') (k : ∀ u, H a = some u → H' a = some u) (h : Top K H A a d) : Top K H' A' a d := by
  cases d with
  | lst ds =>
    obtain ⟨vs, e, r⟩ := h
    exact ⟨vs, k _ e, Rps.carry c _ _ r⟩
  | dic t ks ws =>
    obtain ⟨vs, e, r⟩ := h
    exact ⟨vs, e.mono k, Rps.carry c _ _ r⟩
  | non => exact h
  | bl _ => exact h
  | int _ => exact h
  | str _ => exact h
  | tup _ => exact h
  | frl _ => exact h
  | ktp _ => exact h
  | obj _ => exact h
theorem Top.there {K : KF} {A : Pred} {a : Addr} {d : D} (h : Top K H A a d) : ∃ o, H a = some o := by
  cases d with
  | lst ds => obtain ⟨vs, e, _⟩ := h; exact ⟨_, e⟩
  | dic t ks ws => obtain ⟨vs, e, _⟩ := h; exact e.there
  | non => exact h.elim
  | bl _ => exact h.elim
  | int _ => exact h.elim
  | str _ => exact h.elim
  | tup _ => exact h.elim
  | frl _ => exact h.elim
  | ktp _ => exact h.elim
  | obj _ => exact h.elim
theorem Top.ld {K : KF} {A : Pred} {a : Addr} {d : D} (t : Top K H A a d) : isLD d = true := by
  cases d with
  | lst _ => rfl
  | dic _ _ _ => rfl
  | _ => exact t.elim
theorem OwnOk.ofTop {K : KF} {A : Pred} {a : Addr} {d : D} (t : Top K H A a d) : OwnOk K H A (.ref a) d := ⟨fun _ => ⟨a, rfl, t⟩, fun h => by rw [t.ld] at h; cases h⟩
theorem OwnOk.carry {K : KF} {A A' : Pred} {v : V} {d : D} (h : OwnOk K H A v d) (c : Carry K H H' A A') (k : ∀ a u, v = .ref a → isLD d = true → H a = some u → H' a = some u) : OwnOk K H' A' v d :=
  ⟨fun hl => let ⟨a, e, t⟩ := h.top hl; ⟨a, e, t.carry c fun u eu => k a u e hl eu⟩, fun hl => let ⟨i, r⟩ := h.im hl; ⟨i, Rp.imm _ _ (Rp.carry c _ _ (Rp.imm _ _ r i)) i⟩⟩
theorem CellOk.carry {K : KF} {A A' : Pred} {a : Addr} {d : D} (c : Carry K H H' A A') (k : ∀ u, H a = some u → H' a = some u) (h : CellOk K H A a d) : CellOk K H' A' a d := by
  unfold CellOk at *
  split at h
  · obtain ⟨vs, e, r⟩ := h
    exact ⟨vs, k _ e, Rps.carry c _ _ r⟩
  · obtain ⟨vs, e, r⟩ := h
    exact ⟨vs, e.mono k, Rps.carry c _ _ r⟩
  · obtain ⟨od, u, vs, e1, e2, r⟩ := h
    exact ⟨od, u, vs, k _ e1, e2, Rps.carry c _ _ r⟩
  · obtain ⟨C, dx, fs, vs, e1, e2, r, e3, e4, e5⟩ := h
    exact ⟨C, dx, fs, vs, e1, k _ e2, Rps.carry c _ _ r, e3, e4, e5⟩
  · exact h
theorem Sto.carry {T' : TL} {w : Bool} {A A' : Pred} {B' : Hp} {d : D} (S : Sto K T w A H0 B H d) (hl : T'.l = T.l) (c : Carry (K.at T) H H' A A') (k : ∀ a u, SC w T H0 B a → H a = some u → H' a = some u) (m : ∀ a, T.p a → FzN B a → T'.p a ∧ FzN B' a) : Sto K T' w A' H0 B' H' d := by
  obtain ⟨cs, e1, e2, e3, e4⟩ := S.ex
  refine ⟨cs, e1, by rw [hl]; exact e2, by rw [hl]; exact e3, fun n a c' ha hc => ?_⟩
  rw [hl] at ha
  obtain ⟨x, y⟩ := e4 n a c' ha hc
  refine ⟨?_, ?_⟩
  · cases w with
    | true => exact m a x.1 x.2
    | false => exact x
  have e : K.at T' = K.at T := by unfold KM.at; rw [hl]
  rw [e]
  exact y.carry c fun u => k a u x
theorem Sto.same {w : Bool} {A : Pred} {d : D} (S : Sto K T w A H0 B H d) (s : Same H H') : Sto K T w A H0 B H' d := S.carry rfl (.same s) (fun a u _ => s a u) fun a x y => ⟨x, y⟩
theorem Sto.weak {w : Bool} {A A' : Pred} {d : D} (S : Sto K T w A H0 B H d) (m : ∀ a, A' a → A a) : Sto K T w A' H0 B H d := S.carry rfl (.weak m) (fun a u _ z => z) fun a x y => ⟨x, y⟩
theorem Rel.same (R : Rel K md T H0 B H σ env) (s : Same H H') : Rel K md T H0 B H' σ env := by
  refine ⟨R.s0, R.sB.trans s, fun a h => let ⟨o, e⟩ := R.tB a h; ⟨o, s _ _ e⟩, R.len, fun i d e hd => ?_, R.out, R.sep, R.tO, R.st, fun a h n => let ⟨u, e, m⟩ := R.tM a h n; ⟨u, s _ _ e, m⟩, fun i d e hd h3 => let ⟨v, ev, q⟩ := R.deep i d e hd h3; ⟨v, ev, q.carry (.same s) fun a u h e => ⟨s _ _ e, h⟩⟩, fun i d e hd => (R.sto i d e hd).same s⟩
  obtain ⟨v, ev, q⟩ := R.slot i d e hd
  refine ⟨v, ev, ?_⟩
  unfold SlotOk at *
  split at q
  · next h => rw [if_pos h]; exact q.carry (.same s) fun a u _ _ => s a u
  · next h => rw [if_neg h]; exact q.same s
theorem Rel.ownThere (R : Rel K md T H0 B H σ env) {i : Nat} {a : Addr} (o : OwnAt md σ env i a) : ∃ u, H a = some u := by
  obtain ⟨h1, ⟨d, h2, hl⟩, h3⟩ := o
  obtain ⟨v, e, q⟩ := R.slot i d h2 (R.st.od i h1)
  rw [e] at h3
  cases h3
  unfold SlotOk at q
  rw [if_pos h1] at q
  obtain ⟨a', e1, t⟩ := q.top hl
  cases e1
  exact t.there
theorem Rel.avdThere (R : Rel K md T H0 B H σ env) {nw : Bool} {a : Addr} (h : Avd md σ env T H0 nw a) : ∃ u, H a = some u := by
  rcases h with ⟨i, o⟩ | h | ⟨_, o, e⟩
  · exact R.ownThere o
  · exact R.tB a h
  · obtain ⟨u, e⟩ := R.s0 _ _ e
    exact ⟨u, R.sB _ _ e⟩
theorem Avd.mono {nw nw' : Bool} (h : nw = true → nw' = true) {a : Addr} (x : Avd md σ env T H0 nw a) : Avd md σ env T H0 nw' a := by
  rcases x with x | x | ⟨e, x⟩
  · exact .inl x
  · exact .inr (.inl x)
  · exact .inr (.inr ⟨h e, x⟩)
/-- a slot that is not owned -/
theorem Rel.shared (R : Rel K md T H0 B H σ env) {i : Nat} {d : D} (e : env[i]? = some (some d)) (ho : (mdAt md i).own = false) (hd : (mdAt md i).dp = 0) : ∃ v, σ[i]? = some (some v) ∧ Rp (K.at T) H (Avd md σ env T H0 (mdAt md i).nw) v d := by
  obtain ⟨v, ev, q⟩ := R.slot i d e hd
  refine ⟨v, ev, ?_⟩
  unfold SlotOk at q
  rw [if_neg (by rw [ho]; exact Bool.false_ne_true)] at q
  exact q
theorem Rel.owned (R : Rel K md T H0 B H σ env) {i : Nat} {d : D} (e : env[i]? = some (some d)) (ho : (mdAt md i).own = true) (hl : isLD d = true) : ∃ a, σ[i]? = some (some (.ref a)) ∧ OwnAt md σ env i a ∧ Top (K.at T) H (Avd md σ env T H0 (mdAt md i).nw) a d := by
  obtain ⟨v, ev, q⟩ := R.slot i d e (R.st.od i ho)
  unfold SlotOk at q
  rw [if_pos ho] at q
  obtain ⟨a, rfl, t⟩ := q.top hl
  exact ⟨a, ev, ⟨ho, ⟨d, e, hl⟩, ev⟩, t⟩
/-- an own slot that holds no list -/
theorem Rel.ownedI (R : Rel K md T H0 B H σ env) {i : Nat} {d : D} (e : env[i]? = some (some d)) (ho : (mdAt md i).own = true) (hl : isLD d = false) : ∃ v, σ[i]? = some (some v) ∧ imm d = true ∧ Rp (K.at T) H (fun _ => False) v d := by
  obtain ⟨v, ev, q⟩ := R.slot i d e (R.st.od i ho)
  unfold SlotOk at q
  rw [if_pos ho] at q
  exact ⟨v, ev, q.im hl⟩
theorem Rp.dic {K : KF} {A : Pred} {v : V} {t : Bool} {ks ws : List D} : Rp K H A v (.dic t ks ws) ↔ ∃ a vs, v = .ref a ∧ ¬ A a ∧ DicH (Rd H a) t ks vs ∧ Rps K H A vs ws := by conv => lhs; unfold Rp
theorem Top.rp {K : KF} {A : Pred} {a : Addr} {d : D} (h : Top K H A a d) : Rp K H (fun _ => False) (.ref a) d := by
  cases d with
  | lst ds =>
    obtain ⟨vs, e, r⟩ := h
    exact Rp.lst.mpr ⟨a, vs, rfl, id, e, r.weak fun _ z => z.elim⟩
  | dic t ks ws =>
    obtain ⟨vs, e, r⟩ := h
    exact Rp.dic.mpr ⟨a, vs, rfl, id, e.mono fun _ z => .inl z, r.weak fun _ z => z.elim⟩
  | non => exact h.elim
  | bl _ => exact h.elim
  | int _ => exact h.elim
  | str _ => exact h.elim
  | tup _ => exact h.elim
  | frl _ => exact h.elim
  | ktp _ => exact h.elim
  | obj _ => exact h.elim
/-- a slot forgotten -/
theorem kill_lookup {env : DEnv} {i j : Nat} {d : D} (e : (env.set i none)[j]? = some (some d)) : j ≠ i ∧ env[j]? = some (some d) := by
  by_cases h : j = i
  · subst h
    by_cases hl : j < env.length
    · rw [List.getElem?_set_self hl] at e; cases e
    · rw [List.getElem?_eq_none (by simpa using hl)] at e; cases e
  · exact ⟨h, by rwa [List.getElem?_set_ne (Ne.symm h)] at e⟩
end
end Dl
/-! Dl2: expressions. -/
namespace Dl
open PySem PySem.Spec PyProof.Rows L2
/-! ### outcomes again, of any kind -/
inductive RG (α : Type) where
  | ok (a : α) | exc (c : Str) (fs : Fields) | bad
def RG.bind {α β : Type} (r : RG α) (k : α → RG β) : RG β := match r with
  | .ok a => k a
  | .exc c fs => .exc c fs
  | .bad => .bad
def RG.ofO {α : Type} : Option α → RG α
  | some a => .ok a
  | none => .bad
abbrev DX := DEnv → RG D
abbrev DXs := DEnv → RG (List D)
abbrev DF' := List D → RG D
def ExcAt (K : KM) (H : Hp) (c : Str) (fs : Fields) (cls : Value) (dd : Option Addr) : Prop :=
  K.mg c = some cls ∧ ∃ x ffs, dd = some x ∧ H x = some (.xd ffs) ∧ ∀ p ∈ fs, imm p.2 = true ∧ ∃ v, ffs.lookup p.1 = some v ∧ Rp ⟨K, []⟩ H (fun _ => False) v p.2
/-- a value read: st: beyond A whole; else its own address may lie in A -/
def Rk (st : Bool) (K : KF) (H : Hp) (A : Pred) (v : V) (d : D) : Prop :=
  match st, d with
  | false, .lst ds => ∃ a vs, v = .ref a ∧ H a = some (.lst vs) ∧ Rps K H A vs ds
  | false, .dic t ks ws => ∃ a vs, v = .ref a ∧ DicH (Rd H a) t ks vs ∧ Rps K H A vs ws
  | _, d => Rp K H A v d
inductive Rks (st : Bool) (K : KF) (H : Hp) (A : Pred) : List V → List D → Prop
  | nil : Rks st K H A [] []
  | cons {v : V} {d : D} {vs : List V} {ds : List D} : Rk st K H A v d → Rks st K H A vs ds → Rks st K H A (v :: vs) (d :: ds)
section
section
variable {K : KF} {H H1 H' : Hp} {A A' : Pred} {st : Bool} {v : V} {d : D}
theorem Rk.of (h : Rp K H A v d) : Rk st K H A v d := by
  cases st with
  | true => cases d <;> exact h
  | false =>
    cases d with
    | lst ds => obtain ⟨a, vs, e, _, r, t⟩ := Rp.lst.mp h; exact ⟨a, vs, e, r, t⟩
    | dic t ks ws => obtain ⟨a, vs, e, _, r⟩ := Rp.dic.mp h; exact ⟨a, vs, e, r⟩
    | non => exact h
    | bl _ => exact h
    | int _ => exact h
    | str _ => exact h
    | tup _ => exact h
    | frl _ => exact h
    | ktp _ => exact h
    | obj _ => exact h
theorem Rk.strict (h : Rk true K H A v d) : Rp K H A v d := by cases d <;> exact h
theorem Rk.ofTop {a : Addr} (h : Top K H A a d) : Rk false K H A (.ref a) d := by
  cases d with
  | lst ds => obtain ⟨vs, e, r⟩ := h; exact ⟨a, vs, rfl, e, r⟩
  | dic t ks ws => obtain ⟨vs, e, r⟩ := h; exact ⟨a, vs, rfl, e.mono fun _ z => .inl z, r⟩
  | non => exact h.elim
  | bl _ => exact h.elim
  | int _ => exact h.elim
  | str _ => exact h.elim
  | tup _ => exact h.elim
  | frl _ => exact h.elim
  | ktp _ => exact h.elim
  | obj _ => exact h.elim
theorem Rk.same (h : Rk st K H A v d) (s : Same H H') : Rk st K H' A v d := by
  cases st with
  | true => exact .of (h.strict.same s)
  | false =>
    cases d with
    | lst ds => obtain ⟨a, vs, e, r, t⟩ := h; exact ⟨a, vs, e, s _ _ r, t.same s⟩
    | dic t ks ws => obtain ⟨a, vs, e, q, r⟩ := h; exact ⟨a, vs, e, q.mono fun _ z => Rd.same s z, r.same s⟩
    | non => exact Rp.same h s
    | bl _ => exact Rp.same h s
    | int _ => exact Rp.same h s
    | str _ => exact Rp.same h s
    | tup _ => exact Rp.same h s
    | frl _ => exact Rp.same h s
    | ktp _ => exact Rp.same h s
    | obj _ => exact Rp.same h s
theorem Rk.free (h : Rk st K H A v d) : Rp K H (fun _ => False) v d := by
  cases st with
  | true => exact h.strict.weak fun _ z => z.elim
  | false =>
    cases d with
    | lst ds => obtain ⟨a, vs, e, r, t⟩ := h; exact Rp.lst.mpr ⟨a, vs, e, id, r, t.weak fun _ z => z.elim⟩
    | dic t ks ws => obtain ⟨a, vs, e, q, r⟩ := h; exact Rp.dic.mpr ⟨a, vs, e, id, q, r.weak fun _ z => z.elim⟩
    | non => exact Rp.weak (A := A) h fun _ (z : False) => z.elim
    | bl _ => exact Rp.weak (A := A) h fun _ (z : False) => z.elim
    | int _ => exact Rp.weak (A := A) h fun _ (z : False) => z.elim
    | str _ => exact Rp.weak (A := A) h fun _ (z : False) => z.elim
    | tup _ => exact Rp.weak (A := A) h fun _ (z : False) => z.elim
    | frl _ => exact Rp.weak (A := A) h fun _ (z : False) => z.elim
    | ktp _ => exact Rp.weak (A := A) h fun _ (z : False) => z.elim
    | obj _ => exact Rp.weak (A := A) h fun _ (z : False) => z.elim
theorem Rk.loose (h : Rk st K H A v d) : Rk false K H A v d := by
  cases st with
  | true => exact .of h.strict
  | false => exact h
theorem Rk.weak (h : Rk st K H A v d) (m : ∀ a, A' a → A a) : Rk st K H A' v d := by
  cases st with
  | true => exact .of (h.strict.weak m)
  | false =>
    cases d with
    | lst ds => obtain ⟨a, vs, e, r, t⟩ := h; exact ⟨a, vs, e, r, t.weak m⟩
    | dic t ks ws => obtain ⟨a, vs, e, q, r⟩ := h; exact ⟨a, vs, e, q, r.weak m⟩
    | non => exact Rp.weak h m
    | bl _ => exact Rp.weak h m
    | int _ => exact Rp.weak h m
    | str _ => exact Rp.weak h m
    | tup _ => exact Rp.weak h m
    | frl _ => exact Rp.weak h m
    | ktp _ => exact Rp.weak h m
    | obj _ => exact Rp.weak h m
theorem Rk.lst {ds : List D} (h : Rk st K H A v (.lst ds)) : ∃ a vs, v = .ref a ∧ H a = some (.lst vs) ∧ Rps K H A vs ds := by
  cases st with
  | true => obtain ⟨a, vs, e, _, r, t⟩ := Rp.lst.mp h.strict; exact ⟨a, vs, e, r, t⟩
  | false => exact h
theorem Rk.dic {t : Bool} {ks ws : List D} (h : Rk st K H A v (.dic t ks ws)) : ∃ a vs, v = .ref a ∧ DicH (Rd H a) t ks vs ∧ Rps K H A vs ws := by
  cases st with
  | true => obtain ⟨a, vs, e, _, r⟩ := Rp.dic.mp h.strict; exact ⟨a, vs, e, r⟩
  | false => exact h
theorem Rk.tup {ds : List D} (h : Rk st K H A v (.tup ds)) : ∃ a vs, v = .ref a ∧ H a = some (.tup vs) ∧ Rps K H A vs ds := by
  have h' : Rp K H A v (.tup ds) := by cases st <;> exact h
  exact Rp.tup.mp h'
theorem Rk.frl {ds : List D} (h : Rk st K H A v (.frl ds)) : ∃ a vs, v = .ref a ∧ SqF K.k H a vs ∧ Rps K H A vs ds := by
  have h' : Rp K H A v (.frl ds) := by cases st <;> exact h
  exact Rp.frl.mp h'
theorem Rk.ktp {ds : List D} (h : Rk st K H A v (.ktp ds)) : ∃ a vs, v = .ref a ∧ SqT K.k H a vs ∧ Rps K H A vs ds := by
  have h' : Rp K H A v (.ktp ds) := by cases st <;> exact h
  exact Rp.ktp.mp h'
theorem Rk.obj {n : Nat} (h : Rk st K H A v (.obj n)) : ∃ a, v = .ref a ∧ K.l[n]? = some a := by
  have h' : Rp K H A v (.obj n) := by cases st <;> exact h
  exact Rp.obj.mp h'
theorem Rk.int {i : Int} (h : Rk st K H A v (.int i)) : v = .int i := by
  have h' : Rp K H A v (.int i) := by cases st <;> exact h
  exact Rp.int.mp h'
theorem Rk.bl {b : Bool} (h : Rk st K H A v (.bl b)) : v = .bl b := by
  have h' : Rp K H A v (.bl b) := by cases st <;> exact h
  exact Rp.bl.mp h'
theorem Rk.str {x : Str} (h : Rk st K H A v (.str x)) : v = .str x := by
  have h' : Rp K H A v (.str x) := by cases st <;> exact h
  exact Rp.str.mp h'
theorem Rk.non (h : Rk st K H A v .non) : v = .non := by
  have h' : Rp K H A v .non := by cases st <;> exact h
  exact Rp.non.mp h'
theorem Rks.same {vs : List V} {ds : List D} (h : Rks st K H A vs ds) (s : Same H H') : Rks st K H' A vs ds := by
  induction h with
  | nil => exact .nil
  | cons q _ ih => exact .cons (q.same s) ih
theorem Rks.free {vs : List V} {ds : List D} (h : Rks st K H A vs ds) : Rps K H (fun _ => False) vs ds := by
  induction h with
  | nil => exact .nil
  | cons q _ ih => exact .cons q.free ih
theorem Rks.strict {vs : List V} {ds : List D} (h : Rks true K H A vs ds) : Rps K H A vs ds := by
  induction h with
  | nil => exact .nil
  | cons q _ ih => exact .cons q.strict ih
theorem Rks.of {vs : List V} {ds : List D} (h : Rps K H A vs ds) : Rks st K H A vs ds := by
  induction ds generalizing vs with
  | nil => rw [h.nil_eq]; exact .nil
  | cons d ds ih =>
    obtain ⟨v, r, rfl, q, t⟩ := h.uncons
    exact .cons (.of q) (ih t)
end
variable {K : KM} {W : WX} {H H1 H' : Hp} {σ : L2.St}
/-- what is wanted of an outcome -/
def EP0 {α β : Type} (K : KM) (W : WX) (σ : L2.St) (H : Hp) (r : RG α) (P : α → β → Hp → Prop) : Prop := match r with
  | .ok d => ∀ v H', Same H H' → P d v H'
  | .exc c fs => ∀ cls dd H', Same H H' → ExcAt K H' c fs cls dd → W cls dd σ H'
  | .bad => False
theorem EP0.same {α β : Type} {r : RG α} {P : α → β → Hp → Prop} (h : EP0 K W σ H r P) (s : Same H H1) : EP0 K W σ H1 r P := by
  cases r with
  | ok d => exact fun v H' s' => h v H' (s.trans s')
  | exc c fs => exact fun cls dd H' s' x => h cls dd H' (s.trans s') x
  | bad => exact h
theorem EP0.mono {α β : Type} {r : RG α} {P P' : α → β → Hp → Prop} (h : EP0 K W σ H r P) (f : ∀ d v H', Same H H' → r = .ok d → P d v H' → P' d v H') : EP0 K W σ H r P' := by
  cases r with
  | ok d => exact fun v H' s' => f d v H' s' rfl (h v H' s')
  | exc c fs => exact h
  | bad => exact h
theorem EP0.bind {α β γ δ : Type} {r : RG α} {k : α → RG γ} {P : γ → δ → Hp → Prop} (h : EP0 K W σ H (r.bind k) P) : EP0 (β := β) K W σ H r (fun d _ H1 => EP0 K W σ H1 (k d) P) := by
  cases r with
  | ok d => exact fun v H' s' => EP0.same h s'
  | exc c fs => exact h
  | bad => exact h
end
/-! ### judgements -/
def tD (K : KM) (W : WX) (md : Mds) (st nw : Bool) (f : DX) : TE := fun σ H Q => ∃ (T : TL) (H0 B : Hp) (env : DEnv), Rel K md T H0 B H σ env ∧
  EP0 K W σ H (f env) fun d v H' => Rk st (K.at T) H' (Avd md σ env T H0 nw) v d → Q v H'
def tDs (K : KM) (W : WX) (md : Mds) (st nw : Bool) (f : DXs) : TA := fun σ H Q => ∃ (T : TL) (H0 B : Hp) (env : DEnv), Rel K md T H0 B H σ env ∧
  EP0 K W σ H (f env) fun ds vs H' => Rks st (K.at T) H' (Avd md σ env T H0 nw) vs ds → Q vs H'
def tDT (K : KM) (W : WX) (md : Mds) (f : DX) : TT := fun σ H Q => ∃ (T : TL) (H0 B : Hp) (env : DEnv), Rel K md T H0 B H σ env ∧
  EP0 (β := V) K W σ H (f env) fun d _ H' => ∃ b, d = .bl b ∧ Q b H'
structure VE (X : Cx) (W : WX) (md : Mds) (st nw : Bool) (e : Expr) (f : DX) : Prop where
  run : PE X e (tD X.KM W md st nw f)
structure VA (X : Cx) (W : WX) (md : Mds) (st nw : Bool) (es : List Expr) (f : DXs) : Prop where
  run : PA X es (tDs X.KM W md st nw f)
structure VT (X : Cx) (W : WX) (md : Mds) (e : Expr) (f : DX) : Prop where
  run : PT X e (tDT X.KM W md f)
section
variable {X : Cx}
theorem _root_.L2.PE.imp {e : Expr} {t t' : TE} (h : PE X e t) (i : ∀ σ H Q, t' σ H Q → t σ H Q) : PE X e t' := ⟨fun pins s σ H Q I w => h.run pins s σ H Q I (i σ H Q w)⟩
theorem _root_.L2.PA.imp {es : List Expr} {t t' : TA} (h : PA X es t) (i : ∀ σ H Q, t' σ H Q → t σ H Q) : PA X es t' := ⟨fun p pins s σ H Q I w => h.run p pins s σ H Q I (i σ H Q w)⟩
theorem _root_.L2.PT.imp {e : Expr} {t t' : TT} (h : PT X e t) (i : ∀ σ H Q, t' σ H Q → t σ H Q) : PT X e t' := ⟨fun pins s σ H Q I w => h.run pins s σ H Q I (i σ H Q w)⟩
end
section
variable {X : Cx} {W : WX} {md : Mds} {st nw sa na sb nb : Bool} {e a b : Expr} {f fa fb : DX} {pos : Pos} {es : List Expr} {fs : DXs}
/-! ### weaker -/
theorem VE.loose (h : VE X W md st nw e f) : VE X W md false nw e f := ⟨h.run.imp fun σ H Q ⟨T, H0, B, env, R, p⟩ => ⟨T, H0, B, env, R, p.mono fun d v H' _ _ q r => q r.loose⟩⟩
theorem VE.old (h : VE X W md st nw e f) : VE X W md st false e f := ⟨h.run.imp fun σ H Q ⟨T, H0, B, env, R, p⟩ => ⟨T, H0, B, env, R, p.mono fun d v H' _ _ q r => q (r.weak fun a x => Avd.mono (by intro z; cases z) x)⟩⟩
/-- a value without lists and dicts, whatever was known -/
def dImm (f : DX) : DX := fun env => (f env).bind fun d => if imm d then .ok d else .bad
theorem VE.imm (h : VE X W md st nw e f) : VE X W md true true e (dImm f) := ⟨h.run.imp fun σ H Q ⟨T, H0, B, env, R, p⟩ => ⟨T, H0, B, env, R, p.bind.mono fun d v H' _ _ q r => by
  by_cases i : Dl.imm d = true
  · rw [if_pos i] at q
    exact q v H' (Same.refl _) (.of (Rp.imm d v r.free i))
  · rw [if_neg i] at q
    exact q.elim⟩⟩
/-! ### names, constants -/
def dVar (i : Nat) : DX := fun env => match env[i]? with
  | some (some d) => .ok d
  | _ => .bad
theorem ve_var {i : Nat} {x : Str} (hN : X.N[i]? = some x) (hv : Vis X.env.scope x) (hd : (x == ("__debug__" : Str)) = false) (hcd : (x == ("__classdict__" : Str)) = false) (ho : (mdAt md i).own = false) (hp : (mdAt md i).dp = 0) :
    VE X W md true (mdAt md i).nw (.Name x pos) (dVar i) := ⟨(pe_var hN hv hd hcd).imp fun σ H Q ⟨T, H0, B, env, R, p⟩ => by
  unfold dVar at p
  split at p
  · next d e =>
    obtain ⟨v, ev, r⟩ := R.shared e ho hp
    exact ⟨v, ev, p v H (Same.refl _) (.of r)⟩
  · exact p.elim⟩
theorem ve_varOwn {i : Nat} {x : Str} (hN : X.N[i]? = some x) (hv : Vis X.env.scope x) (hd : (x == ("__debug__" : Str)) = false) (hcd : (x == ("__classdict__" : Str)) = false) (ho : (mdAt md i).own = true) :
    VE X W md false (mdAt md i).nw (.Name x pos) (dVar i) := ⟨(pe_var hN hv hd hcd).imp fun σ H Q ⟨T, H0, B, env, R, p⟩ => by
  unfold dVar at p
  split at p
  · next d e =>
    cases hl : isLD d with
    | true =>
      obtain ⟨a, ev, _, t⟩ := R.owned e ho hl
      exact ⟨_, ev, p _ H (Same.refl _) (.ofTop t)⟩
    | false =>
      obtain ⟨v, ev, i, r⟩ := R.ownedI e ho hl
      exact ⟨_, ev, p _ H (Same.refl _) (.of (Rp.imm _ _ r i))⟩
  · exact p.elim⟩
def dC (d : D) : DX := fun _ => .ok d
theorem ve_int {i j} : VE X W md true true (.Constant (.int i) j pos) (dC (.int i)) := ⟨pe_int.imp fun σ H Q ⟨T, H0, B, env, R, p⟩ => p _ H (Same.refl _) (.of (Rp.int.mpr rfl))⟩
theorem ve_bl {i j} : VE X W md true true (.Constant (.bool i) j pos) (dC (.bl i)) := ⟨pe_bl.imp fun σ H Q ⟨T, H0, B, env, R, p⟩ => p _ H (Same.refl _) (.of (Rp.bl.mpr rfl))⟩
theorem ve_non {j} : VE X W md true true (.Constant .none j pos) (dC .non) := ⟨pe_non.imp fun σ H Q ⟨T, H0, B, env, R, p⟩ => p _ H (Same.refl _) (.of (Rp.non.mpr rfl))⟩
theorem ve_str {i j} : VE X W md true true (.Constant (.str i) j pos) (dC (.str i)) := ⟨pe_str.imp fun σ H Q ⟨T, H0, B, env, R, p⟩ => p _ H (Same.refl _) (.of (Rp.str.mpr rfl))⟩
/-! ### operators -/
/-- what is wanted of a made value -/
def GP (K : KF) (H : Hp) (A : Pred) (r : Option D) (Q : VK) : Prop := match r with
  | some d => ∀ v H', Same H H' → Rp K H' A v d → Q v H'
  | none => False
def Op2 (X : Cx) (r : R2) (g : D → D → Option D) : Prop := ∀ {l : List Addr} (H : Hp) (A : Pred) (x y : V) (dx dy : D) (Q : VK), (∀ a, A a → ∃ o, H a = some o) → Rk false ⟨X.KM, l⟩ H A x dx → Rk false ⟨X.KM, l⟩ H A y dy → GP ⟨X.KM, l⟩ H A (g dx dy) Q → r x y H Q
def Scalar2 (g : D → D → Option D) : Prop := ∀ x y d, g x y = some d → imm d = true
def dBin (g : D → D → Option D) (fa fb : DX) : DX := fun env => (fa env).bind fun x => (fb env).bind fun y => .ofO (g x y)
theorem gp_of {K : KM} {l : List Addr} {A : Pred} {σ : L2.St} {H : Hp} {o : Option D} {Q : VK} (p : EP0 K W σ H (RG.ofO o) fun d v H' => Rk true ⟨K, l⟩ H' A v d → Q v H') : GP ⟨K, l⟩ H A o Q := by
  cases o with
  | none => exact p.elim
  | some d => exact fun v H' s r => p v H' s (.of r)
/-- a made value without lists is beyond anything -/
theorem gp_imm {K : KF} {A A' : Pred} {H : Hp} {o : Option D} {Q : VK} (i : ∀ d, o = some d → Dl.imm d = true) (p : GP K H A o Q) : GP K H A' o Q := by
  cases o with
  | none => exact p
  | some d => exact fun v H' s r => p v H' s (Rp.imm d v r (i d rfl))
theorem bin_reading {σ : L2.St} {H : Hp} {Q : VK} {r : R2} {g : D → D → Option D} (ho : Op2 X r g) (h : tD X.KM W md true (na && nb) (dBin g fa fb) σ H Q) : tOp r (tD X.KM W md sa na fa) (tD X.KM W md sb nb fb) σ H Q := by
  obtain ⟨T, H0, B, env, R, p⟩ := h
  refine ⟨T, H0, B, env, R, p.bind.mono fun dx x H1 s1 _ p1 rx => ?_⟩
  refine ⟨T, H0, B, env, R.same s1, p1.bind.mono fun dy y H2 s2 _ p2 ry => ?_⟩
  have R2 := (R.same s1).same s2
  exact ho H2 (Avd md σ env T H0 (na && nb)) x y dx dy Q (fun a z => R2.avdThere z) ((rx.loose.same s2).weak fun a z => Avd.mono (fun e => (Bool.and_eq_true_iff.mp e).1) z) (ry.loose.weak fun a z => Avd.mono (fun e => (Bool.and_eq_true_iff.mp e).2) z) (gp_of p2)
theorem bin_readingS {σ : L2.St} {H : Hp} {Q : VK} {r : R2} {g : D → D → Option D} (ho : Op2 X r g) (hs : Scalar2 g) (h : tD X.KM W md true true (dBin g fa fb) σ H Q) : tOp r (tD X.KM W md sa na fa) (tD X.KM W md sb nb fb) σ H Q := by
  obtain ⟨T, H0, B, env, R, p⟩ := h
  refine ⟨T, H0, B, env, R, p.bind.mono fun dx x H1 s1 _ p1 rx => ?_⟩
  refine ⟨T, H0, B, env, R.same s1, p1.bind.mono fun dy y H2 s2 _ p2 ry => ?_⟩
  have R2 := (R.same s1).same s2
  exact ho H2 (Avd md σ env T H0 (na && nb)) x y dx dy Q (fun a z => R2.avdThere z) ((rx.loose.same s2).weak fun a z => Avd.mono (fun e => (Bool.and_eq_true_iff.mp e).1) z) (ry.loose.weak fun a z => Avd.mono (fun e => (Bool.and_eq_true_iff.mp e).2) z) (gp_imm (fun d e => hs dx dy d e) (gp_of p2))
theorem ve_bin {op : Operator} {r : R2} {g : D → D → Option D} (ho : OpR X (binaryOp op) r) (hg : Op2 X r g) (ha : VE X W md sa na a fa) (hb : VE X W md sb nb b fb) : VE X W md true (na && nb) (.BinOp a op b pos) (dBin g fa fb) :=
  ⟨(pe_op ho ha.run hb.run).imp fun _ _ _ h => bin_reading hg h⟩
theorem ve_binS {op : Operator} {r : R2} {g : D → D → Option D} (ho : OpR X (binaryOp op) r) (hg : Op2 X r g) (hs : Scalar2 g) (ha : VE X W md sa na a fa) (hb : VE X W md sb nb b fb) : VE X W md true true (.BinOp a op b pos) (dBin g fa fb) :=
  ⟨(pe_op ho ha.run hb.run).imp fun _ _ _ h => bin_readingS hg hs h⟩
theorem ve_cmp {op : CmpOp} {r : R2} {g : D → D → Option D} (ho : OpR X (compareOp op) r) (hg : Op2 X r g) (hs : Scalar2 g) (ha : VE X W md sa na a fa) (hb : VE X W md sb nb b fb) (hm : behindInMarks op b = false) : VE X W md true true (.Compare a [op] [b] pos) (dBin g fa fb) :=
  ⟨(pe_cmpR ho ha.run hb.run hm).imp fun _ _ _ h => bin_readingS hg hs h⟩
/-- a test's reading from a value's -/
theorem test_of {σ : L2.St} {H : Hp} {Q : Bool → Hp → Prop} (h : tDT X.KM W md f σ H Q) : tD X.KM W md true true f σ H fun x H' => ∃ k, x = .bl k ∧ Q k H' := by
  obtain ⟨T, H0, B, env, R, p⟩ := h
  refine ⟨T, H0, B, env, R, p.mono fun d v H' s _ ⟨k, e, q⟩ r => ?_⟩
  subst e
  exact ⟨k, r.bl, q⟩
theorem vt_cmp {op : CmpOp} {r : R2} {g : D → D → Option D} (ho : OpR X (compareOp op) r) (hg : Op2 X r g) (hs : Scalar2 g) (ha : VE X W md sa na a fa) (hb : VE X W md sb nb b fb) (hm : behindInMarks op b = false) : VT X W md (.Compare a [op] [b] pos) (dBin g fa fb) :=
  ⟨(pt_cmpR ho ha.run hb.run hm).imp fun _ _ _ h => bin_readingS hg hs (test_of h)⟩
theorem vt_val' (h : VE X W md st nw e f) (he : ∀ whole, isTrue e X.env whole = (do let v ← whole; standAt e.pos; holding [v] (truthy v))) : VT X W md e f :=
  ⟨(pt_val h.run he).imp fun σ H Q ⟨T, H0, B, env, R, p⟩ => ⟨T, H0, B, env, R, p.mono fun d v H' s _ ⟨k, e, q⟩ r => by
    subst e
    exact ⟨k, r.bl, q⟩⟩⟩
/-! ### unary -/
def Op1 (X : Cx) (r : V → Hp → VK → Prop) (g : D → Option D) : Prop := ∀ {l : List Addr} (H : Hp) (A : Pred) (x : V) (dx : D) (Q : VK), Rk false ⟨X.KM, l⟩ H A x dx → GP ⟨X.KM, l⟩ H A (g dx) Q → r x H Q
def Scalar1 (g : D → Option D) : Prop := ∀ x d, g x = some d → imm d = true
def dUn (g : D → Option D) (fa : DX) : DX := fun env => (fa env).bind fun x => .ofO (g x)
theorem ve_un {op : UnaryOp} {r : V → Hp → VK → Prop} {g : D → Option D} (ho : UnR X (unaryOp op) r) (hg : Op1 X r g) (hs : Scalar1 g) (ha : VE X W md sa na a fa) : VE X W md true true (.UnaryOp op a pos) (dUn g fa) :=
  ⟨(pe_un ho ha.run).imp fun σ H Q ⟨T, H0, B, env, R, p⟩ => ⟨T, H0, B, env, R, p.bind.mono fun d v H' s _ q r => by
    refine hg H' _ v d Q r.loose (gp_imm (fun d' e => hs d d' e) (gp_of q))⟩⟩
theorem gp_scalar {K : KF} {H : Hp} {A : Pred} {d : D} {v : V} {Q : VK} (p : GP K H A (some d) Q) (r : Rp K H A v d) : Q v H := p v H (Same.refl _) r
end
/-! ### the operators' meanings -/
def gI (c : Int → Int → Bool) (g : Int → Int → D) : D → D → Option D
  | .int i, .int j => if c i j then some (g i j) else none
  | _, _ => none
section
variable {X : Cx}
theorem gI_op {C : Int → Int → Prop} {gv : Int → Int → V} {c : Int → Int → Bool} {g : Int → Int → D} (hc : ∀ i j, c i j = true → C i j) (hr : ∀ {l : List Addr} (H : Hp) (A : Pred) i j, Rp ⟨X.KM, l⟩ H A (gv i j) (g i j)) : Op2 X (rI C gv) (gI c g) := by
  intro l H A x y dx dy Q _ rx ry p
  cases dx <;> cases dy <;> try exact p.elim
  next i j =>
    simp only [gI] at p
    split at p
    · next h => exact ⟨i, j, rx.int, ry.int, hc i j h, gp_scalar p (hr H A i j)⟩
    · exact p.elim
def gI0 (g : Int → Int → D) : D → D → Option D
  | .int i, .int j => some (g i j)
  | _, _ => none
theorem gI0_op {gv : Int → Int → V} {g : Int → Int → D} (hr : ∀ {l : List Addr} (H : Hp) (A : Pred) i j, Rp ⟨X.KM, l⟩ H A (gv i j) (g i j)) : Op2 X (rI0 gv) (gI0 g) := by
  intro l H A x y dx dy Q _ rx ry p
  cases dx <;> cases dy <;> try exact p.elim
  next i j => exact ⟨i, j, rx.int, ry.int, gp_scalar p (hr H A i j)⟩
theorem gI_scalar {c : Int → Int → Bool} {g : Int → Int → D} (h : ∀ i j, imm (g i j) = true) : Scalar2 (gI c g) := by
  intro x y d e
  cases x <;> cases y <;> try (cases e; done)
  simp only [gI] at e
  split at e
  · cases e; exact h _ _
  · cases e
theorem gI0_scalar {g : Int → Int → D} (h : ∀ i j, imm (g i j) = true) : Scalar2 (gI0 g) := by
  intro x y d e
  cases x <;> cases y <;> cases e
  exact h _ _
def lim64 (i : Int) : Bool := decide (-(2 ^ 64) < i) && decide (i < 2 ^ 64)
def gAddI : D → D → Option D := gI0 fun i j => .int (i + j)
def gSubI : D → D → Option D := gI0 fun i j => .int (i - j)
def gMulI : D → D → Option D := gI (fun i j => lim64 i || lim64 j) fun i j => .int (i * j)
def gFdivI : D → D → Option D := gI (fun _ j => decide (0 < j) && decide (j < 1073741824)) fun i j => .int (i / j)
def gModI : D → D → Option D := gI (fun _ j => decide (0 < j)) fun i j => .int (i % j)
def gPowI : D → D → Option D := gI (fun i j => decide (0 ≤ j) && (decide (j ≤ 1000000) && decide (i.natAbs < 2 ^ 64))) fun i j => .int (i ^ j.toNat)
theorem op_gAddI : Op2 X (rI0 fun i j => .int (i + j)) gAddI := gI0_op fun _ _ _ _ => Rp.int.mpr rfl
theorem op_gSubI : Op2 X (rI0 fun i j => .int (i - j)) gSubI := gI0_op fun _ _ _ _ => Rp.int.mpr rfl
theorem op_gMulI : Op2 X (rI CMul fun i j => .int (i * j)) gMulI := gI_op (fun i j h => by
  unfold lim64 at h
  simp only [Bool.or_eq_true, Bool.and_eq_true, decide_eq_true_eq] at h
  exact h) fun _ _ _ _ => Rp.int.mpr rfl
theorem op_gFdivI : Op2 X (rI CDiv fun i j => .int (i / j)) gFdivI := gI_op (fun i j h => by
  simp only [Bool.and_eq_true, decide_eq_true_eq] at h
  exact h) fun _ _ _ _ => Rp.int.mpr rfl
theorem op_gModI : Op2 X (rI (fun _ j => 0 < j) fun i j => .int (i % j)) gModI := gI_op (fun i j h => of_decide_eq_true h) fun _ _ _ _ => Rp.int.mpr rfl
theorem op_gPowI : Op2 X (rI CPow fun i j => .int (i ^ j.toNat)) gPowI := gI_op (fun i j h => by
  simp only [Bool.and_eq_true, decide_eq_true_eq] at h
  exact h) fun _ _ _ _ => Rp.int.mpr rfl
def gCmpI (p : Int → Int → Bool) : D → D → Option D := gI0 fun i j => .bl (p i j)
theorem op_gCmpI {p : Int → Int → Bool} : Op2 X (rI0 fun i j => .bl (p i j)) (gCmpI p) := gI0_op fun _ _ _ _ => Rp.bl.mpr rfl
theorem sc_gCmpI {p : Int → Int → Bool} : Scalar2 (gCmpI p) := gI0_scalar fun _ _ => rfl
theorem sc_gSubI : Scalar2 gSubI := gI0_scalar fun _ _ => rfl
theorem sc_gMulI : Scalar2 gMulI := gI_scalar fun _ _ => rfl
theorem sc_gFdivI : Scalar2 gFdivI := gI_scalar fun _ _ => rfl
theorem sc_gModI : Scalar2 gModI := gI_scalar fun _ _ => rfl
theorem sc_gPowI : Scalar2 gPowI := gI_scalar fun _ _ => rfl
def gNeg : D → Option D
  | .int i => some (.int (-i))
  | _ => none
theorem op_gNeg : Op1 X (rU fun i => .int (-i)) gNeg := by
  intro l H A x dx Q rx p
  cases dx <;> try exact p.elim
  exact ⟨_, rx.int, gp_scalar p (Rp.int.mpr rfl)⟩
theorem sc_gNeg : Scalar1 gNeg := by
  intro x d e
  cases x <;> cases e
  rfl
/-! ### equality of data -/
mutual
def noDic : D → Bool
  | .dic _ _ _ => false
  | .frl _ => false
  | .ktp _ => false
  | .obj _ => false
  | .tup xs => noDics xs
  | .lst xs => noDics xs
  | _ => true
def noDics : List D → Bool
  | [] => true
  | d :: ds => noDic d && noDics ds
end
mutual
def toPy : D → PyData
  | .non => .none
  | .bl b => .bool b
  | .int i => .int i
  | .str x => .str x
  | .tup xs => .tuple (toPys xs)
  | .lst xs => .list (toPys xs)
  | .frl _ => .none
  | .ktp _ => .none
  | .dic _ _ _ => .none
  | .obj _ => .none
def toPys : List D → List PyData
  | [] => []
  | d :: ds => toPy d :: toPys ds
end
section
variable {K : KF} {H : Hp} {A : Pred}
mutual
theorem dp_of : ∀ (d : D) (v : V), Rp K H A v d → noDic d = true → Dp K.k H v (toPy d)
  | .non, v, h, _ => by rw [Rp.non.mp h]; unfold toPy; exact .non
  | .bl b, v, h, _ => by rw [Rp.bl.mp h]; unfold toPy; exact .bl b
  | .int i, v, h, _ => by rw [Rp.int.mp h]; unfold toPy; exact .int i
  | .str x, v, h, _ => by rw [Rp.str.mp h]; unfold toPy; exact .str x
  | .tup ds, v, h, n => by
    obtain ⟨a, vs, rfl, s, t⟩ := Rp.tup.mp h
    unfold toPy
    unfold noDic at n
    exact .tup (SqT.of s) (dps_of ds vs t n)
  | .lst ds, v, h, n => by
    obtain ⟨a, vs, rfl, _, s, t⟩ := Rp.lst.mp h
    unfold toPy
    unfold noDic at n
    exact .lst (SqL.of s) (dps_of ds vs t n)
  | .frl _, v, h, n => by unfold noDic at n; cases n
  | .ktp _, v, h, n => by unfold noDic at n; cases n
  | .dic _ _ _, v, h, n => by unfold noDic at n; cases n
  | .obj _, v, h, n => by unfold noDic at n; cases n
theorem dps_of : ∀ (ds : List D) (vs : List V), Rps K H A vs ds → noDics ds = true → DpAll K.k H vs (toPys ds)
  | [], vs, h, _ => by rw [h.nil_eq]; unfold toPys; exact .nil
  | d :: ds, vs, h, n => by
    obtain ⟨v, r, rfl, q, t⟩ := h.uncons
    unfold toPys
    unfold noDics at n
    rw [Bool.and_eq_true] at n
    exact .cons (dp_of d v q n.1) (dps_of ds r t n.2)
end
end
def eqOk (d : D) : Bool := noDic d && SeqAt.shaped (toPy d)
def gEq : D → D → Option D := fun x y => if eqOk x && eqOk y then some (.bl (PyData.eqv (toPy x) (toPy y))) else none
def gNe : D → D → Option D := fun x y => if eqOk x && eqOk y then some (.bl (!PyData.eqv (toPy x) (toPy y))) else none
theorem op_gEq : Op2 X (rEqD X.K) gEq := by
  intro l H A x y dx dy Q _ rx ry p
  unfold gEq at p
  split at p
  · next h =>
    unfold eqOk at h
    simp only [Bool.and_eq_true] at h
    exact ⟨_, _, dp_of dx x rx.free h.1.1, dp_of dy y ry.free h.2.1, h.1.2, h.2.2, gp_scalar p (Rp.bl.mpr rfl)⟩
  · exact p.elim
theorem op_gNe : Op2 X (rNeD X.K) gNe := by
  intro l H A x y dx dy Q _ rx ry p
  unfold gNe at p
  split at p
  · next h =>
    unfold eqOk at h
    simp only [Bool.and_eq_true] at h
    exact ⟨_, _, dp_of dx x rx.free h.1.1, dp_of dy y ry.free h.2.1, h.1.2, h.2.2, gp_scalar p (Rp.bl.mpr rfl)⟩
  · exact p.elim
theorem sc_gEq : Scalar2 gEq := by
  intro x y d e
  unfold gEq at e
  split at e <;> cases e
  rfl
theorem sc_gNe : Scalar2 gNe := by
  intro x y d e
  unfold gNe at e
  split at e <;> cases e
  rfl
/-- is None -/
def isNon : D → Bool
  | .non => true
  | _ => false
def gIsN : D → D → Option D := fun x y => match y with
  | .non => some (.bl (isNon x))
  | _ => none
def gNotN : D → D → Option D := fun x y => match y with
  | .non => some (.bl (!isNon x))
  | _ => none
theorem non_iff {K : KF} {H : Hp} {A : Pred} {x : V} {d : D} {st : Bool} (r : Rk st K H A x d) : decide (x = .non) = isNon d := by
  cases d with
  | non => have e := r.non; subst e; rfl
  | bl b => have e := r.bl; subst e; rfl
  | int b => have e := r.int; subst e; rfl
  | str b => have e := r.str; subst e; rfl
  | tup ds => obtain ⟨a, _, e, _⟩ := r.tup; subst e; rfl
  | lst ds => obtain ⟨a, _, e, _⟩ := r.lst; subst e; rfl
  | frl ds => obtain ⟨a, _, e, _⟩ := r.frl; subst e; rfl
  | ktp ds => obtain ⟨a, _, e, _⟩ := r.ktp; subst e; rfl
  | dic t ks ws => obtain ⟨a, _, e, _⟩ := r.dic; subst e; rfl
  | obj n => obtain ⟨a, e, _⟩ := r.obj; subst e; rfl
theorem op_gIsN : Op2 X (fun x y H Q => y = .non ∧ Q (.bl (decide (x = .non))) H) gIsN := by
  intro l H A x y dx dy Q _ rx ry p
  cases dy <;> try exact p.elim
  refine ⟨ry.non, ?_⟩
  rw [non_iff rx]
  exact gp_scalar p (Rp.bl.mpr rfl)
theorem op_gNotN : Op2 X (fun x y H Q => y = .non ∧ Q (.bl (!decide (x = .non))) H) gNotN := by
  intro l H A x y dx dy Q _ rx ry p
  cases dy <;> try exact p.elim
  refine ⟨ry.non, ?_⟩
  rw [non_iff rx]
  exact gp_scalar p (Rp.bl.mpr rfl)
theorem sc_gIsN : Scalar2 gIsN := by
  intro x y d e
  cases y <;> cases e
  rfl
theorem sc_gNotN : Scalar2 gNotN := by
  intro x y d e
  cases y <;> cases e
  rfl
end
end Dl
/-! Dl3: displays, items, slices, and, or, calls. -/
namespace Dl
open PySem PySem.Spec PyProof.Rows L2
def starless : Expr → Bool
  | .Starred _ _ => false
  | _ => true
theorem notStar {e : Expr} {es : List Expr} {env : Env} (h : starless e = true) : starEach (e :: es) env = (false, eval e env) :: starEach es env := by
  cases e <;> first | rfl | cases h
section
variable {X : Cx} {W : WX} {md : Mds} {st nw sa na sb nb : Bool} {e a b : Expr} {f fa fb : DX} {pos : Pos} {es : List Expr} {fs : DXs}
theorem VE.to {s2 n2 : Bool} (h : VE X W md st nw e f) (h1 : (s2 && !st) = false) (h2 : (n2 && !nw) = false) : VE X W md s2 n2 e f := by
  have k1 : VE X W md s2 nw e f := by
    cases s2 with
    | false => exact h.loose
    | true => cases st with
      | true => exact h
      | false => cases h1
  cases n2 with
  | false => exact k1.old
  | true => cases nw with
    | true => exact k1
    | false => cases h2
/-! ### argument lists -/
def dNil : DXs := fun _ => .ok []
def dCons (f : DX) (fs : DXs) : DXs := fun env => (f env).bind fun x => (fs env).bind fun xs => .ok (x :: xs)
theorem va_nil : VA X W md st nw [] dNil := ⟨pa_nil.imp fun σ H Q ⟨T, H0, B, env, R, p⟩ => p [] H (Same.refl _) .nil⟩
theorem va_cons (h : VE X W md st nw e f) (hr : VA X W md st nw es fs) (hs : starEach (e :: es) X.env = (false, eval e X.env) :: starEach es X.env) : VA X W md st nw (e :: es) (dCons f fs) :=
  ⟨(pa_cons h.run hr.run hs).imp fun σ H Q ⟨T, H0, B, env, R, p⟩ => ⟨T, H0, B, env, R, p.bind.mono fun d v H1 s1 _ p1 r1 =>
    ⟨T, H0, B, env, R.same s1, p1.bind.mono fun ds vs H2 s2 _ p2 r2 => p2 (v :: vs) H2 (Same.refl _) (.cons (r1.same s2) r2)⟩⟩⟩
/-! ### displays -/
def dTup (fs : DXs) : DX := fun env => (fs env).bind fun ds => if ds.length ≤ sizeLine then .ok (.tup ds) else .bad
def dLst (fs : DXs) : DX := fun env => (fs env).bind fun ds => if ds.length ≤ sizeLine then .ok (.lst ds) else .bad
theorem Rks.length {K : KF} {H : Hp} {A : Pred} {vs : List V} {ds : List D} (h : Rks st K H A vs ds) : vs.length = ds.length := by
  induction h with
  | nil => rfl
  | cons _ _ ih => simp [ih]
theorem ve_tup {k : Nat} (h : VA X W md true nw es fs) : VE X W md true nw (.Tuple es k pos) (dTup fs) :=
  ⟨(pe_tup h.run).imp fun σ H Q ⟨T, H0, B, env, R, p⟩ => ⟨T, H0, B, env, R, p.bind.mono fun ds vs H1 s1 _ p1 r => by
    by_cases z : ds.length ≤ sizeLine
    · rw [if_pos z] at p1
      refine ⟨by rw [r.length]; exact z, fun q nq => ?_⟩
      exact p1 _ _ (same_new nq) (.of (Rp.tup.mpr ⟨q, vs, rfl, upd_same, (r.strict.same (same_new nq))⟩))
    · rw [if_neg z] at p1
      exact p1.elim⟩⟩
/-- a new list or dict -/
def tDF (K : KM) (W : WX) (md : Mds) (nw : Bool) (f : DX) : TE := fun σ H Q => ∃ (T : TL) (H0 B : Hp) (env : DEnv), Rel K md T H0 B H σ env ∧
  EP0 K W σ H (f env) fun d v H' => (∃ p, v = .ref p ∧ H p = none ∧ Top (K.at T) H' (fun a => Avd md σ env T H0 nw a ∨ a = p) p d) → Q v H'
structure VF (X : Cx) (W : WX) (md : Mds) (nw : Bool) (e : Expr) (f : DX) : Prop where
  run : PE X e (tDF X.KM W md nw f)
theorem Top.rpA {K : KF} {H : Hp} {A : Pred} {p : Addr} {d : D} (t : Top K H (fun a => A a ∨ a = p) p d) (n : ¬ A p) : Rp K H A (.ref p) d := by
  cases d with
  | lst ds => obtain ⟨vs, e, r⟩ := t; exact Rp.lst.mpr ⟨p, vs, rfl, n, e, r.weak fun _ z => .inl z⟩
  | dic b ks ws => obtain ⟨vs, e, r⟩ := t; exact Rp.dic.mpr ⟨p, vs, rfl, n, e.mono fun _ z => .inl z, r.weak fun _ z => .inl z⟩
  | non => exact t.elim
  | bl _ => exact t.elim
  | int _ => exact t.elim
  | str _ => exact t.elim
  | tup _ => exact t.elim
  | frl _ => exact t.elim
  | ktp _ => exact t.elim
  | obj _ => exact t.elim
theorem VF.ve (h : VF X W md nw e f) : VE X W md true nw e f :=
  ⟨h.run.imp fun σ H Q ⟨T, H0, B, env, R, p⟩ => ⟨T, H0, B, env, R, p.mono fun d v H' s _ q ⟨x, ex, nx, t⟩ => by
    subst ex
    refine q (.of (t.rpA fun z => ?_))
    obtain ⟨o, e⟩ := R.avdThere z
    rw [nx] at e
    cases e⟩⟩
theorem VF.old (h : VF X W md nw e f) : VF X W md false e f :=
  ⟨h.run.imp fun σ H Q ⟨T, H0, B, env, R, p⟩ => ⟨T, H0, B, env, R, p.mono fun d v H' s _ q ⟨x, ex, nx, t⟩ => q ⟨x, ex, nx, t.carry (.weak fun a z => z.elim (fun y => .inl (Avd.mono (by intro c; cases c) y)) .inr) fun _ u => u⟩⟩⟩
theorem Rps.new {K : KF} {H : Hp} {A : Pred} {q : Addr} {o : HO} {vs : List V} {ds : List D} (r : Rps K H A vs ds) (nq : H q = none) : Rps K (upd H q o) (fun a => A a ∨ a = q) vs ds := Rps.carry (.new nq) ds vs r
theorem vf_lst (h : VA X W md true nw es fs) : VF X W md nw (.List es pos) (dLst fs) :=
  ⟨(pe_lst h.run).imp fun σ H Q ⟨T, H0, B, env, R, p⟩ => ⟨T, H0, B, env, R, p.bind.mono fun ds vs H1 s1 _ p1 r => by
    by_cases z : ds.length ≤ sizeLine
    · rw [if_pos z] at p1
      refine ⟨by rw [r.length]; exact z, fun q nq => ?_⟩
      exact p1 _ _ (same_new nq) ⟨q, rfl, Same.free s1 nq, vs, upd_same, r.strict.new nq⟩
    · rw [if_neg z] at p1
      exact p1.elim⟩⟩
/-! ### items -/
def keyOf : D → Option Key
  | .int i => some (.inl i)
  | .str x => some (.inr x)
  | _ => none
def keysOf : List D → Option (List Key)
  | [] => some []
  | d :: ds => (keyOf d).bind fun k => (keysOf ds).map (k :: ·)
theorem keyOf_eq {d : D} {k : Key} (h : keyOf d = some k) : d = keyD k := by
  cases d <;> cases h <;> rfl
theorem keysOf_eq : ∀ {ds : List D} {ks : List Key}, keysOf ds = some ks → ds = ks.map keyD
  | [], ks, h => by cases h; rfl
  | d :: ds, ks, h => by
    unfold keysOf at h
    cases e : keyOf d with
    | none => rw [e] at h; cases h
    | some k =>
      rw [e] at h
      cases e2 : keysOf ds with
      | none => rw [e2] at h; cases h
      | some r =>
        rw [e2] at h
        cases h
        rw [keyOf_eq e, keysOf_eq e2]
        rfl
theorem kV_of {K : KF} {H : Hp} {A : Pred} {v : V} {k : Key} (h : Rp K H A v (keyD k)) : v = kV k := by
  cases k with
  | inl i => exact Rp.int.mp h
  | inr x => exact Rp.str.mp h
theorem kVs_of {K : KF} {H : Hp} {A : Pred} : ∀ {ks : List Key} {vs : List V}, Rps K H A vs (ks.map keyD) → vs = ks.map kV
  | [], vs, h => h.nil_eq
  | k :: ks, vs, h => by
    obtain ⟨v, r, rfl, q, t⟩ := h.uncons
    rw [kV_of q, kVs_of t]
    rfl
/-- two data as keys -/
def keyEq : D → D → Bool
  | .int i, .int j => decide (i = j)
  | .str x, .str y => decide (x = y)
  | .tup xs, .tup ys => match keysOf xs, keysOf ys with
    | some ks, some ls => decide (ks = ls)
    | _, _ => false
  | _, _ => false
/-- the value at a key -/
def lookD : List D → List D → D → Option D
  | k :: ks, w :: ws, y => if keyEq k y then some w else lookD ks ws y
  | _, _, _ => none
theorem keyEq_key (a b : Key) : keyEq (keyD a) (keyD b) = decide (a = b) := by
  cases a with
  | inl i => cases b with
    | inl j => simp [keyD, keyEq]
    | inr y => simp [keyD, keyEq]
  | inr x => cases b with
    | inl j => simp [keyD, keyEq]
    | inr y => simp [keyD, keyEq]
theorem keysOf_map : ∀ ks : List Key, keysOf (ks.map keyD) = some ks
  | [] => rfl
  | k :: ks => by
    show (keyOf (keyD k)).bind _ = _
    have e : keyOf (keyD k) = some k := by cases k <;> rfl
    rw [e]
    show (keysOf (ks.map keyD)).map _ = _
    rw [keysOf_map ks]
    rfl
theorem keyEq_keys (a b : List Key) : keyEq (.tup (a.map keyD)) (.tup (b.map keyD)) = decide (a = b) := by
  simp only [keyEq, keysOf_map]
theorem look_of {κ : Type} [DecidableEq κ] {K : KF} {H : Hp} {A : Pred} {g : κ → D} {k : κ} {y : D} (he : ∀ j, keyEq (g j) y = decide (j = k)) : ∀ {kvs : List (κ × V)} {ws : List D}, Rps K H A (kvs.map (·.2)) ws →
    match lookD (kvs.map fun p => g p.1) ws y with
    | some w => ∃ v, valV kvs k = some v ∧ Rp K H A v w
    | none => valV kvs k = none
  | [], ws, _ => by cases ws <;> exact rfl
  | p :: r, [], h => by have := h.length; cases this
  | p :: r, w :: ws, h => by
    obtain ⟨v, r', e, q, t⟩ := h.uncons
    cases e
    show match (if keyEq (g p.1) y then some w else lookD (r.map fun p => g p.1) ws y) with
      | some w => ∃ v, valV (p :: r) k = some v ∧ Rp K H A v w
      | none => valV (p :: r) k = none
    rw [he p.1]
    by_cases hk : p.1 = k
    · rw [if_pos (decide_eq_true hk), valV_pos hk]
      exact ⟨_, rfl, q⟩
    · rw [if_neg (by rw [decide_eq_false hk]; exact Bool.false_ne_true), valV_neg hk]
      exact look_of he t
/-- the kind of key fits the kind of dict -/
def keyFits (t : Bool) (y : D) : Bool := match t, y with
  | true, .tup xs => (keysOf xs).isSome
  | false, .int _ => true
  | false, .str _ => true
  | _, _ => false
theorem DicH.dget {K : KF} {H : Hp} {A : Pred} {a : Addr} {y : V} {t : Bool} {ks ws : List D} {vs : List V} {dy : D} (h : DicH (Rd H a) t ks vs) (r : Rps K H A vs ws) (ry : Rk st K H A y dy) (hf : keyFits t dy = true) :
    ∃ o, DGet H a y o ∧ (match lookD ks ws dy with | some w => ∃ v, o = some v ∧ Rp K H A v w | none => o = none) := by
  cases t with
  | false =>
    obtain ⟨kvs, e, e1, e2⟩ := h
    subst e1 e2
    obtain ⟨k, rfl⟩ : ∃ k, dy = keyD k := by
      cases dy with
      | int i => exact ⟨.inl i, rfl⟩
      | str x => exact ⟨.inr x, rfl⟩
      | _ => cases hf
    have ey : y = kV k := kV_of ry.free
    exact ⟨valV kvs k, .inl ⟨kvs, k, e, ey, rfl⟩, look_of (g := keyD) (fun j => keyEq_key j k) r⟩
  | true =>
    obtain ⟨kvs, e, e1, e2⟩ := h
    subst e1 e2
    obtain ⟨t, rfl, hk⟩ : ∃ t, dy = .tup t ∧ (keysOf t).isSome = true := by
      cases dy with
      | tup t => exact ⟨t, rfl, hf⟩
      | _ => cases hf
    obtain ⟨k, hk⟩ := Option.isSome_iff_exists.mp hk
    have et := keysOf_eq hk
    subst et
    obtain ⟨b, vs, rfl, sq, rt⟩ := ry.tup
    have ev := kVs_of rt
    subst ev
    exact ⟨valV kvs k, .inr ⟨kvs, k, b, e, rfl, sq, rfl⟩, look_of (g := fun k : List Key => D.tup (k.map keyD)) (fun j => keyEq_keys j k) r⟩
/-! ### a[b] -/
def rIxD : R2 := fun x y H Q => ∃ a v, x = .ref a ∧ DGet H a y (some v) ∧ Q v H
theorem ix_dict (hu : X.A.units + 1 < cLine) : IxR X rIxD := by
  intro value slice pins s σ H x y v u Q I rx ry h hs
  obtain ⟨a, w, rfl, g, q⟩ := h
  cases rx
  refine tail_any (dict_typeIs I g) PySem.F.slot_dict_getitem.lookup (d_getItem hu I g ry fun w' s' I' r' => ⟨w, H, I', r', q⟩) hs
def rIxA (K : PySem.W.Frag) : R2 := fun x y H Q => rIx K x y H Q ∨ rIxD x y H Q
theorem ix_any (hu : X.A.units + 1 < cLine) : IxR X (rIxA X.K) := ix_seq.or (ix_dict hu)
def gIx : D → D → Option D
  | .lst ds, .int i => atI ds i
  | .tup ds, .int i => atI ds i
  | .frl ds, .int i => atI ds i
  | .ktp ds, .int i => atI ds i
  | .str z, .int i => if z.length ≤ sizeLine then (atI z.cps.toList i).map fun c => .str ⟨#[c]⟩ else none
  | .dic t ks ws, k => if keyFits t k then lookD ks ws k else none
  | _, _ => none
theorem Rps.atI {K : KF} {H : Hp} {A : Pred} {vs : List V} {ds : List D} {i : Int} {d : D} (h : Rps K H A vs ds) (e : atI ds i = some d) : ∃ v, atI vs i = some v ∧ Rp K H A v d := by
  unfold L2.atI at *
  rw [h.length]
  cases q : ixN ds.length i with
  | none => rw [q] at e; cases e
  | some j =>
    rw [q] at e
    obtain ⟨v, e1, r⟩ := h.get (i := j) (d := d) e
    exact ⟨v, e1, r⟩
theorem op_gIx : Op2 X (rIxA X.K) gIx := by
  intro l H A x y dx dy Q _ rx ry p
  have seq : ∀ {ds : List D} {i : Int}, GP ⟨X.KM, l⟩ H A (atI ds i) Q → ∀ {vs}, Rps ⟨X.KM, l⟩ H A vs ds → ∃ v, atI vs i = some v ∧ Q v H := fun {ds i} p {vs} r => by
    cases e : atI ds i with
    | none => rw [e] at p; exact p.elim
    | some d =>
      rw [e] at p
      obtain ⟨v, e1, q⟩ := r.atI e
      exact ⟨v, e1, gp_scalar p q⟩
  cases dx with
  | dic t ks ws =>
    simp only [gIx] at p
    split at p
    · next hf =>
      obtain ⟨a, vs, rfl, h, r⟩ := rx.dic
      obtain ⟨o, g, q⟩ := h.dget r ry hf
      cases e : lookD ks ws dy with
      | none => rw [e] at p; exact p.elim
      | some w =>
        rw [e] at p q
        obtain ⟨v, rfl, rw'⟩ := q
        exact .inr ⟨a, v, rfl, g, gp_scalar p rw'⟩
    · exact p.elim
  | lst ds =>
    cases dy <;> try exact p.elim
    next i =>
      obtain ⟨a, vs, rfl, h, r⟩ := rx.lst
      obtain ⟨v, e, q⟩ := seq p r
      exact .inl (.inl ⟨a, vs, i, v, rfl, ry.int, SqL.of h, e, q⟩)
  | frl ds =>
    cases dy <;> try exact p.elim
    next i =>
      obtain ⟨a, vs, rfl, h, r⟩ := rx.frl
      obtain ⟨v, e, q⟩ := seq p r
      exact .inl (.inl ⟨a, vs, i, v, rfl, ry.int, h.sq, e, q⟩)
  | tup ds =>
    cases dy <;> try exact p.elim
    next i =>
      obtain ⟨a, vs, rfl, h, r⟩ := rx.tup
      obtain ⟨v, e, q⟩ := seq p r
      exact .inl (.inr (.inl ⟨a, vs, i, v, rfl, ry.int, SqT.of h, e, q⟩))
  | ktp ds =>
    cases dy <;> try exact p.elim
    next i =>
      obtain ⟨a, vs, rfl, h, r⟩ := rx.ktp
      obtain ⟨v, e, q⟩ := seq p r
      exact .inl (.inr (.inl ⟨a, vs, i, v, rfl, ry.int, h, e, q⟩))
  | str z =>
    cases dy <;> try exact p.elim
    next i =>
      simp only [gIx] at p
      split at p
      · next hz =>
        cases e : atI z.cps.toList i with
        | none => rw [e] at p; exact p.elim
        | some c =>
          rw [e] at p
          exact .inl (.inr (.inr ⟨z, i, c, rx.str, ry.int, hz, e, gp_scalar p (Rp.str.mpr rfl)⟩))
      · exact p.elim
  | _ => exact p.elim
theorem ve_ix (hu : X.A.units + 1 < cLine) (ha : VE X W md sa na a fa) (hb : VE X W md sb nb b fb) (hs : PlainIx b) : VE X W md true (na && nb) (.Subscript a b pos) (dBin gIx fa fb) :=
  ⟨(pe_ix (ix_any hu) ha.run hb.run hs).imp fun _ _ _ h => bin_reading op_gIx h⟩
/-! ### slices -/
def cutD {α : Type} (xs : List α) (lo hi : Option Int) : List α := (xs.drop (HT.sIx xs.length 0 lo)).take (HT.sIx xs.length xs.length hi - HT.sIx xs.length 0 lo)
theorem Rps.cut {K : KF} {H : Hp} {A : Pred} {vs : List V} {ds : List D} (h : Rps K H A vs ds) (lo hi : Option Int) : Rps K H A (cutV vs lo hi) (cutD ds lo hi) := by
  unfold cutV cutD
  rw [h.length]
  exact (h.drop _).take _
def tDO (K : KM) (W : WX) (md : Mds) (f : DEnv → RG (Option Int)) : TO := fun σ H Q => ∃ (T : TL) (H0 B : Hp) (env : DEnv), Rel K md T H0 B H σ env ∧
  EP0 (β := V) K W σ H (f env) fun o _ H' => Q o H'
structure VO (X : Cx) (W : WX) (md : Mds) (e : Option Expr) (f : DEnv → RG (Option Int)) : Prop where
  run : PO X e (tDO X.KM W md f)
theorem _root_.L2.PO.imp {e : Option Expr} {t t' : TO} (h : PO X e t) (i : ∀ σ H Q, t' σ H Q → t σ H Q) : PO X e t' := ⟨fun pins s σ H Q I w => h.run pins s σ H Q I (i σ H Q w)⟩
def dNo : DEnv → RG (Option Int) := fun _ => .ok none
def dPart (f : DX) : DEnv → RG (Option Int) := fun env => (f env).bind fun x => match x with
  | .int i => .ok (some i)
  | _ => .bad
theorem vo_none : VO X W md none dNo := ⟨po_none.imp fun σ H Q ⟨T, H0, B, env, R, p⟩ => p .non H (Same.refl _)⟩
theorem vo_some (h : VE X W md st nw e f) : VO X W md (some e) (dPart f) := ⟨(po_some h.run).imp fun σ H Q ⟨T, H0, B, env, R, p⟩ => ⟨T, H0, B, env, R, p.bind.mono fun d v H1 s1 _ q r => by
  cases d <;> try exact q.elim
  exact ⟨_, r.int, q .non H1 (Same.refl _)⟩⟩⟩
def gSl : D → Option Int → Option Int → Option D
  | .lst ds, l, h => some (.lst (cutD ds l h))
  | .frl ds, l, h => some (.lst (cutD ds l h))
  | .tup ds, l, h => some (.tup (cutD ds l h))
  | .str z, l, h => if z.length ≤ sizeLine then some (.str (cutS z l h)) else none
  | _, _, _ => none
def dSl (f : DX) (l h : DEnv → RG (Option Int)) : DX := fun env => (f env).bind fun x => (l env).bind fun i => (h env).bind fun j => .ofO (gSl x i j)
def rSlAll (K : PySem.W.Frag) : V → Option Int → Option Int → Hp → VK → Prop := fun x lo hi H Q => rSlL K x lo hi H Q ∨ rSlA K x lo hi H Q ∨ rSlS x lo hi H Q
theorem sl_all : SlR X (rSlAll X.K) := sl_list.or (sl_tupA.or sl_str)
theorem cut_whole {α : Type} {xs : List α} {lo hi : Option Int} (h : HT.sIx xs.length 0 lo = 0 ∧ HT.sIx xs.length xs.length hi = xs.length) : cutD xs lo hi = xs := by
  unfold cutD
  rw [h.1, h.2]
  simp
theorem sl_reading {K : KF} {H : Hp} {A : Pred} {x : V} {dx : D} {lo hi : Option Int} {Q : VK} (hA : ∀ a, A a → ∃ o, H a = some o) (rx : Rk false K H A x dx) (p : GP K H A (gSl dx lo hi) Q) : rSlAll K.k x lo hi H Q := by
  have lst : ∀ {vs : List V} {ds : List D}, Rps K H A vs ds → GP K H A (some (.lst (cutD ds lo hi))) Q → ∀ q, H q = none → Q (.ref q) (upd H q (.lst (cutV vs lo hi))) := fun {vs ds} r p q nq => by
    have nA : ¬ A q := fun z => by
      obtain ⟨o, e⟩ := hA q z
      rw [nq] at e
      cases e
    exact p _ _ (same_new nq) (Rp.lst.mpr ⟨q, _, rfl, nA, upd_same, (r.cut lo hi).same (same_new nq)⟩)
  cases dx with
  | lst ds =>
    obtain ⟨a, vs, rfl, h, r⟩ := rx.lst
    exact .inl ⟨a, vs, rfl, SqL.of h, lst r p⟩
  | frl ds =>
    obtain ⟨a, vs, rfl, h, r⟩ := rx.frl
    exact .inl ⟨a, vs, rfl, h.sq, lst r p⟩
  | tup ds =>
    obtain ⟨a, vs, rfl, h, r⟩ := rx.tup
    refine .inr (.inl ⟨a, vs, rfl, SqT.of h, fun w => ?_, fun w q nq => ?_⟩)
    · rw [r.length] at w
      refine gp_scalar p ?_
      rw [cut_whole w]
      exact Rp.tup.mpr ⟨a, vs, rfl, h, r⟩
    · exact p _ _ (same_new nq) (Rp.tup.mpr ⟨q, _, rfl, upd_same, (r.cut lo hi).same (same_new nq)⟩)
  | str z =>
    simp only [gSl] at p
    split at p
    · next hz => exact .inr (.inr ⟨z, rx.str, hz, gp_scalar p (Rp.str.mpr rfl)⟩)
    · exact p.elim
  | _ => exact p.elim
theorem ve_slice {lo hi : Option Expr} {fl fh : DEnv → RG (Option Int)} {p2 : Pos} (he : VE X W md st nw e f) (hl : VO X W md lo fl) (hh : VO X W md hi fh) : VE X W md true nw (.Subscript e (.Slice lo hi none p2) pos) (dSl f fl fh) :=
  ⟨(pe_slice sl_all he.run hl.run hh.run).imp fun σ H Q ⟨T, H0, B, env, R, p⟩ => ⟨T, H0, B, env, R, p.bind.mono fun dx x H1 s1 _ p1 r1 =>
    ⟨T, H0, B, env, R.same s1, p1.bind.mono fun l _ H2 s2 _ p2 =>
      ⟨T, H0, B, env, (R.same s1).same s2, p2.bind.mono fun h _ H3 s3 _ p3 =>
        sl_reading (fun a z => (((R.same s1).same s2).same s3).avdThere z) ((r1.loose.same s2).same s3) (gp_of p3)⟩⟩⟩⟩
/-! ### and, or, not, if -/
def dAnd (fa fb : DX) : DX := fun env => (fa env).bind fun x => match x with
  | .bl true => fb env
  | .bl false => .ok (.bl false)
  | _ => .bad
def dOr (fa fb : DX) : DX := fun env => (fa env).bind fun x => match x with
  | .bl true => .ok (.bl true)
  | .bl false => fb env
  | _ => .bad
def dNot (fa : DX) : DX := fun env => (fa env).bind fun x => match x with
  | .bl b => .ok (.bl (!b))
  | _ => .bad
def dIf (fc fa fb : DX) : DX := fun env => (fc env).bind fun x => match x with
  | .bl true => fa env
  | .bl false => fb env
  | _ => .bad
theorem ve_one {op : BoolOp} (h : VE X W md st nw a f) : VE X W md st nw (.BoolOp op [a] pos) f := ⟨pe_one h.run⟩
theorem ve_and {r : List Expr} (ha : VE X W md sa na a fa) (hb : VE X W md st nw (.BoolOp .And (b :: r) pos) fb) : VE X W md st nw (.BoolOp .And (a :: b :: r) pos) (dAnd fa fb) :=
  ⟨(pe_and ha.run hb.run).imp fun σ H Q ⟨T, H0, B, env, R, p⟩ => ⟨T, H0, B, env, R, p.bind.mono fun dx x H1 s1 _ p1 r1 => by
    cases dx with
    | bl k =>
      refine ⟨k, r1.bl, ?_⟩
      cases k with
      | true => exact ⟨T, H0, B, env, R.same s1, p1⟩
      | false => exact p1 _ H1 (Same.refl _) (.of (Rp.bl.mpr rfl))
    | _ => exact p1.elim⟩⟩
theorem ve_or {r : List Expr} (ha : VE X W md sa na a fa) (hb : VE X W md st nw (.BoolOp .Or (b :: r) pos) fb) : VE X W md st nw (.BoolOp .Or (a :: b :: r) pos) (dOr fa fb) :=
  ⟨(pe_or ha.run hb.run).imp fun σ H Q ⟨T, H0, B, env, R, p⟩ => ⟨T, H0, B, env, R, p.bind.mono fun dx x H1 s1 _ p1 r1 => by
    cases dx with
    | bl k =>
      refine ⟨k, r1.bl, ?_⟩
      cases k with
      | true => exact p1 _ H1 (Same.refl _) (.of (Rp.bl.mpr rfl))
      | false => exact ⟨T, H0, B, env, R.same s1, p1⟩
    | _ => exact p1.elim⟩⟩
theorem ve_not (ha : VE X W md sa na a fa) : VE X W md true true (.UnaryOp .Not a pos) (dNot fa) :=
  ⟨(pe_not ha.run).imp fun σ H Q ⟨T, H0, B, env, R, p⟩ => ⟨T, H0, B, env, R, p.bind.mono fun dx x H1 s1 _ p1 r1 => by
    cases dx with
    | bl k => exact ⟨_, r1.bl, p1 _ H1 (Same.refl _) (.of (Rp.bl.mpr rfl))⟩
    | _ => exact p1.elim⟩⟩
structure VW (X : Cx) (W : WX) (md : Mds) (e : Expr) (f : DX) : Prop where
  run : PW X e (tDT X.KM W md f)
theorem _root_.L2.PW.imp {e : Expr} {t t' : TT} (h : PW X e t) (i : ∀ σ H Q, t' σ H Q → t σ H Q) : PW X e t' := ⟨fun wh pins s σ H Q I w => h.run wh pins s σ H Q I (i σ H Q w)⟩
theorem VW.vt (h : VW X W md e f) : VT X W md e f := ⟨h.run.pt⟩
theorem vw_and1 (h : VT X W md a f) : VW X W md (.BoolOp .And [a] pos) f := ⟨pw_and1 h.run⟩
theorem vw_or1 (h : VT X W md a f) : VW X W md (.BoolOp .Or [a] pos) f := ⟨pw_or1 h.run⟩
theorem vw_and {r : List Expr} (ha : VT X W md a fa) (hb : VW X W md (.BoolOp .And (b :: r) pos) fb) : VW X W md (.BoolOp .And (a :: b :: r) pos) (dAnd fa fb) :=
  ⟨(pw_and ha.run hb.run).imp fun σ H Q ⟨T, H0, B, env, R, p⟩ => ⟨T, H0, B, env, R, p.bind.mono fun dx x H1 s1 _ p1 => by
    cases dx with
    | bl k =>
      refine ⟨k, rfl, ?_⟩
      cases k with
      | true => exact ⟨T, H0, B, env, R.same s1, p1⟩
      | false => obtain ⟨b, e, q⟩ := p1 .non H1 (Same.refl _); cases e; exact q
    | _ => exact p1.elim⟩⟩
theorem vw_or {r : List Expr} (ha : VT X W md a fa) (hb : VW X W md (.BoolOp .Or (b :: r) pos) fb) : VW X W md (.BoolOp .Or (a :: b :: r) pos) (dOr fa fb) :=
  ⟨(pw_or ha.run hb.run).imp fun σ H Q ⟨T, H0, B, env, R, p⟩ => ⟨T, H0, B, env, R, p.bind.mono fun dx x H1 s1 _ p1 => by
    cases dx with
    | bl k =>
      refine ⟨k, rfl, ?_⟩
      cases k with
      | false => exact ⟨T, H0, B, env, R.same s1, p1⟩
      | true => obtain ⟨b, e, q⟩ := p1 .non H1 (Same.refl _); cases e; exact q
    | _ => exact p1.elim⟩⟩
theorem vt_not (ha : VT X W md a fa) : VT X W md (.UnaryOp .Not a pos) (dNot fa) :=
  ⟨(pt_not ha.run).imp fun σ H Q ⟨T, H0, B, env, R, p⟩ => ⟨T, H0, B, env, R, p.bind.mono fun dx x H1 s1 _ p1 => by
    cases dx with
    | bl k =>
      obtain ⟨b, e, q⟩ := p1 .non H1 (Same.refl _)
      cases e
      exact ⟨k, rfl, q⟩
    | _ => exact p1.elim⟩⟩
theorem ve_if {c : Expr} {fc : DX} (hc : VT X W md c fc) (ha : VE X W md st nw a fa) (hb : VE X W md st nw b fb) : VE X W md st nw (.IfExp c a b pos) (dIf fc fa fb) :=
  ⟨(pe_ifExp hc.run ha.run hb.run).imp fun σ H Q ⟨T, H0, B, env, R, p⟩ => ⟨T, H0, B, env, R, p.bind.mono fun dx x H1 s1 _ p1 => by
    cases dx with
    | bl k =>
      refine ⟨k, rfl, ?_⟩
      cases k with
      | true => exact ⟨T, H0, B, env, R.same s1, p1⟩
      | false => exact ⟨T, H0, B, env, R.same s1, p1⟩
    | _ => exact p1.elim⟩⟩
end
end Dl
/-! Dl4: calls of the program's own defs, of built-ins; the rest of the operators. -/
namespace Dl
open PySem PySem.Spec PyProof.Rows L2
/-- d handed back at v: a list or dict on top is new, alone -/
def Rpf (K : KF) (H : Hp) (A : Pred) (v : V) (d : D) : Prop := match d with
  | .lst ds => ∃ p, v = .ref p ∧ ¬ A p ∧ Top K H (fun a => A a ∨ a = p) p (.lst ds)
  | .dic t ks ws => ∃ p, v = .ref p ∧ ¬ A p ∧ Top K H (fun a => A a ∨ a = p) p (.dic t ks ws)
  | d => Rp K H A v d
def FR (fresh : Bool) (K : KF) (H0 H : Hp) (T : Pred) (v : V) (d : D) : Prop := match fresh with
  | true => Rpf K H (fun a => ∃ o, H0 a = some o) v d
  | false => Rp K H T v d
/-- what a def of plain data promises -/
def spD (K : KM) (ar : Nat) (fresh : Bool) (g : DF') : Sp := fun vs H Q E => ∃ (T : TL) (ds : List D), (∀ a, T a → ∃ o, H a = some o) ∧ Rps (K.at T) H T vs ds ∧ ds.length = ar ∧
  match g ds with
  | .ok d => ∀ v H', Same H H' → FR fresh (K.at T) H H' T v d → Q v H'
  | .exc c fs => ∀ cls dd H', Same H H' → ExcAt K H' c fs cls dd → E cls dd H'
  | .bad => False
structure FEnt where
  name : Str
  ar : Nat
  fresh : Bool
  den : DF'
structure FnAt (X : Cx) (k : Nat) (e : FEnt) : Prop where
  ex : ∃ f fd ps, FnOk X.prog X.w X.K X.mg X.base (L2.CX X.prog X.w) k f fd ps (spD X.KM e.ar e.fresh e.den) ∧ X.mg e.name = some (.ref f) ∧ PySem.W.keepIn X.K (.ref f) = true ∧ Binds X.K fd ps []
theorem Rpf.rp {K : KF} {H : Hp} {A : Pred} {v : V} {d : D} (h : Rpf K H A v d) : Rp K H A v d := by
  cases d with
  | lst ds => obtain ⟨p, rfl, n, t⟩ := h; exact t.rpA n
  | dic t ks ws => obtain ⟨p, rfl, n, t⟩ := h; exact t.rpA n
  | _ => exact h
section
variable {X : Cx} {W : WX} {md : Mds} {st nw sa na sb nb : Bool} {e a b : Expr} {f fa fb : DX} {pos : Pos} {es : List Expr} {fs : DXs}
def dCall (g : DF') (fs : DXs) : DX := fun env => (fs env).bind g
/-- the same, of a list or dict alone -/
def onlyL : D → RG D
  | .lst ds => .ok (.lst ds)
  | .dic t ks ws => .ok (.dic t ks ws)
  | _ => .bad
def dCallF (g : DF') (fs : DXs) : DX := fun env => (fs env).bind fun ds => (g ds).bind onlyL
theorem backTo_any {es : List Expr} {env : Env} {pos : Pos} (h : es.all starless = true) : (backTo pos (starEach es env)).any (·.1) = false := by
  have h1 : ∀ es : List Expr, es.all starless = true → (starEach es env).any (·.1) = false := by
    intro es
    induction es with
    | nil => intro _; rfl
    | cons e r ih =>
      intro h
      rw [List.all_cons, Bool.and_eq_true] at h
      rw [notStar h.1, List.any_cons, ih h.2]
      rfl
  have h2 : ∀ l : List (Bool × Sem Value), l.any (·.1) = false → (backTo pos l).any (·.1) = false := by
    intro l h
    unfold backTo
    first
      | (rw [List.any_map]; exact h)
      | (simpa [Function.comp] using h)
  exact h2 _ (h1 es h)
theorem call_reading {σ : L2.St} {H : Hp} {Q : VK} {ar : Nat} {g : DF'} (hl : ∀ env ds, fs env = .ok ds → ds.length = ar) (h : tD X.KM W md true true (dCall g fs) σ H Q) : tCallS (spD X.KM ar true g) (WE W) (tDs X.KM W md st nw fs) σ H Q := by
  obtain ⟨T, H0, B, env, R, p⟩ := h
  refine ⟨T, H0, B, env, R, p.bind.mono fun ds vs H1 s1 eq p1 r => ⟨⟨fun _ => False, T.l⟩, ds, fun _ z => z.elim, r.free, hl env ds eq, ?_⟩⟩
  cases e : g ds with
  | ok d =>
    rw [e] at p1
    exact fun v H' s q => p1 v H' s (.of (Rp.weak (Rpf.rp q) fun a z => (R.same s1).avdThere z))
  | exc c fs => rw [e] at p1; exact p1
  | bad => rw [e] at p1; exact p1
theorem call_readingA {σ : L2.St} {H : Hp} {Q : VK} {ar : Nat} {g : DF'} (hl : ∀ env ds, fs env = .ok ds → ds.length = ar) (h : tD X.KM W md true nw (dCall g fs) σ H Q) : tCallS (spD X.KM ar false g) (WE W) (tDs X.KM W md true nw fs) σ H Q := by
  obtain ⟨T, H0, B, env, R, p⟩ := h
  refine ⟨T, H0, B, env, R, p.bind.mono fun ds vs H1 s1 eq p1 r => ⟨⟨Avd md σ env T H0 nw, T.l⟩, ds, fun a z => (R.same s1).avdThere z, r.strict, hl env ds eq, ?_⟩⟩
  cases e : g ds with
  | ok d =>
    rw [e] at p1
    exact fun v H' s q => p1 v H' s (.of q)
  | exc c fs => rw [e] at p1; exact p1
  | bad => rw [e] at p1; exact p1
theorem call_readingF {σ : L2.St} {H : Hp} {Q : VK} {ar : Nat} {g : DF'} (hl : ∀ env ds, fs env = .ok ds → ds.length = ar) (h : tDF X.KM W md true (dCallF g fs) σ H Q) : tCallS (spD X.KM ar true g) (WE W) (tDs X.KM W md st nw fs) σ H Q := by
  obtain ⟨T, H0, B, env, R, p⟩ := h
  refine ⟨T, H0, B, env, R, p.bind.mono fun ds vs H1 s1 eq p1 r => ⟨⟨fun _ => False, T.l⟩, ds, fun _ z => z.elim, r.free, hl env ds eq, ?_⟩⟩
  have R1 := R.same s1
  have fin : ∀ {v : V} {H' : Hp} {d : D} {q : Addr}, v = .ref q → (¬ ∃ o, H1 q = some o) → Top (X.KM.at T) H' (fun a => (∃ o, H1 a = some o) ∨ a = q) q d → ∃ q, v = V.ref q ∧ H q = none ∧ Top (X.KM.at T) H' (fun a => Avd md σ env T H0 true a ∨ a = q) q d := fun {v H' d q} ev n t => by
    refine ⟨q, ev, ?_, t.carry (.weak fun a z => z.elim (fun y => .inl (R1.avdThere y)) .inr) fun _ u => u⟩
    cases hq : H q with
    | none => rfl
    | some o => exact absurd ⟨o, s1 _ _ hq⟩ n
  cases e : g ds with
  | ok d =>
    rw [e] at p1
    cases d with
    | lst ds => exact fun v H' s ⟨q, ev, n, t⟩ => p1 v H' s (fin ev n t)
    | dic b ks ws => exact fun v H' s ⟨q, ev, n, t⟩ => p1 v H' s (fin ev n t)
    | _ => exact p1.elim
  | exc c fs => rw [e] at p1; exact p1
  | bad => rw [e] at p1; exact p1
theorem ve_call {k : Nat} {F : FEnt} {p : Pos} (hf : F.fresh = true) (hF : FnAt X k F) (hr : Room k X.A) (hg : Gl X F.name) (tk : Takes X W) (ha : VA X W md st nw (e :: es) fs) (hl : ∀ env ds, fs env = .ok ds → ds.length = F.ar)
    (hdb : (F.name == ("__debug__" : Str)) = false) (hs : (e :: es).all starless = true) : VE X W md true true (.Call (.Name F.name p) (e :: es) [] pos) (dCall F.den fs) := by
  obtain ⟨f, fd, ps, ok, hm, hk, hb⟩ := hF.ex
  rw [hf] at ok
  rw [List.all_cons, Bool.and_eq_true] at hs
  exact ⟨(pe_callS ok hr hg hm hk hb (fun σ => passAt tk σ) ha.run hdb (notStar hs.1) (backTo_any hs.2)).imp fun σ H Q h => call_reading hl h⟩
theorem ve_callA {k : Nat} {F : FEnt} {p : Pos} (hf : F.fresh = false) (hF : FnAt X k F) (hr : Room k X.A) (hg : Gl X F.name) (tk : Takes X W) (ha : VA X W md true nw (e :: es) fs) (hl : ∀ env ds, fs env = .ok ds → ds.length = F.ar)
    (hdb : (F.name == ("__debug__" : Str)) = false) (hs : (e :: es).all starless = true) : VE X W md true nw (.Call (.Name F.name p) (e :: es) [] pos) (dCall F.den fs) := by
  obtain ⟨f, fd, ps, ok, hm, hk, hb⟩ := hF.ex
  rw [hf] at ok
  rw [List.all_cons, Bool.and_eq_true] at hs
  exact ⟨(pe_callS ok hr hg hm hk hb (fun σ => passAt tk σ) ha.run hdb (notStar hs.1) (backTo_any hs.2)).imp fun σ H Q h => call_readingA hl h⟩
theorem vf_call {k : Nat} {F : FEnt} {p : Pos} (hf : F.fresh = true) (hF : FnAt X k F) (hr : Room k X.A) (hg : Gl X F.name) (tk : Takes X W) (ha : VA X W md st nw (e :: es) fs) (hl : ∀ env ds, fs env = .ok ds → ds.length = F.ar)
    (hdb : (F.name == ("__debug__" : Str)) = false) (hs : (e :: es).all starless = true) : VF X W md true (.Call (.Name F.name p) (e :: es) [] pos) (dCallF F.den fs) := by
  obtain ⟨f, fd, ps, ok, hm, hk, hb⟩ := hF.ex
  rw [hf] at ok
  rw [List.all_cons, Bool.and_eq_true] at hs
  exact ⟨(pe_callS ok hr hg hm hk hb (fun σ => passAt tk σ) ha.run hdb (notStar hs.1) (backTo_any hs.2)).imp fun σ H Q h => call_readingF hl h⟩
/-! ### built-ins -/
def CallD (X : Cx) (r : List V → Hp → VK → Prop) (g : List D → Option D) : Prop := ∀ {l : List Addr} (H : Hp) (A : Pred) (xs : List V) (ds : List D) (Q : VK), (∀ a, A a → ∃ o, H a = some o) → Rks false ⟨X.KM, l⟩ H A xs ds → GP ⟨X.KM, l⟩ H A (g ds) Q → r xs H Q
def dCallO (g : List D → Option D) (fs : DXs) : DX := fun env => (fs env).bind fun ds => .ofO (g ds)
theorem Rks.loose {K : KF} {H : Hp} {A : Pred} {vs : List V} {ds : List D} (h : Rks st K H A vs ds) : Rks false K H A vs ds := by
  induction h with
  | nil => exact .nil
  | cons q _ ih => exact .cons q.loose ih
theorem blt_reading {σ : L2.St} {H : Hp} {Q : VK} {r : List V → Hp → VK → Prop} {g : List D → Option D} (hg : CallD X r g) (h : tD X.KM W md true nw (dCallO g fs) σ H Q) : tCB r (tDs X.KM W md st nw fs) σ H Q := by
  obtain ⟨T, H0, B, env, R, p⟩ := h
  exact ⟨T, H0, B, env, R, p.bind.mono fun ds vs H1 s1 _ p1 r1 => hg H1 _ vs ds Q (fun a z => (R.same s1).avdThere z) r1.loose (gp_of p1)⟩
def ScalarN (g : List D → Option D) : Prop := ∀ ds d, g ds = some d → imm d = true
theorem blt_readingS {σ : L2.St} {H : Hp} {Q : VK} {r : List V → Hp → VK → Prop} {g : List D → Option D} (hg : CallD X r g) (hs : ScalarN g) (h : tD X.KM W md true true (dCallO g fs) σ H Q) : tCB r (tDs X.KM W md st nw fs) σ H Q := by
  obtain ⟨T, H0, B, env, R, p⟩ := h
  exact ⟨T, H0, B, env, R, p.bind.mono fun ds vs H1 s1 _ p1 r1 => hg H1 _ vs ds Q (fun a z => (R.same s1).avdThere z) r1.loose (gp_imm (fun d e => hs ds d e) (gp_of p1))⟩
structure BltAt (X : Cx) (x : Str) (v : Value) : Prop where
  gl : Gl X x
  mg : X.mg x = none
  bt : bootBuiltins x = some v
  nm : x ≠ "__name__"
  db : (x == ("__debug__" : Str)) = false
theorem ve_bltS {x : Str} {id : String} {p : Pos} {r : List V → Hp → VK → Prop} {g : List D → Option D} (hc : CallR X (.builtin id) r) (hg : CallD X r g) (hsc : ScalarN g) (hb : BltAt X x (.builtin id)) (ha : VA X W md st nw (e :: es) fs)
    (hs : (e :: es).all starless = true) : VE X W md true true (.Call (.Name x p) (e :: es) [] pos) (dCallO g fs) := by
  rw [List.all_cons, Bool.and_eq_true] at hs
  exact ⟨(pe_callB hc hb.gl hb.mg hb.bt ha.run hb.nm hb.db (notStar hs.1) (backTo_any hs.2)).imp fun _ _ _ h => blt_readingS hg hsc h⟩
theorem ve_bty {x : Str} {id : String} {p : Pos} {r : List V → Hp → VK → Prop} {g : List D → Option D} (hc : CallR X (.type id) r) (hg : CallD X r g) (hb : BltAt X x (.type id)) (ha : VA X W md st nw (e :: es) fs)
    (hs : (e :: es).all starless = true) : VE X W md true nw (.Call (.Name x p) (e :: es) [] pos) (dCallO g fs) := by
  rw [List.all_cons, Bool.and_eq_true] at hs
  exact ⟨(pe_callTy hc hb.gl hb.mg hb.bt ha.run hb.nm hb.db (notStar hs.1) (backTo_any hs.2)).imp fun _ _ _ h => blt_reading hg h⟩
theorem Rks.one {K : KF} {H : Hp} {A : Pred} {xs : List V} {d : D} (h : Rks st K H A xs [d]) : ∃ v, xs = [v] ∧ Rk st K H A v d := by
  cases h with
  | cons q t => cases t; exact ⟨_, rfl, q⟩
theorem Rks.two {K : KF} {H : Hp} {A : Pred} {xs : List V} {d d2 : D} (h : Rks st K H A xs [d, d2]) : ∃ v v2, xs = [v, v2] ∧ Rk st K H A v d ∧ Rk st K H A v2 d2 := by
  cases h with
  | cons q t =>
    obtain ⟨v, rfl, q2⟩ := t.one
    exact ⟨_, _, rfl, q, q2⟩
def gLen : List D → Option D
  | [.lst ds] => some (.int ds.length)
  | [.tup ds] => some (.int ds.length)
  | [.frl ds] => some (.int ds.length)
  | [.ktp ds] => some (.int ds.length)
  | [.str z] => if z.length ≤ sizeLine then some (.int z.length) else none
  | _ => none
theorem cd_len : CallD X (fun xs H Q => ∃ x n, xs = [x] ∧ LenV X.K x H n ∧ Q (.int n) H) gLen := by
  intro l H A xs ds Q _ r p
  match ds, r, p with
  | [.lst ds], r, p =>
    obtain ⟨v, rfl, q⟩ := r.one
    obtain ⟨a, vs, rfl, h, t⟩ := q.lst
    exact ⟨_, vs.length, rfl, .inl ⟨vs, SqL.of h, rfl⟩, gp_scalar p (Rp.int.mpr (by rw [t.length]))⟩
  | [.frl ds], r, p =>
    obtain ⟨v, rfl, q⟩ := r.one
    obtain ⟨a, vs, rfl, h, t⟩ := q.frl
    exact ⟨_, vs.length, rfl, .inl ⟨vs, h.sq, rfl⟩, gp_scalar p (Rp.int.mpr (by rw [t.length]))⟩
  | [.tup ds], r, p =>
    obtain ⟨v, rfl, q⟩ := r.one
    obtain ⟨a, vs, rfl, h, t⟩ := q.tup
    exact ⟨_, vs.length, rfl, .inr ⟨vs, SqT.of h, rfl⟩, gp_scalar p (Rp.int.mpr (by rw [t.length]))⟩
  | [.ktp ds], r, p =>
    obtain ⟨v, rfl, q⟩ := r.one
    obtain ⟨a, vs, rfl, h, t⟩ := q.ktp
    exact ⟨_, vs.length, rfl, .inr ⟨vs, h, rfl⟩, gp_scalar p (Rp.int.mpr (by rw [t.length]))⟩
  | [.str z], r, p =>
    obtain ⟨v, rfl, q⟩ := r.one
    simp only [gLen] at p
    split at p
    · next hz => exact ⟨_, z.length, rfl, by rw [q.str]; exact ⟨hz, rfl⟩, gp_scalar p (Rp.int.mpr rfl)⟩
    · exact p.elim
  | [], r, p => exact p.elim
  | [.non], r, p => exact p.elim
  | [.bl _], r, p => exact p.elim
  | [.int _], r, p => exact p.elim
  | [.dic _ _ _], r, p => exact p.elim
  | d0 :: d1 :: dr, r, p => cases d0 <;> exact p.elim
theorem sc_len : ScalarN gLen := by
  intro ds d e
  unfold gLen at e
  split at e <;> first | (cases e; rfl) | (split at e <;> cases e; rfl) | cases e
def intsOf : List D → Option (List Int)
  | [] => some []
  | .int i :: r => (intsOf r).map (i :: ·)
  | _ => none
def blsOf : List D → Option (List Bool)
  | [] => some []
  | .bl i :: r => (blsOf r).map (i :: ·)
  | _ => none
theorem intsOf_eq : ∀ {ds : List D} {ns : List Int}, intsOf ds = some ns → ds = ns.map D.int
  | [], ns, h => by cases h; rfl
  | .int i :: r, ns, h => by
    unfold intsOf at h
    cases e : intsOf r with
    | none => rw [e] at h; cases h
    | some m => rw [e] at h; cases h; rw [intsOf_eq e]; rfl
  | .non :: r, ns, h => by cases h
  | .bl _ :: r, ns, h => by cases h
  | .str _ :: r, ns, h => by cases h
  | .tup _ :: r, ns, h => by cases h
  | .lst _ :: r, ns, h => by cases h
  | .frl _ :: r, ns, h => by cases h
  | .ktp _ :: r, ns, h => by cases h
  | .dic _ _ _ :: r, ns, h => by cases h
theorem blsOf_eq : ∀ {ds : List D} {ns : List Bool}, blsOf ds = some ns → ds = ns.map D.bl
  | [], ns, h => by cases h; rfl
  | .bl i :: r, ns, h => by
    unfold blsOf at h
    cases e : blsOf r with
    | none => rw [e] at h; cases h
    | some m => rw [e] at h; cases h; rw [blsOf_eq e]; rfl
  | .non :: r, ns, h => by cases h
  | .int _ :: r, ns, h => by cases h
  | .str _ :: r, ns, h => by cases h
  | .tup _ :: r, ns, h => by cases h
  | .lst _ :: r, ns, h => by cases h
  | .frl _ :: r, ns, h => by cases h
  | .ktp _ :: r, ns, h => by cases h
  | .dic _ _ _ :: r, ns, h => by cases h
theorem Rps.ints {K : KF} {H : Hp} {A : Pred} : ∀ {ns : List Int} {vs : List V}, Rps K H A vs (ns.map D.int) → vs = ns.map V.int
  | [], vs, h => h.nil_eq
  | n :: ns, vs, h => by
    obtain ⟨v, r, rfl, q, t⟩ := h.uncons
    rw [Rp.int.mp q, Rps.ints t]
    rfl
theorem Rps.bls {K : KF} {H : Hp} {A : Pred} : ∀ {ns : List Bool} {vs : List V}, Rps K H A vs (ns.map D.bl) → vs = ns.map V.bl
  | [], vs, h => h.nil_eq
  | n :: ns, vs, h => by
    obtain ⟨v, r, rfl, q, t⟩ := h.uncons
    rw [Rp.bl.mp q, Rps.bls t]
    rfl
def maxI (i j : Int) : Int := if j > i then j else i
def minI (i j : Int) : Int := if j < i then j else i
def gMax2 : List D → Option D
  | [.int i, .int j] => some (.int (maxI i j))
  | _ => none
def gMin2 : List D → Option D
  | [.int i, .int j] => some (.int (minI i j))
  | _ => none
theorem cd_max2 : CallD X (fun xs H Q => ∃ i j, xs = [.int i, .int j] ∧ Q (.int (if j > i then j else i)) H) gMax2 := by
  intro l H A xs ds Q _ r p
  unfold gMax2 at p
  split at p
  · obtain ⟨v, v2, rfl, q, q2⟩ := r.two
    exact ⟨_, _, by rw [q.int, q2.int], gp_scalar p (Rp.int.mpr rfl)⟩
  · exact p.elim
theorem cd_min2 : CallD X (fun xs H Q => ∃ i j, xs = [.int i, .int j] ∧ Q (.int (if j < i then j else i)) H) gMin2 := by
  intro l H A xs ds Q _ r p
  unfold gMin2 at p
  split at p
  · obtain ⟨v, v2, rfl, q, q2⟩ := r.two
    exact ⟨_, _, by rw [q.int, q2.int], gp_scalar p (Rp.int.mpr rfl)⟩
  · exact p.elim
def maxL : List Int → Option Int
  | [] => none
  | x :: r => some (r.foldl maxI x)
def minL : List Int → Option Int
  | [] => none
  | x :: r => some (r.foldl minI x)
theorem foldl_maxI : ∀ (r : List Int) (x : Int), (r.foldl maxI x ∈ x :: r) ∧ ∀ y ∈ x :: r, y ≤ r.foldl maxI x
  | [], x => ⟨List.mem_cons_self, fun y hy => by simp at hy; subst hy; exact Int.le_refl _⟩
  | z :: r, x => by
    obtain ⟨h1, h2⟩ := foldl_maxI r (maxI x z)
    have hm : maxI x z = x ∨ maxI x z = z := by unfold maxI; split <;> simp
    have hx : x ≤ maxI x z := by unfold maxI; split <;> omega
    have hz : z ≤ maxI x z := by unfold maxI; split <;> omega
    refine ⟨?_, fun y hy => ?_⟩
    · show r.foldl maxI (maxI x z) ∈ _
      rcases List.mem_cons.mp h1 with e | e
      · rw [e]; rcases hm with k | k <;> rw [k] <;> simp
      · simp [e]
    · show y ≤ r.foldl maxI (maxI x z)
      have b := h2 _ List.mem_cons_self
      rcases List.mem_cons.mp hy with e | hy
      · subst e; omega
      · rcases List.mem_cons.mp hy with e | hy
        · subst e; omega
        · exact h2 y (List.mem_cons_of_mem _ hy)
theorem foldl_minI : ∀ (r : List Int) (x : Int), (r.foldl minI x ∈ x :: r) ∧ ∀ y ∈ x :: r, r.foldl minI x ≤ y
  | [], x => ⟨List.mem_cons_self, fun y hy => by simp at hy; subst hy; exact Int.le_refl _⟩
  | z :: r, x => by
    obtain ⟨h1, h2⟩ := foldl_minI r (minI x z)
    have hm : minI x z = x ∨ minI x z = z := by unfold minI; split <;> simp
    have hx : minI x z ≤ x := by unfold minI; split <;> omega
    have hz : minI x z ≤ z := by unfold minI; split <;> omega
    refine ⟨?_, fun y hy => ?_⟩
    · show r.foldl minI (minI x z) ∈ _
      rcases List.mem_cons.mp h1 with e | e
      · rw [e]; rcases hm with k | k <;> rw [k] <;> simp
      · simp [e]
    · show r.foldl minI (minI x z) ≤ y
      have b := h2 _ List.mem_cons_self
      rcases List.mem_cons.mp hy with e | hy
      · subst e; omega
      · rcases List.mem_cons.mp hy with e | hy
        · subst e; omega
        · exact h2 y (List.mem_cons_of_mem _ hy)
def gMaxL : List D → Option D
  | [.lst ds] => (intsOf ds).bind fun ns => (maxL ns).map D.int
  | _ => none
def gMinL : List D → Option D
  | [.lst ds] => (intsOf ds).bind fun ns => (minL ns).map D.int
  | _ => none
theorem cd_maxL : CallD X (rMax X.K) gMaxL := by
  intro l H A xs ds Q _ r p
  unfold gMaxL at p
  split at p
  · next ds =>
    obtain ⟨v, rfl, q⟩ := r.one
    obtain ⟨a, vs, rfl, h, t⟩ := q.lst
    cases e : intsOf ds with
    | none => rw [e] at p; exact p.elim
    | some ns =>
      rw [e] at p
      rw [intsOf_eq e] at t
      have ev := t.ints
      subst ev
      cases ns with
      | nil => exact p.elim
      | cons x r =>
        have p : GP ⟨X.KM, l⟩ H A (some (.int (r.foldl maxI x))) Q := p
        obtain ⟨h1, h2⟩ := foldl_maxI r x
        refine ⟨a, x :: r, rfl, SqL.of h, by simp, fun m hm hle => ?_⟩
        have : m = r.foldl maxI x := Int.le_antisymm (h2 m hm) (hle _ h1)
        subst this
        exact gp_scalar p (Rp.int.mpr rfl)
  · exact p.elim
theorem cd_minL : CallD X (rMin X.K) gMinL := by
  intro l H A xs ds Q _ r p
  unfold gMinL at p
  split at p
  · next ds =>
    obtain ⟨v, rfl, q⟩ := r.one
    obtain ⟨a, vs, rfl, h, t⟩ := q.lst
    cases e : intsOf ds with
    | none => rw [e] at p; exact p.elim
    | some ns =>
      rw [e] at p
      rw [intsOf_eq e] at t
      have ev := t.ints
      subst ev
      cases ns with
      | nil => exact p.elim
      | cons x r =>
        have p : GP ⟨X.KM, l⟩ H A (some (.int (r.foldl minI x))) Q := p
        obtain ⟨h1, h2⟩ := foldl_minI r x
        refine ⟨a, x :: r, rfl, SqL.of h, by simp, fun m hm hle => ?_⟩
        have : m = r.foldl minI x := Int.le_antisymm (hle _ h1) (h2 m hm)
        subst this
        exact gp_scalar p (Rp.int.mpr rfl)
  · exact p.elim
/-- max and min of two ints, or of a list of ints -/
def gMax : List D → Option D := fun ds => match ds with
  | [_] => gMaxL ds
  | _ => gMax2 ds
def gMin : List D → Option D := fun ds => match ds with
  | [_] => gMinL ds
  | _ => gMin2 ds
theorem cd_or {r r' : List V → Hp → VK → Prop} {g h : List D → Option D} {k : List D → Option D} (hg : CallD X r g) (hh : CallD X r' h) (hk : ∀ ds, k ds = g ds ∨ k ds = h ds) : CallD X (fun xs H Q => r xs H Q ∨ r' xs H Q) k := by
  intro l H A xs ds Q z rr p
  rcases hk ds with e | e
  · rw [e] at p; exact .inl (hg H A xs ds Q z rr p)
  · rw [e] at p; exact .inr (hh H A xs ds Q z rr p)
theorem cd_max : CallD X (fun xs H Q => rMax X.K xs H Q ∨ ∃ i j, xs = [.int i, .int j] ∧ Q (.int (if j > i then j else i)) H) gMax := cd_or cd_maxL cd_max2 fun ds => by
  unfold gMax
  split <;> simp
theorem cd_min : CallD X (fun xs H Q => rMin X.K xs H Q ∨ ∃ i j, xs = [.int i, .int j] ∧ Q (.int (if j < i then j else i)) H) gMin := cd_or cd_minL cd_min2 fun ds => by
  unfold gMin
  split <;> simp
theorem sc_maxL : ScalarN gMaxL := by
  intro ds d e
  unfold gMaxL at e
  split at e
  · next ds =>
    cases h : intsOf ds with
    | none => rw [h] at e; cases e
    | some ns => rw [h] at e; cases ns <;> cases e; rfl
  · cases e
theorem sc_minL : ScalarN gMinL := by
  intro ds d e
  unfold gMinL at e
  split at e
  · next ds =>
    cases h : intsOf ds with
    | none => rw [h] at e; cases e
    | some ns => rw [h] at e; cases ns <;> cases e; rfl
  · cases e
theorem sc_max : ScalarN gMax := by
  intro ds d e
  unfold gMax at e
  split at e
  · exact sc_maxL _ _ e
  · unfold gMax2 at e
    split at e <;> cases e
    rfl
theorem sc_min : ScalarN gMin := by
  intro ds d e
  unfold gMin at e
  split at e
  · exact sc_minL _ _ e
  · unfold gMin2 at e
    split at e <;> cases e
    rfl
def gAll : List D → Option D
  | [.lst ds] => (blsOf ds).map fun bs => .bl (bs.all id)
  | _ => none
def gAny : List D → Option D
  | [.lst ds] => (blsOf ds).map fun bs => .bl (bs.any id)
  | _ => none
def gSum : List D → Option D
  | [.lst ds] => (intsOf ds).map fun ns => .int ns.sum
  | _ => none
theorem cd_all : CallD X (rAll X.K) gAll := by
  intro l H A xs ds Q _ r p
  unfold gAll at p
  split at p
  · next ds =>
    obtain ⟨v, rfl, q⟩ := r.one
    obtain ⟨a, vs, rfl, h, t⟩ := q.lst
    cases e : blsOf ds with
    | none => rw [e] at p; exact p.elim
    | some ns =>
      rw [e] at p
      rw [blsOf_eq e] at t
      have ev := t.bls
      subst ev
      exact ⟨a, ns, rfl, SqL.of h, gp_scalar p (Rp.bl.mpr rfl)⟩
  · exact p.elim
theorem cd_any : CallD X (rAny X.K) gAny := by
  intro l H A xs ds Q _ r p
  unfold gAny at p
  split at p
  · next ds =>
    obtain ⟨v, rfl, q⟩ := r.one
    obtain ⟨a, vs, rfl, h, t⟩ := q.lst
    cases e : blsOf ds with
    | none => rw [e] at p; exact p.elim
    | some ns =>
      rw [e] at p
      rw [blsOf_eq e] at t
      have ev := t.bls
      subst ev
      exact ⟨a, ns, rfl, SqL.of h, gp_scalar p (Rp.bl.mpr rfl)⟩
  · exact p.elim
theorem cd_sum : CallD X (rSum X.K) gSum := by
  intro l H A xs ds Q _ r p
  unfold gSum at p
  split at p
  · next ds =>
    obtain ⟨v, rfl, q⟩ := r.one
    obtain ⟨a, vs, rfl, h, t⟩ := q.lst
    cases e : intsOf ds with
    | none => rw [e] at p; exact p.elim
    | some ns =>
      rw [e] at p
      rw [intsOf_eq e] at t
      have ev := t.ints
      subst ev
      exact ⟨a, ns, rfl, SqL.of h, gp_scalar p (Rp.int.mpr rfl)⟩
  · exact p.elim
theorem sc_all : ScalarN gAll := by
  intro ds d e
  unfold gAll at e
  split at e
  · next ds => cases h : blsOf ds <;> rw [h] at e <;> cases e; rfl
  · cases e
theorem sc_any : ScalarN gAny := by
  intro ds d e
  unfold gAny at e
  split at e
  · next ds => cases h : blsOf ds <;> rw [h] at e <;> cases e; rfl
  · cases e
theorem sc_sum : ScalarN gSum := by
  intro ds d e
  unfold gSum at e
  split at e
  · next ds => cases h : intsOf ds <;> rw [h] at e <;> cases e; rfl
  · cases e
def gAbs : List D → Option D
  | [.int i] => some (.int (if i < 0 then -i else i))
  | _ => none
theorem cd_abs : CallD X (fun xs H Q => ∃ i, xs = [.int i] ∧ Q (.int (if i < 0 then -i else i)) H) gAbs := by
  intro l H A xs ds Q _ r p
  unfold gAbs at p
  split at p
  · obtain ⟨v, rfl, q⟩ := r.one
    exact ⟨_, by rw [q.int], gp_scalar p (Rp.int.mpr rfl)⟩
  · exact p.elim
theorem sc_abs : ScalarN gAbs := by
  intro ds d e
  unfold gAbs at e
  split at e <;> cases e
  rfl
end
end Dl
/-! Dl5: +, <, in, isinstance, list, tuple, constants of the module. -/
namespace Dl
open PySem PySem.Spec PyProof.Rows L2
section
variable {X : Cx} {W : WX} {md : Mds} {st nw sa na sb nb : Bool} {e a b : Expr} {f fa fb : DX} {pos : Pos} {es : List Expr} {fs : DXs}
/-! ### + -/
def gCatL : D → D → Option D
  | .lst xs, .lst ys => if xs.length + ys.length ≤ sizeLine then some (.lst (xs ++ ys)) else none
  | _, _ => none
def gCatT : D → D → Option D
  | .tup xs, .tup ys => if xs.length + ys.length ≤ sizeLine then some (.tup (xs ++ ys)) else none
  | _, _ => none
def gCatS : D → D → Option D
  | .str x, .str y => if x.length + y.length ≤ sizeLine then some (.str (x ++ y)) else none
  | _, _ => none
theorem newA {H : Hp} {A : Pred} {q : Addr} (hA : ∀ a, A a → ∃ o, H a = some o) (nq : H q = none) : ¬ A q := fun z => by
  obtain ⟨o, e⟩ := hA q z
  rw [nq] at e
  cases e
theorem op_gCatL : Op2 X rCat gCatL := by
  intro l H A x y dx dy Q hA rx ry p
  unfold gCatL at p
  split at p
  · next xs ys =>
    split at p
    · next hz =>
      obtain ⟨a, vs, rfl, h, r⟩ := rx.lst
      obtain ⟨b, ws, rfl, h2, r2⟩ := ry.lst
      refine ⟨a, b, vs, ws, rfl, rfl, h, h2, by rw [r.length, r2.length]; exact hz, fun q nq => ?_⟩
      exact p _ _ (same_new nq) (Rp.lst.mpr ⟨q, _, rfl, newA hA nq, upd_same, (r.append r2).same (same_new nq)⟩)
    · exact p.elim
  · exact p.elim
theorem Rps.nil_len {K : KF} {H : Hp} {A : Pred} {vs : List V} {ds : List D} (r : Rps K H A vs ds) (e : vs = []) : ds = [] := by
  have := r.length
  subst e
  cases ds with
  | nil => rfl
  | cons _ _ => cases this
theorem op_gCatT : Op2 X (rCatA X.K) gCatT := by
  intro l H A x y dx dy Q hA rx ry p
  unfold gCatT at p
  split at p
  · next xs ys =>
    split at p
    · next hz =>
      obtain ⟨a, vs, rfl, h, r⟩ := rx.tup
      obtain ⟨b, ws, rfl, h2, r2⟩ := ry.tup
      refine ⟨a, b, vs, ws, rfl, rfl, SqT.of h, SqT.of h2, by rw [r.length, r2.length]; exact hz, fun e => ?_, fun _ e => ?_, fun _ _ q nq => ?_⟩
      · have := r.nil_len e
        subst this
        exact gp_scalar p (Rp.tup.mpr ⟨b, ws, rfl, h2, r2⟩)
      · have := r2.nil_len e
        subst this
        rw [List.append_nil] at p
        exact gp_scalar p (Rp.tup.mpr ⟨a, vs, rfl, h, r⟩)
      · exact p _ _ (same_new nq) (Rp.tup.mpr ⟨q, _, rfl, upd_same, (r.append r2).same (same_new nq)⟩)
    · exact p.elim
  · exact p.elim
theorem op_gCatS : Op2 X (fun x y H Q => ∃ i j, x = .str i ∧ y = .str j ∧ i.length + j.length ≤ sizeLine ∧ Q (.str (i ++ j)) H) gCatS := by
  intro l H A x y dx dy Q hA rx ry p
  unfold gCatS at p
  split at p
  · next i j =>
    split at p
    · next hz => exact ⟨i, j, rx.str, ry.str, hz, gp_scalar p (Rp.str.mpr rfl)⟩
    · exact p.elim
  · exact p.elim
def gAdd : D → D → Option D := fun x y => match x with
  | .int _ => gAddI x y
  | .lst _ => gCatL x y
  | .tup _ => gCatT x y
  | _ => gCatS x y
def rAddAll (K : PySem.W.Frag) : R2 := fun x y H Q => ((rI0 (fun i j => .int (i + j)) x y H Q ∨ rCat x y H Q) ∨ rCatA K x y H Q) ∨ ∃ i j, x = .str i ∧ y = .str j ∧ i.length + j.length ≤ sizeLine ∧ Q (.str (i ++ j)) H
theorem opr_add : OpR X (binaryOp .Add) (rAddAll X.K) := ((op_add.or op_cat).or op_catA).or op_add_str
theorem op_gAdd : Op2 X (rAddAll X.K) gAdd := by
  intro l H A x y dx dy Q hA rx ry p
  unfold gAdd at p
  split at p
  · exact .inl (.inl (.inl (op_gAddI H A x y _ _ Q hA rx ry p)))
  · exact .inl (.inl (.inr (op_gCatL H A x y _ _ Q hA rx ry p)))
  · exact .inl (.inr (op_gCatT H A x y _ _ Q hA rx ry p))
  · exact .inr (op_gCatS H A x y _ _ Q hA rx ry p)
/-! ### < -/
def gLtT : D → D → Option D
  | .tup xs, .tup ys => (intsOf xs).bind fun ns => (intsOf ys).map fun ms => .bl (HT.lexLt ns ms)
  | _, _ => none
theorem op_gLtT : Op2 X (rLtT X.K) gLtT := by
  intro l H A x y dx dy Q hA rx ry p
  unfold gLtT at p
  split at p
  · next xs ys =>
    cases e1 : intsOf xs with
    | none => rw [e1] at p; exact p.elim
    | some ns =>
      cases e2 : intsOf ys with
      | none => rw [e1, e2] at p; exact p.elim
      | some ms =>
        rw [e1, e2] at p
        obtain ⟨a, vs, rfl, h, r⟩ := rx.tup
        obtain ⟨b, ws, rfl, h2, r2⟩ := ry.tup
        rw [intsOf_eq e1] at r
        rw [intsOf_eq e2] at r2
        have ev := r.ints
        have ew := r2.ints
        subst ev ew
        exact ⟨a, b, ns, ms, rfl, rfl, SqT.of h, SqT.of h2, gp_scalar p (Rp.bl.mpr rfl)⟩
  · exact p.elim
def gLt : D → D → Option D := fun x y => match x with
  | .int _ => gCmpI (fun i j => decide (i < j)) x y
  | _ => gLtT x y
def rLtAll (K : PySem.W.Frag) : R2 := fun x y H Q => rI0 (fun i j => .bl (decide (i < j))) x y H Q ∨ rLtT K x y H Q
theorem opr_lt (hu : X.A.units < cLine) : OpR X (compareOp .Lt) (rLtAll X.K) := op_lt.or (op_ltT hu)
theorem op_gLt : Op2 X (rLtAll X.K) gLt := by
  intro l H A x y dx dy Q hA rx ry p
  unfold gLt at p
  split at p
  · exact .inl (op_gCmpI H A x y _ _ Q hA rx ry p)
  · exact .inr (op_gLtT H A x y _ _ Q hA rx ry p)
theorem sc_gLtT : Scalar2 gLtT := by
  intro x y d e
  unfold gLtT at e
  split at e
  · next xs ys =>
    cases e1 : intsOf xs with
    | none => rw [e1] at e; cases e
    | some ns =>
      cases e2 : intsOf ys with
      | none => rw [e1, e2] at e; exact absurd e (by simp)
      | some ms => rw [e1, e2] at e; have e : some (D.bl (HT.lexLt ns ms)) = some d := e; cases e; rfl
  · cases e
theorem sc_gLt : Scalar2 gLt := by
  intro x y d e
  unfold gLt at e
  split at e
  · exact sc_gCmpI _ _ _ e
  · exact sc_gLtT _ _ _ e
/-! ### in -/
def flatD : D → Bool
  | .non => true
  | .bl _ => true
  | .int _ => true
  | .str _ => true
  | _ => false
def toV : D → V
  | .non => .non
  | .bl b => .bl b
  | .int i => .int i
  | .str x => .str x
  | _ => .non
theorem Rp.flat {K : KF} {H : Hp} {A : Pred} {v : V} {d : D} (h : Rp K H A v d) (f : flatD d = true) : v = toV d ∧ flatV v = true := by
  cases d with
  | non => rw [Rp.non.mp h]; exact ⟨rfl, rfl⟩
  | bl _ => rw [Rp.bl.mp h]; exact ⟨rfl, rfl⟩
  | int _ => rw [Rp.int.mp h]; exact ⟨rfl, rfl⟩
  | str _ => rw [Rp.str.mp h]; exact ⟨rfl, rfl⟩
  | _ => cases f
theorem Rps.flat {K : KF} {H : Hp} {A : Pred} : ∀ {ds : List D} {vs : List V}, Rps K H A vs ds → ds.all flatD = true → vs = ds.map toV ∧ vs.all flatV = true
  | [], vs, h, _ => by rw [h.nil_eq]; exact ⟨rfl, rfl⟩
  | d :: ds, vs, h, f => by
    obtain ⟨v, r, rfl, q, t⟩ := h.uncons
    rw [List.all_cons, Bool.and_eq_true] at f
    obtain ⟨e1, f1⟩ := q.flat f.1
    obtain ⟨e2, f2⟩ := Rps.flat t f.2
    rw [e2] at f2 ⊢
    rw [e1] at f1 ⊢
    exact ⟨rfl, by rw [List.all_cons, f1, f2]; rfl⟩
def inFlat (x : D) (ys : List D) : Option D := if flatD x && ys.all flatD then some (.bl (inV (toV x) (ys.map toV))) else none
def inDeep (x : D) (ys : List D) : Option D := if eqOk x && eqOk (.lst ys) then some (.bl ((toPys ys).any fun z => PyData.eqv z (toPy x))) else none
def inDic (x : D) (t : Bool) (ks ws : List D) : Option D := if keyFits t x then some (.bl (lookD ks ws x).isSome) else none
def inStr (x : D) (z : Str) : Option D := match x with
  | .str c => if c.length = 1 then some (.bl (decide (c.cps.getD 0 0 ∈ z.cps.toList))) else none
  | _ => none
def gIn : D → D → Option D := fun x y => match y with
  | .lst ys => inDeep x ys
  | .tup ys => inFlat x ys
  | .ktp ys => inFlat x ys
  | .dic t ks ws => inDic x t ks ws
  | .str z => inStr x z
  | _ => none
def gNotIn : D → D → Option D := fun x y => match gIn x y with
  | some (.bl b) => some (.bl (!b))
  | _ => none
def rInDic : R2 := fun y x H Q => ∃ a o, x = .ref a ∧ DGet H a y o ∧ Q (.bl o.isSome) H
def rNotInDic : R2 := fun y x H Q => ∃ a o, x = .ref a ∧ DGet H a y o ∧ Q (.bl (!o.isSome)) H
theorem opr_inDic (hu : X.A.units + 1 < cLine) : OpR X (compareOp .In) rInDic := by
  intro pins s σ H y x iv u Q I ry rx h
  obtain ⟨a, ov, ex, g, q⟩ := h
  subst ex
  obtain rfl : u = Value.ref a := rx
  exact d_in hu I g ry fun s3 I3 => ⟨.bl ov.isSome, H, I3, rfl, q⟩
theorem opr_notInDic (hu : X.A.units + 1 < cLine) : OpR X (compareOp .NotIn) rNotInDic := by
  intro pins s σ H y x iv u Q I ry rx h
  obtain ⟨a, ov, ex, g, q⟩ := h
  subst ex
  obtain rfl : u = Value.ref a := rx
  exact d_notIn hu I g ry fun s3 I3 => ⟨.bl (!ov.isSome), H, I3, rfl, q⟩
def rInAll (K : PySem.W.Frag) : R2 := fun x y H Q => ((rInD K x y H Q ∨ rIn K false x y H Q) ∨ rInDic x y H Q) ∨ ∃ (c : Nat) (z : Str), x = .str ⟨#[c]⟩ ∧ y = .str z ∧ Q (.bl (decide (c ∈ z.cps.toList))) H
def rNotInAll (K : PySem.W.Frag) : R2 := fun x y H Q => ((rNotInD K x y H Q ∨ rIn K true x y H Q) ∨ rNotInDic x y H Q) ∨ ∃ (c : Nat) (z : Str), x = .str ⟨#[c]⟩ ∧ y = .str z ∧ Q (.bl (!decide (c ∈ z.cps.toList))) H
theorem opr_in (hu : X.A.units + 65 < cLine) : OpR X (compareOp .In) (rInAll X.K) := (((op_inD hu).or op_in_seq).or (opr_inDic (by omega))).or op_in_sign
theorem opr_notIn (hu : X.A.units + 65 < cLine) : OpR X (compareOp .NotIn) (rNotInAll X.K) := (((op_notInD hu).or op_notIn_seq).or (opr_notInDic (by omega))).or op_notIn_sign
theorem one_sign {c : Str} (h : c.length = 1) : c = ⟨#[c.cps.getD 0 0]⟩ := by
  obtain ⟨a⟩ := c
  have h : a.size = 1 := h
  congr 1
  apply Array.ext
  · rw [h]; rfl
  · intro i h1 h2
    have : i = 0 := by simp at h2; omega
    subst this
    simp [Array.getD, h]
/-- one reading for in and not in: n tells which -/
theorem in_reading {n : Bool} {K : KF} {H : Hp} {A : Pred} {x y : V} {dx dy : D} {Q : VK} (rx : Rk false K H A x dx) (ry : Rk false K H A y dy) (p : GP K H A (match gIn dx dy with | some (.bl b) => some (.bl (if n then !b else b)) | _ => none) Q) :
    match n with
    | false => rInAll K.k x y H Q
    | true => rNotInAll K.k x y H Q := by
  have flat : ∀ {a vs ds}, (SqL K.k H a vs ∨ SqT K.k H a vs) → Rps K H A vs ds → y = .ref a → GP K H A (match inFlat dx ds with | some (.bl b) => some (.bl (if n then !b else b)) | _ => none) Q → rIn K.k n x y H Q := fun {a vs ds} h r ey p => by
    unfold inFlat at p
    by_cases hf : (flatD dx && ds.all flatD) = true
    · rw [if_pos hf] at p
      rw [Bool.and_eq_true] at hf
      obtain ⟨e1, f1⟩ := (Rk.free rx).flat hf.1
      obtain ⟨e2, f2⟩ := r.flat hf.2
      refine ⟨a, vs, ey, h, f1, f2, ?_⟩
      rw [e1, e2]
      exact gp_scalar p (Rp.bl.mpr rfl)
    · rw [if_neg hf] at p
      exact p.elim
  cases dy with
  | lst ys =>
    have p : GP K H A (match inDeep dx ys with | some (.bl b) => some (.bl (if n then !b else b)) | _ => none) Q := p
    unfold inDeep at p
    by_cases hz : (eqOk dx && eqOk (.lst ys)) = true
    · rw [if_pos hz] at p
      unfold eqOk at hz
      simp only [Bool.and_eq_true] at hz
      have dy' := dp_of _ y ry.free hz.2.1
      have dx' := dp_of _ x rx.free hz.1.1
      have sy := hz.2.2
      unfold toPy at dy' sy
      cases n with
      | false => exact .inl (.inl (.inl ⟨_, _, dx', dy', hz.1.2, sy, gp_scalar p (Rp.bl.mpr rfl)⟩))
      | true => exact .inl (.inl (.inl ⟨_, _, dx', dy', hz.1.2, sy, gp_scalar p (Rp.bl.mpr rfl)⟩))
    · rw [if_neg hz] at p
      exact p.elim
  | tup ys =>
    obtain ⟨a, vs, ey, h, r⟩ := ry.tup
    have q := flat (.inr (SqT.of h)) r ey p
    cases n with
    | false => exact .inl (.inl (.inr q))
    | true => exact .inl (.inl (.inr q))
  | ktp ys =>
    obtain ⟨a, vs, ey, h, r⟩ := ry.ktp
    have q := flat (.inr h) r ey p
    cases n with
    | false => exact .inl (.inl (.inr q))
    | true => exact .inl (.inl (.inr q))
  | dic t ks ws =>
    have p : GP K H A (match inDic dx t ks ws with | some (.bl b) => some (.bl (if n then !b else b)) | _ => none) Q := p
    unfold inDic at p
    by_cases hf : keyFits t dx = true
    · rw [if_pos hf] at p
      obtain ⟨a, vs, ey, h, r⟩ := ry.dic
      obtain ⟨o, g, q⟩ := h.dget r rx hf
      have eo : o.isSome = (lookD ks ws dx).isSome := by
        cases e : lookD ks ws dx with
        | none => rw [e] at q; rw [q]; rfl
        | some w => rw [e] at q; obtain ⟨v, rfl, _⟩ := q; rfl
      have p : GP K H A (some (.bl (if n then !(lookD ks ws dx).isSome else (lookD ks ws dx).isSome))) Q := p
      rw [← eo] at p
      cases n with
      | false => exact .inl (.inr ⟨a, o, ey, g, gp_scalar p (Rp.bl.mpr rfl)⟩)
      | true => exact .inl (.inr ⟨a, o, ey, g, gp_scalar p (Rp.bl.mpr rfl)⟩)
    · rw [if_neg hf] at p
      exact p.elim
  | str z =>
    have p : GP K H A (match inStr dx z with | some (.bl b) => some (.bl (if n then !b else b)) | _ => none) Q := p
    cases dx with
    | str c =>
      simp only [inStr] at p
      by_cases hc : c.length = 1
      · rw [if_pos hc] at p
        cases n with
        | false => exact .inr ⟨_, z, by rw [rx.str]; congr 1; exact one_sign hc, ry.str, gp_scalar p (Rp.bl.mpr rfl)⟩
        | true => exact .inr ⟨_, z, by rw [rx.str]; congr 1; exact one_sign hc, ry.str, gp_scalar p (Rp.bl.mpr rfl)⟩
      · rw [if_neg hc] at p
        exact p.elim
    | _ => exact p.elim
  | _ => exact p.elim
theorem gIn_bl {x y d : D} (h : gIn x y = some d) : ∃ b, d = .bl b := by
  unfold gIn at h
  split at h
  · unfold inDeep at h; split at h <;> cases h; exact ⟨_, rfl⟩
  · unfold inFlat at h; split at h <;> cases h; exact ⟨_, rfl⟩
  · unfold inFlat at h; split at h <;> cases h; exact ⟨_, rfl⟩
  · unfold inDic at h; split at h <;> cases h; exact ⟨_, rfl⟩
  · unfold inStr at h
    split at h
    · split at h <;> cases h; exact ⟨_, rfl⟩
    · cases h
  · cases h
theorem op_gIn : Op2 X (rInAll X.K) gIn := by
  intro l H A x y dx dy Q _ rx ry p
  refine in_reading (n := false) rx ry ?_
  cases e : gIn dx dy with
  | none => rw [e] at p; exact p
  | some d =>
    obtain ⟨b, rfl⟩ := gIn_bl e
    rw [e] at p
    exact p
theorem op_gNotIn : Op2 X (rNotInAll X.K) gNotIn := by
  intro l H A x y dx dy Q _ rx ry p
  refine in_reading (n := true) rx ry ?_
  unfold gNotIn at p
  cases e : gIn dx dy with
  | none => rw [e] at p; exact p
  | some d =>
    obtain ⟨b, rfl⟩ := gIn_bl e
    rw [e] at p
    exact p
theorem sc_gIn : Scalar2 gIn := fun x y d h => by obtain ⟨b, rfl⟩ := gIn_bl h; rfl
theorem sc_gNotIn : Scalar2 gNotIn := fun x y d h => by
  unfold gNotIn at h
  split at h <;> cases h
  rfl
/-! ### isinstance(x, T) -/
def tyName : D → String
  | .non => "NoneType"
  | .bl _ => "bool"
  | .int _ => "int"
  | .str _ => "str"
  | .tup _ => "tuple"
  | .ktp _ => "tuple"
  | .lst _ => "list"
  | .frl _ => "list"
  | .dic _ _ _ => "dict"
  | .obj _ => "object"
inductive TyN where
  | list | tuple | bool | int | str
def TyN.nm : TyN → String
  | .list => "list"
  | .tuple => "tuple"
  | .bool => "bool"
  | .int => "int"
  | .str => "str"
def isTy (t : TyN) (d : D) : Bool := match t, d with
  | .list, .lst _ => true
  | .list, .frl _ => true
  | .tuple, .tup _ => true
  | .tuple, .ktp _ => true
  | .bool, .bl _ => true
  | .int, .bl _ => true
  | .int, .int _ => true
  | .str, .str _ => true
  | _, _ => false
def noDict : D → Bool
  | .dic _ _ _ => false
  | .obj _ => false
  | _ => true
theorem tyx_of {K : KF} {H : Hp} {A : Pred} {v : V} {d : D} (r : Rk false K H A v d) (n : noDict d = true) : TyX K.k H v (.type (tyName d)) := by
  cases d with
  | non => rw [r.non]; exact .base .non
  | bl b => rw [r.bl]; exact .base (.bl b)
  | int b => rw [r.int]; exact .base (.int b)
  | str b => rw [r.str]; exact .base (.str b)
  | tup ds => obtain ⟨a, vs, rfl, h, _⟩ := r.tup; exact .base (.tup h)
  | lst ds => obtain ⟨a, vs, rfl, h, _⟩ := r.lst; exact .base (.lst h)
  | frl ds =>
    obtain ⟨a, vs, rfl, h, _⟩ := r.frl
    rcases h with ⟨o, h⟩ | ⟨o, its, n, h, hc, _⟩
    · exact .base (.frz h)
    · exact .kList h hc
  | ktp ds =>
    obtain ⟨a, vs, rfl, h, _⟩ := r.ktp
    rcases h with (h | ⟨o, h⟩) | ⟨o, its, n, h, hc, _⟩
    · exact .base (.tup h)
    · exact .fTuple h
    · exact .kTuple h hc
  | dic t ks ws => cases n
  | obj _ => cases n
theorem kit_is (K : PySem.W.Frag) (t : TyN) (d : D) (n : noDict d = true) : PySem.W.kitOne K (.type (tyName d)) (.type t.nm) = some (isTy t d) := by
  refine kit_ty ?_
  cases d <;> first
    | (cases n; done)
    | (cases t <;> simp only [tyName, TyN.nm, isTy] <;> decide +kernel)
def gIsT (t : TyN) : D → Option D := fun d => if noDict d then some (.bl (isTy t d)) else none
def dIsT (t : TyN) (f : DX) : DX := fun env => (f env).bind fun d => .ofO (gIsT t d)
theorem ve_isinst {t : TyN} {p p2 : Pos} (hb : BltAt X "isinstance" (.builtin "isinstance")) (ht : BltAt X (Str.ofString t.nm) (.type t.nm)) (he : VE X W md st nw e f) (hs : starless e = true) :
    VE X W md true true (.Call (.Name "isinstance" p) [e, .Name (Str.ofString t.nm) p2] [] pos) (dIsT t f) := by
  have h2 : PE X (.Name (Str.ofString t.nm) p2) (tC (.ty t.nm)) := pe_bltn ht.gl ht.mg ht.bt rfl ht.nm ht.db
  refine ⟨(pe_callB call_isi hb.gl hb.mg hb.bt (pa_cons he.run (pa_cons h2 pa_nil (notStar rfl)) (notStar hs)) hb.nm hb.db (notStar hs) (backTo_any rfl)).imp fun σ H Q ⟨T, H0, B, env, R, q⟩ => ⟨T, H0, B, env, R, q.bind.mono fun d v H1 s1 _ q1 r => ?_⟩⟩
  unfold gIsT at q1
  by_cases n : noDict d = true
  · rw [if_pos n] at q1
    exact ⟨v, _, _, _, isTy t d, rfl, .ty t.nm, tyx_of r.loose n, kit_is X.K t d n, q1 _ H1 (Same.refl _) (.of (Rp.bl.mpr rfl))⟩
  · rw [if_neg n] at q1
    exact q1.elim
/-! ### list(x), tuple(x) -/
def gList : D → Option (List D)
  | .lst ds => some ds
  | .tup ds => some ds
  | .frl ds => some ds
  | .ktp ds => some ds
  | .dic true ks _ => some ks
  | _ => none
def dListOf (fs : DXs) : DX := fun env => (fs env).bind fun ds => match ds with
  | [d] => match gList d with
    | some xs => .ok (.lst xs)
    | none => .bad
  | _ => .bad
def rListAll (K : PySem.W.Frag) : List V → Hp → VK → Prop := fun xs H Q => ((∃ p ys, xs = [.ref p] ∧ (SqL K H p ys ∨ SqT K H p ys) ∧ ∀ l, H l = none → Q (.ref l) (upd H l (.lst ys))) ∨ rListD xs H Q) ∨
  ∃ d kvs, xs = [V.ref d] ∧ Rd H d (.dT kvs) ∧ ∀ p bs, H p = none → IsKeys H kvs bs → Q (.ref p) (upd H p (.lst (bs.map V.ref)))
theorem cr_listAll (hc : X.calm = true) : CallR X (.type "list") (rListAll X.K) := (call_list_of.or (call_list_dK hc)).or (call_list_dT hc)
theorem keys_rp {K : KF} {H : Hp} {A : Pred} : ∀ ks : List Key, Rps K H A (ks.map kV) (ks.map keyD)
  | [] => .nil
  | k :: ks => .cons (by cases k with
    | inl i => exact Rp.int.mpr rfl
    | inr x => exact Rp.str.mpr rfl) (keys_rp ks)
theorem isKeys_rp {K : KF} {H : Hp} {A : Pred} : ∀ {kvs : List (List Key × V)} {bs : List Addr}, IsKeys H kvs bs → Rps K H A (bs.map V.ref) (kvs.map fun p => D.tup (p.1.map keyD))
  | [], _, .nil => .nil
  | p :: r, b :: bs, .cons h t => .cons (Rp.tup.mpr ⟨b, _, rfl, h, keys_rp p.1⟩) (isKeys_rp t)
theorem vf_list {p : Pos} (hc : X.calm = true) (hb : BltAt X "list" (.type "list")) (ha : VA X W md st nw (e :: es) fs) (hs : (e :: es).all starless = true) : VF X W md nw (.Call (.Name "list" p) (e :: es) [] pos) (dListOf fs) := by
  rw [List.all_cons, Bool.and_eq_true] at hs
  refine ⟨(pe_callTy (cr_listAll hc) hb.gl hb.mg hb.bt ha.run hb.nm hb.db (notStar hs.1) (backTo_any hs.2)).imp fun σ H Q ⟨T, H0, B, env, R, q⟩ => ⟨T, H0, B, env, R, q.bind.mono fun ds xs H1 s1 _ q1 r => ?_⟩⟩
  have fin : ∀ {vs : List V} {xs : List D} {l : Addr}, EP0 X.KM W σ H1 (RG.ok (D.lst xs)) (fun d v H' => (∃ p, v = V.ref p ∧ H p = none ∧ Top (X.KM.at T) H' (fun a => Avd md σ env T H0 nw a ∨ a = p) p d) → Q v H') → Rps (X.KM.at T) H1 (Avd md σ env T H0 nw) vs xs → H1 l = none → Q (.ref l) (upd H1 l (.lst vs)) :=
    fun {vs xs l} q1 r nl => q1 _ _ (same_new nl) ⟨l, rfl, Same.free s1 nl, vs, upd_same, r.new nl⟩
  match ds, r, q1 with
  | [d], r, q1 =>
    obtain ⟨v, rfl, rd⟩ := r.one
    cases d with
    | lst ds => obtain ⟨a, vs, rfl, h, t⟩ := rd.lst; exact .inl (.inl ⟨a, vs, rfl, .inl (SqL.of h), fun l nl => fin q1 t nl⟩)
    | frl ds => obtain ⟨a, vs, rfl, h, t⟩ := rd.frl; exact .inl (.inl ⟨a, vs, rfl, .inl h.sq, fun l nl => fin q1 t nl⟩)
    | tup ds => obtain ⟨a, vs, rfl, h, t⟩ := rd.tup; exact .inl (.inl ⟨a, vs, rfl, .inr (SqT.of h), fun l nl => fin q1 t nl⟩)
    | ktp ds => obtain ⟨a, vs, rfl, h, t⟩ := rd.ktp; exact .inl (.inl ⟨a, vs, rfl, .inr h, fun l nl => fin q1 t nl⟩)
    | dic t ks ws =>
      obtain ⟨a, vs, rfl, h, t'⟩ := rd.dic
      cases t with
      | true =>
        obtain ⟨kvs, e, e1, _⟩ := h
        subst e1
        exact .inr ⟨a, kvs, rfl, e, fun l bs nl hk => fin q1 (isKeys_rp hk) nl⟩
      | false => exact q1.elim
    | _ => exact q1.elim
  | [], r, q1 => exact q1.elim
  | _ :: _ :: _, r, q1 => exact q1.elim
def gTuple : List D → Option D
  | [.lst ds] => some (.tup ds)
  | [.tup ds] => some (.tup ds)
  | [.frl ds] => some (.tup ds)
  | _ => none
theorem cd_tuple : CallD X (fun xs H Q => ∃ p ys, xs = [.ref p] ∧ ((SqL X.K H p ys ∧ ∀ l, H l = none → Q (.ref l) (upd H l (.tup ys))) ∨ (SqT X.K H p ys ∧ Q (.ref p) H))) gTuple := by
  intro l H A xs ds Q hA r p
  unfold gTuple at p
  split at p
  · obtain ⟨v, rfl, q⟩ := r.one
    obtain ⟨a, vs, rfl, h, t⟩ := q.lst
    exact ⟨a, vs, rfl, .inl ⟨SqL.of h, fun l nl => p _ _ (same_new nl) (Rp.tup.mpr ⟨l, vs, rfl, upd_same, t.same (same_new nl)⟩)⟩⟩
  · obtain ⟨v, rfl, q⟩ := r.one
    obtain ⟨a, vs, rfl, h, t⟩ := q.tup
    exact ⟨a, vs, rfl, .inr ⟨SqT.of h, gp_scalar p (Rp.tup.mpr ⟨a, vs, rfl, h, t⟩)⟩⟩
  · obtain ⟨v, rfl, q⟩ := r.one
    obtain ⟨a, vs, rfl, h, t⟩ := q.frl
    exact ⟨a, vs, rfl, .inl ⟨h.sq, fun l nl => p _ _ (same_new nl) (Rp.tup.mpr ⟨l, vs, rfl, upd_same, t.same (same_new nl)⟩)⟩⟩
  · exact p.elim
/-! ### constants of the module -/
/-- what a name of the module stands for; a dict of it by its text keys -/
def ConP (K : PySem.W.Frag) (mg : Str → Option Value) (w : World) (v : V) : D → Prop
  | .dic _ ks ws => ∃ a, v = .ref a ∧ ∀ z d, lookD ks ws (.str z) = some d → ∃ u, KDct K w a z u ∧ ∀ l H A, Rp ⟨⟨K, mg⟩, l⟩ H A u d
  | .ktp ds => (∀ l H A, Rp ⟨⟨K, mg⟩, l⟩ H A v (.ktp ds)) ∧ ∃ a o, v = .ref a ∧ K.lookup a = some o ∧ o.cls = .type "tuple" ∧ o.dict = none
  | d => ∀ l H A, Rp ⟨⟨K, mg⟩, l⟩ H A v d
def isDct : D → Bool
  | .dic _ _ _ => true
  | _ => false
theorem ConP.rp {K : PySem.W.Frag} {mg : Str → Option Value} {w : World} {v : V} {d : D} (h : ConP K mg w v d) (n : isDct d = false) : ∀ l H A, Rp ⟨⟨K, mg⟩, l⟩ H A v d := by
  cases d with
  | dic t ks ws => cases n
  | ktp ds => exact h.1
  | _ => exact h
structure ConAt (X : Cx) (x : Str) (d : D) : Prop where
  ex : ∃ v u, X.mg x = some u ∧ RelV v u ∧ ConP X.K X.mg X.w v d
theorem ve_con {x : Str} {d : D} (h : ConAt X x d) (hn : isDct d = false) (hg : Gl X x) (hd : (x == ("__debug__" : Str)) = false) : VE X W md true true (.Name x pos) (dC d) := by
  obtain ⟨v, u, hm, r, q⟩ := h.ex
  exact ⟨(pe_glob hg hm r hd).imp fun σ H Q ⟨T, H0, B, env, R, p⟩ => p v H (Same.refl _) (.of (q.rp hn _ _ _))⟩
/-- what stands in a dict of the module -/
def gKIx (ks ws : List D) : D → Option D
  | .str z => lookD ks ws (.str z)
  | _ => none
theorem ve_kix {x : Str} {px : Pos} {t : Bool} {ks ws : List D} {sb nb : Bool} {b : Expr} {fb : DX} (h : ConAt X x (.dic t ks ws)) (hg : Gl X x) (hd : (x == ("__debug__" : Str)) = false) (hb : VE X W md sb nb b fb) (hs : PlainIx b) : VE X W md true true (.Subscript (.Name x px) b pos) (dUn (gKIx ks ws) fb) := by
  obtain ⟨v, u, hm, r, a, rfl, hk⟩ := h.ex
  refine ⟨(pe_ix ix_kdict (pe_glob hg hm r hd) hb.run hs).imp fun σ H Q ⟨T, H0, B, env, R, p⟩ => ⟨T, H0, B, env, R, p.bind.mono fun d y H' s _ q r => ?_⟩⟩
  cases d with
  | str z =>
    cases e : lookD ks ws (.str z) with
    | none =>
      have q : EP0 X.KM W σ H' (RG.ofO (lookD ks ws (.str z))) fun d v H' => Rk true (X.KM.at T) H' (Avd md σ env T H0 true) v d → Q v H' := q
      rw [e] at q
      exact q.elim
    | some d =>
      have q : EP0 X.KM W σ H' (RG.ofO (lookD ks ws (.str z))) fun d v H' => Rk true (X.KM.at T) H' (Avd md σ env T H0 true) v d → Q v H' := q
      rw [e] at q
      obtain ⟨w, k, rp⟩ := hk z d e
      exact ⟨a, z, w, rfl, r.loose, k, q _ _ (Same.refl _) (.of (rp _ _ _))⟩
  | _ => exact q.elim
/-- t.index(e) of a tuple of texts -/
def idxS (z : Str) : List Str → Nat → Option Nat
  | [], _ => none
  | y :: r, n => if y = z then some n else idxS z r (n + 1)
theorem idxS_ok {z : Str} : ∀ {l : List Str} {n i : Nat}, idxS z l n = some i → n ≤ i ∧ l[i - n]? = some z ∧ ∀ m, m < i - n → l[m]? ≠ some z
  | [], n, i, h => by cases h
  | y :: r, n, i, h => by
    unfold idxS at h
    split at h
    · next e => cases h; subst e; exact ⟨Nat.le_refl _, by simp, fun m hm => by omega⟩
    · next e =>
      obtain ⟨h1, h2, h3⟩ := idxS_ok h
      refine ⟨by omega, ?_, fun m hm => ?_⟩
      · rw [show i - n = (i - (n + 1)) + 1 by omega]
        simpa using h2
      · cases m with
        | zero => simpa using e
        | succ m => simpa using h3 m (by omega)
def gTIndex (ys : List Str) : D → Option D
  | .str z => (idxS z ys 0).map fun i => .int (i : Nat)
  | _ => none
theorem strs_rp {K : KF} {H : Hp} {A : Pred} : ∀ {ys : List Str} {vs : List V}, Rps K H A vs (ys.map D.str) → vs = ys.map V.str
  | [], _, r => r.nil_eq
  | y :: ys, _, r => by
    obtain ⟨v, vs, rfl, h, t⟩ := Rps.uncons r
    rw [Rp.str.mp h, strs_rp t]
    rfl
theorem ve_tindex {x : Str} {px apos cpos : Pos} {ys : List Str} {sb nb : Bool} {b : Expr} {fb : DX} (h : ConAt X x (.ktp (ys.map D.str))) (hg : Gl X x) (hd : (x == ("__debug__" : Str)) = false) (hb : VE X W md sb nb b fb) (hs : starless b = true)
    (hbase : attributeBase (.Name x px) "index" X.env (eval (.Name x px) X.env) = eval (.Name x px) X.env) (hline : (apos.endLine == cpos.line) = true) :
    VE X W md true true (.Call (.Attribute (.Name x px) "index" apos) [b] [] cpos) (dUn (gTIndex ys) fb) := by
  obtain ⟨v, u, hm, r, k⟩ := h.ex
  have k : (∀ l H A, Rp ⟨⟨X.K, X.mg⟩, l⟩ H A v (.ktp (ys.map D.str))) ∧ ∃ a o, v = .ref a ∧ X.K.lookup a = some o ∧ o.cls = .type "tuple" ∧ o.dict = none := k
  obtain ⟨k, a, o', rfl, hl, hc, hdn⟩ := k
  obtain ⟨a', vs, e', sq, rs⟩ := Rp.ktp.mp (k [] (fun _ => none) (fun _ => False))
  have e := strs_rp rs
  subst e
  obtain rfl : a = a' := by injection e'
  have hk := sq.resolve_left (fun z => by rcases z with z | ⟨_, z⟩ <;> exact nomatch z)
  refine ⟨(pe_bm PySem.F.plainAttrs_tuple PySem.F.slot_tuple_index PySem.F.type_tuple_index mt_tup_index (pe_glob hg hm r hd) (pa_cons hb.run pa_nil (notStar hs)) hbase (by rw [notStar hs]; rfl) hline (notStar hs) (backTo_any rfl)).imp fun σ H Q ⟨T, H0, B, env, R, p⟩ => ?_⟩
  refine ⟨.inr (.inl ⟨rfl, o', hl, hc, hdn⟩), T, H0, B, env, R, p.bind.mono fun d y H' s _ q r => ?_⟩
  cases d with
  | str z =>
    cases e : idxS z ys 0 with
    | none =>
      have q : EP0 X.KM W σ H' (RG.ofO ((idxS z ys 0).map fun i => .int (i : Nat))) fun d v H' => Rk true (X.KM.at T) H' (Avd md σ env T H0 true) v d → Q v H' := q
      rw [e] at q
      exact q.elim
    | some i =>
      have q : EP0 X.KM W σ H' (RG.ofO ((idxS z ys 0).map fun i => .int (i : Nat))) fun d v H' => Rk true (X.KM.at T) H' (Avd md σ env T H0 true) v d → Q v H' := q
      rw [e] at q
      obtain ⟨_, h2, h3⟩ := idxS_ok e
      exact ⟨a, ys, z, i, rfl, by rw [show y = .str z from r.loose], .inr hk, h2, h3, q _ _ (Same.refl _) (.of (Rp.int.mpr rfl))⟩
  | _ => exact q.elim
end
end Dl
/-! Dl5b: for i, x in enumerate(a tuple). -/
namespace PySem
open Sem (wp)
open AutoSeq1 (wpAny_loadPart')
theorem meets_enum_newB1 {v : Value} {o : Obj} {H : Heap → Prop} (B : Begins v o H) :
    Meets (Builtin.«enumerate.__new__» ⟨[.type "enumerate", v], []⟩) (fun _ R s => H s.heap ∧
      R (.ok (.ret (.ref (s.heap.push o).objs.size))) { s with heap := (s.heap.push o).push { cls := .type "enumerate", data := .fields #[.none, .bool false, .ref s.heap.objs.size, rawInt 0, .none, .none] } }) :=
  .of_wp fun prog w A R s h => by
    obtain ⟨hp, g, d, tk, os⟩ := s; obtain ⟨h1, h⟩ := h
    have hsub := sub_enumerate
    have q1 : ∀ {A' : Around} {E : Value → Shared → Prop} {Q : Value → Shared → Prop}, Q (.ref hp.objs.size) ⟨hp.push o, g, d, tk, os⟩ → wpAny (model prog w) A' (pyIter v) Q E ⟨hp, g, d, tk, os⟩ :=
      fun q => B.iter prog w _ _ ⟨hp, g, d, tk, os⟩ _ h1 q
    wp_walk using q1
    refine wpAny_stack_any fun st => wpAny_pure ?_
    split
    · rename_i c _ _ _ _ _
      cases (c == Value.type "enumerate")
      · wp_walk using q1
        exact ⟨_, rfl, h⟩
      · wp_walk using q1
        exact ⟨_, rfl, h⟩
    · wp_walk using q1
      exact ⟨_, rfl, h⟩
theorem enum_begins1 {prog : Program} {w : World} {A : Around} {E : Value → Shared → Prop} {s : Shared} {v : Value} {o : Obj} {H : Heap → Prop} {Q : Value → Shared → Prop} (B : Begins v o H) (h1 : H s.heap)
    (h : ∀ h', IsEnum h' (s.heap.objs.size + 1) s.heap.objs.size 0 .none → h'.get? s.heap.objs.size = some o → h'.objs.size = s.heap.objs.size + 2 →
      (∀ b o, s.heap.get? b = some o → h'.get? b = some o) → Q (.ref (s.heap.objs.size + 1)) { s with heap := h' }) :
    wpAny (model prog w) A (call (.type "enumerate") [v]) Q E s := by
  refine callType_new F.called_enumerate (by decide) (F.typeCall_enumerate_1 _) (F.newCall_enumerate_1 _) (fun obj => F.args_object_init_2 obj _) F.entry_enumerate_new
    (meets_enum_newB1 B) ⟨h1, ?_⟩
  have hz : (s.heap.push o).objs.size = s.heap.objs.size + 1 := Heap.size_push ..
  show _ ∧ _
  rw [hz]
  have he : IsEnum ((s.heap.push o).push { cls := .type "enumerate", data := .fields #[.none, .bool false, .ref s.heap.objs.size, rawInt 0, .none, .none] }) (s.heap.objs.size + 1) s.heap.objs.size 0 .none := by
    have := Heap.get?_push_size (s.heap.push o) (o := { cls := .type "enumerate", data := .fields #[.none, .bool false, .ref s.heap.objs.size, rawInt 0, .none, .none] }) rfl
    rw [hz] at this; exact this
  refine ⟨⟨_, he, rfl⟩, h _ he (Heap.get?_push_of_some _ (Heap.get?_push_size _ B.free)) (by rw [Heap.size_push, hz]) fun b o x => Heap.get?_push_of_some _ (Heap.get?_push_of_some _ x)⟩
theorem wpAny_pyNext_enum_endT {prog : Program} {w : World} {A : Around} {E : Value → Shared → Prop} {s : Shared} {e it l : Addr} {i : Nat} {items : Array Value} {old : Value} {Q : Option Value → Shared → Prop} (hh : A.handled = none)
    (he : IsEnum s.heap e it i old) (hit : s.heap.IsTupleIter it l i) (hl : s.heap.IsTuple l items) (hx : items[i]? = none)
    (hQ : ∀ h', Heap.ExtBut it s.heap h' → Q none { s with heap := h' }) : wpAny (model prog w) A (pyNext (.ref e)) Q E s := by
  have hT : s.TypeIs (.ref e) "enumerate" := ⟨_, he, rfl⟩
  unfold pyNext
  refine wpAny_bind (wpAny_attempt (wpAny_callSpecial?_slot (name := Str.ofString "__next__") hT F.slot_enumerate_next
    (wpAny_call_entry F.slot_enumerate_next hT F.entry_enumerate_next ?_ (F.args_enumerate_next_1 _))))
  show wpAny _ _ (field (.ref e) 2 >>= _) _ _ _
  refine wpAny_bind (wpAny_field he rfl (x := .ref it) rfl ?_)
  refine wpAny_bind (wpAny_nextOf_tuple_end hh hit hl hx fun h' x he' hx' => ?_)
  obtain ⟨o, ho, hc⟩ := hx'
  refine wpAny_bind (wpAny_isInstance (T := "StopIteration") (b := true) ⟨o, ho, hc⟩ isSubtype_stop ?_)
  exact wpAny_pure (hQ _ he')
end PySem
namespace L2
open PySem PySem.Spec PyProof.Rows
/-- the tuple at a, each item in a new pair -/
def IteT (K : PySem.W.Frag) (a : Addr) : It :=
  ⟨fun i H => ∃ (xs : List V) (x : V), SqT K H a xs ∧ xs[i]? = some x, fun i H v H' => ∃ T x, v = .ref T ∧ H T = none ∧ H' = upd H T (.tup [.int (i : Nat), x]) ∧ ∀ xs, SqT K H a xs → xs[i]? = some x, fun i H => ∃ xs : List V, SqT K H a xs ∧ xs.length ≤ i⟩
theorem turn_enumT {P : Program} {w : World} {K : PySem.W.Frag} {elts : List Expr} {kk : Nat} {tpos : Pos} (a e it : Addr) (hai : a ≠ it) :
    Turn P w K (.Tuple elts kk tpos) (IteT K a) [e, it] e (fun i h => (∃ old, IsEnum h e it ((i : Nat) : Int) old) ∧ h.IsTupleIter it a i ∧ e ≠ it) where
  mem := by simp
  obj := fun i h st b hb => by
    obtain ⟨⟨old, he⟩, ⟨o, ho, hc, hd⟩, _⟩ := st
    have e' : b = e ∨ b = it := by simpa using hb
    rcases e' with z | z
    · rw [z]; exact ⟨_, he, fun v q => nomatch q⟩
    · rw [z]; exact ⟨o, ho, fun v q => by rw [hd] at q; cases q⟩
  keep := fun i h h' st k => let ⟨⟨old, he⟩, hi, hne⟩ := st; ⟨⟨old, k e (by simp) _ he⟩, hi.at fun o q => k it (by simp) o q, hne⟩
  item := by
    intro X hP hw hK hc i pins s σ H E I hf st hg
    subst hP hw hK
    obtain ⟨⟨old, he⟩, hit, hne⟩ := st
    obtain ⟨xs, x, hq, hx⟩ := hg
    obtain ⟨its, rv, p, hz⟩ := I.tuple hq
    obtain ⟨u, hu, ru⟩ := rv.get hx
    have hel : e < s.heap.objs.size := Heap.lt_size he
    have hil : it < s.heap.objs.size := by obtain ⟨_, q, _⟩ := hit; exact Heap.lt_size q
    have pt : s.heap.IsTuple a its.toArray := p
    have hea : e ≠ a := fun z => by
      obtain ⟨o, q, hc, _⟩ := pt
      rw [← z] at q
      have q2 := he.symm.trans q
      have e3 := congrArg Obj.cls (Option.some.inj q2)
      rw [hc] at e3
      exact absurd (Value.type.inj e3) (by decide)
    have hil2 : i < its.toArray.size := by
      have := (List.getElem?_eq_some_iff.mp hu).1
      simpa using this
    refine PySem.wpAny_pyNext_enum_itemD (PySem.Draws.tuple (A := X.A.in1) (I.ok.hd hc) it a hai its.toArray) he ⟨hit, pt⟩ hil2 hne (by simp [hne, hea]) fun y h' tk hy ho st' hT hsz hk => ?_
    have ey : y = u := by
      rw [show its.toArray[i]? = some u by simpa using hu] at hy
      cases hy
      rfl
    subst ey
    obtain ⟨hit', _⟩ := st'
    refine ⟨_, rfl, wpAny_letOwnedTupleGo_enum (s := { s with heap := h', toks := tk + 1 }) ho fun h'' he' sb => ?_⟩
    have hT2 : h''.get? s.heap.objs.size = some { cls := .type "tuple", data := .seq #[.int i tk, y] } := (sb.2 _ (Nat.ne_of_gt hel)).trans hT
    have new : ObjOk X.prog X.w (upd H s.heap.objs.size (.tup [.int (i : Nat), x])) h'' s.heap.objs.size (.tup [.int (i : Nat), x]) :=
      ⟨by show 2 ≤ sizeLine; decide, [.int i tk, y], .cons ⟨_, rfl⟩ (.cons ru .nil), ⟨_, hT2, rfl, _, rfl⟩⟩
    have I1 : Inv X pins σ (upd H s.heap.objs.size (.tup [.int (i : Nat), x])) { s with heap := h'', toks := tk + 1 } :=
      I.turnedNew (ch := [e, it]) (fun b ob hb q => (sb.2 b (fun z => hb (by simp [z]))).trans (hk b ob (fun z => hb (by simp [z])) (fun z => hb (by simp [z])) q)) hf (Nat.le_refl _) new
    refine ⟨.ref s.heap.objs.size, _, I1, rfl, ⟨_, x, rfl, I.hok.fresh (Nat.le_refl _), rfl, fun ys hy => by rw [I.tuple_inj hy hq]; exact hx⟩, ⟨⟨y, ?_⟩, hit'.at fun o q => (sb.2 it (Ne.symm hne)).trans q, hne⟩, fun b hb => ?_⟩
    · have e1 : ((i + 1 : Nat) : Int) = (i : Int) + 1 := by omega
      rw [e1]; exact he'
    · have hb' : b < s.heap.objs.size := by
        have e' : b = e ∨ b = it := by simpa using hb
        rcases e' with z | z
        · rw [z]; exact hel
        · rw [z]; exact hil
      rw [upd_ne (Nat.ne_of_lt hb')]
      exact (hf b hb).1
  done := by
    intro X hP hw hK hc i pins s σ H E I hf st hg
    subst hP hw hK
    obtain ⟨⟨old, he⟩, hit, hne⟩ := st
    obtain ⟨xs, hq, hx⟩ := hg
    obtain ⟨its, rv, p, hz⟩ := I.tuple hq
    obtain ⟨f0, f1, f2, f3, f4, f5⟩ := hf it (by simp)
    have hl := rv.length
    have pt : s.heap.IsTuple a its.toArray := p
    exact PySem.wpAny_pyNext_enum_endT (I.ok.hd hc) he hit pt (by simp; omega) fun h' eb => ⟨rfl, I.turned (t' := s.toks) (fun b o hb q => eb b o hb q) f0 f1 f3 f4 f5⟩
  self := fun A i s Q E st h => let ⟨⟨_, he⟩, _⟩ := st; wpAny_pyIter_enum he h
def iEnumA (K : PySem.W.Frag) (ta : TA) : TI := fun σ H R => ta σ H fun vs H1 => ∃ a xs, vs = [.ref a] ∧ ((SqL K H1 a xs ∧ R (Ite K a) H1) ∨ (SqT K H1 a xs ∧ R (IteT K a) H1))
theorem pi_enumA {X : Cx} {e : Expr} {ta : TA} {p pos tpos : Pos} {elts : List Expr} {kk : Nat} (hg : Gl X "enumerate") (hm : X.mg "enumerate" = none) (ha : PA X [e] ta) (hs : starEach [e] X.env = [(false, eval e X.env)] := by rfl) :
    PI X (.Tuple elts kk tpos) (.Call (.Name "enumerate" p) [e] [] pos) (iEnumA X.K ta) := by
  refine ⟨fun pins s σ H R I h => ?_⟩
  refine Call_ (ld_blt I hg hm boot_enumerate (PyProof.Rows.callWith_type1 (thn (ha.run pos pins s σ H _ I h) fun us s1 ⟨vs, H1, I1, r1, q1⟩ => ?_) hs rfl))
  obtain ⟨a, xs, ex, q⟩ := q1
  subst ex
  cases r1 with
  | cons r rr =>
    cases rr
    cases r
    have fpk : ∀ {h' : Heap}, (∀ b o, s1.heap.get? b = some o → h'.get? b = some o) → Inv X pins σ H1 { s1 with heap := h' } := fun hk => I1.kept (t' := s1.toks) hk
    have fp : ∀ b, b ∈ [s1.heap.objs.size + 1, s1.heap.objs.size] → s1.heap.objs.size ≤ b := fun b hb => by
      have e' : b = s1.heap.objs.size + 1 ∨ b = s1.heap.objs.size := by simpa using hb
      rcases e' with z | z
      · rw [z]; exact Nat.le_add_right _ _
      · rw [z]; exact Nat.le_refl _
    rcases q with ⟨hq, q⟩ | ⟨hq, q⟩
    · obtain ⟨its, rv, p', hz⟩ := I1.list hq
      refine call_enumerate_list p'.isList fun h' he hit hsz hk => wpAny_pyIter_enum he ?_
      exact ⟨s1.heap.objs.size + 1, [s1.heap.objs.size + 1, s1.heap.objs.size], _, _, H1, rfl, fpk hk, turn_enum a (s1.heap.objs.size + 1) s1.heap.objs.size, ⟨⟨.none, he⟩, hit, Nat.succ_ne_self _⟩, fun b hb => I1.fpOk (fp b hb) (I1.hok.fresh (fp b hb)), q⟩
    · obtain ⟨its, rv, p', hz⟩ := I1.tuple hq
      have pt : s1.heap.IsTuple a its.toArray := p'
      have hlt : a < s1.heap.objs.size := by obtain ⟨o, q, _⟩ := pt; exact Heap.lt_size q
      refine PySem.enum_begins1 (PySem.begins_tuple a its.toArray) pt fun h' he hit hsz hk => wpAny_pyIter_enum he ?_
      exact ⟨s1.heap.objs.size + 1, [s1.heap.objs.size + 1, s1.heap.objs.size], _, _, H1, rfl, fpk hk, turn_enumT a (s1.heap.objs.size + 1) s1.heap.objs.size (Nat.ne_of_lt hlt), ⟨⟨.none, he⟩, ⟨_, hit, rfl, rfl⟩, Nat.succ_ne_self _⟩, fun b hb => I1.fpOk (fp b hb) (I1.hok.fresh (fp b hb)), q⟩
theorem walk_enumT {K : PySem.W.Frag} {a : Addr} {xs : List V} : Walk (IteT K a) xs.length (fun H => SqT K H a xs) (YPair (fun i => some (.int (i : Nat))) (fun i => xs[i]?)) := by
  refine ⟨fun i _ hi q => ⟨xs, xs[i], q, by simp [hi]⟩, fun _ q => ⟨xs, q, Nat.le_refl _⟩, fun i H v H' _ q y => ?_⟩
  obtain ⟨T, x, h1, h2, h3, h4⟩ := y
  exact ⟨T, .int (i : Nat), x, h1, h2, h3, rfl, h4 xs q⟩
end L2
/-! Dl5c: > of tuples of numbers. -/
namespace Dl
open PySem PySem.Spec PyProof.Rows L2
theorem rcGt_int (A : Around) (s : Shared) (a : Int) (t : Tok) (c : Int) (u : Tok) (prog : Program) (w : World) (E : Value → Shared → Prop) (Q : Value → Shared → Prop) (h : Q (.bool (decide (c < a))) s) :
    wpAny (model prog w) A (richCompare .Gt (.int a t) (.int c u)) Q E s :=
  (PyProof.Rows.gt_int h : wpAny (model prog w) A (compareOp .Gt (.int a t) (.int c u)) Q E s)
section
open PySem.SeqAt
open PySem.AutoSeq1 (wpAny_loadPart')
open PySem.MeetsSeq PySem.MeetsSeq2 PySem.MeetsSeq3
theorem tuple_gt_ints (l b : Addr) (items items2 : Array Value) (n n2 : Nat) (dd dd2 : Option Addr) (sl sl2 : Array (Option Value)) (ns ms : List Int) (hi : IntsAre items.toList ns) (hj : IntsAre items2.toList ms) :
    Meets (Builtin.«tuple.__gt__» ⟨[.ref l, .ref b], []⟩)
      (fun _ R s => s.heap.get? l = some { cls := .type "tuple", dict := dd, data := .seq items n, slots := sl } ∧ s.heap.get? b = some { cls := .type "tuple", dict := dd2, data := .seq items2 n2, slots := sl2 } ∧
        R (.ok (.ret (.bool (HT.lexLt ms ns)))) s) :=
  .of_wp fun prog w A R s h => by
    obtain ⟨hp, g, d, tk, os⟩ := s; obtain ⟨hl, hb, h⟩ := h
    have f2 := AutoSeq1.sub_tuple_tuple
    have z1 : items.size = ns.length := by rw [← hi.length]; simp
    have z2 : items2.size = ms.length := by rw [← hj.length]; simp
    wp_walk using wpAny_loadPart' hl, wpAny_loadPart' hb, wpAny_forIn_list _ (fun rest b s' => b.1 = none ∧ s' = ⟨hp, g, d, tk, os⟩ ∧ ∃ (vs ws : List Value) (ns' ms' : List Int), rest = vs.zip ws ∧
      IntsAre vs ns' ∧ IntsAre ws ms' ∧ ns'.length + items2.size = ms'.length + items.size ∧ R (.ok (.ret (.bool (HT.lexLt ms' ns')))) ⟨hp, g, d, tk, os⟩) _
    case turn =>
      rintro ⟨y, x⟩ rest b s' ⟨hb', rfl, vs, ws, ns', ms', hz, hvi, hwi, hlen, hR⟩
      cases hvi with
      | nil => rw [List.zip_nil_left] at hz; cases hz
      | cons a t hvi' =>
        cases hwi with
        | nil => rw [List.zip_nil_right] at hz; cases hz
        | cons c u hwi' =>
          rw [List.zip_cons_cons] at hz
          injection hz with hyx hrest
          injection hyx with hy hx
          subst hy hx
          rw [HT.lexLt_cons] at hR
          simp only [List.length_cons] at hlen
          obtain ⟨e, he, hiff⟩ := HT.eqAt_int A.in1 ⟨hp, g, d, tk, os⟩ a t c u
          refine wpAny_bind (he prog w _ _ ?_)
          cases e with
          | true =>
            rw [if_pos (hiff.mp rfl).symm] at hR
            wp_walk
            exact ⟨rfl, rfl, _, _, _, _, hrest, hvi', hwi', by omega, hR⟩
          | false =>
            rw [if_neg (fun q => absurd (hiff.mpr q.symm) Bool.false_ne_true)] at hR
            have hri := rcGt_int A.in1 ⟨hp, g, d, tk, os⟩ a t c u prog w
            wp_walk using hri
            exact ⟨_, rfl, by simpa using hR⟩
    case fin =>
      rintro ⟨b1, b2⟩ s' ⟨hb', rfl, vs, ws, ns', ms', hz, hvi, hwi, hlen, hR⟩
      simp only at hb'
      subst hb'
      have hv : HT.lexLt ms' ns' = decide (items2.size < items.size) := by
        cases hvi with
        | nil =>
          cases hwi with
          | nil =>
            simp only [List.length_nil] at hlen
            rw [HT.lexLt_nil_nil]
            exact (decide_eq_false (by omega)).symm
          | cons c u hw =>
            simp only [List.length_nil, List.length_cons] at hlen
            rw [HT.lexLt_cons_nil]
            exact (decide_eq_false (by omega)).symm
        | cons a t hv =>
          cases hwi with
          | nil =>
            simp only [List.length_nil, List.length_cons] at hlen
            rw [HT.lexLt_nil_cons]
            exact (decide_eq_true (by omega)).symm
          | cons c u hw =>
            rw [List.zip_cons_cons] at hz
            cases hz
      rw [hv] at hR
      wp_walk
      exact ⟨_, rfl, by simpa [Builtin.Tuple.tupleCompareSizes] using hR⟩
    case h =>
      exact ⟨rfl, rfl, items.toList, items2.toList, ns, ms, rfl, hi, hj, by omega, h⟩
end
section
variable {prog : Program} {w : World} {A : Around} {E : Value → Shared → Prop} {s : Shared}
theorem gt_tupInts {l b : Addr} {items items2 : Array Value} {ns ms : List Int} {Q : Value → Shared → Prop} (hl : IsTup s.heap l items) (hb : IsTup s.heap b items2) (hi : IntsAre items.toList ns) (hj : IntsAre items2.toList ms)
    (hu : A.units < cLine) (h : Q (.bool (HT.lexLt ms ns)) s) : wpAny (model prog w) A (compareOp .Gt (.ref l) (.ref b)) Q E s := by
  obtain ⟨⟨cls, dd, data, sl⟩, ho, hc, n, hd⟩ := id hl
  obtain ⟨⟨cls2, dd2, data2, sl2⟩, ho2, hc2, n2, hd2⟩ := id hb
  simp only at hc hd hc2 hd2
  subst hc hd hc2 hd2
  exact richCompare_meets_room (op := .Gt) ⟨_, ho, rfl⟩ ⟨_, ho2, rfl⟩ PySem.F.slot_tuple_gt PySem.F.entry_tuple_gt (PySem.F.args_tuple_gt_2 _ _) (tuple_gt_ints l b items items2 n n2 dd dd2 sl sl2 ns ms hi hj)
    ⟨ho, ho2, show Value.bool (HT.lexLt ms ns) ≠ Value.notImplemented ∧ Q (.bool (HT.lexLt ms ns)) s from ⟨(fun x => nomatch x), h⟩⟩ hu
end
section
variable {X : Cx}
def rGtT (K : PySem.W.Frag) : R2 := fun x y H Q => ∃ a b ns ms, x = .ref a ∧ y = .ref b ∧ SqT K H a (ns.map V.int) ∧ SqT K H b (ms.map V.int) ∧ Q (.bl (HT.lexLt ms ns)) H
theorem op_gtT (hu : X.A.units < cLine) : OpR X (compareOp .Gt) (rGtT X.K) := by
  intro pins s σ H x y v u Q I rx ry h
  obtain ⟨a, b, ns, ms, rfl, rfl, ha, hb, q⟩ := h
  cases rx
  cases ry
  obtain ⟨its, r1, p1, _⟩ := I.tuple ha
  obtain ⟨its2, r2, p2, _⟩ := I.tuple hb
  have i1 : IntsAre its.toArray.toList ns := intsAre_of r1
  have i2 : IntsAre its2.toArray.toList ms := intsAre_of r2
  exact gt_tupInts p1 p2 i1 i2 hu ⟨.bl (HT.lexLt ms ns), H, I, rfl, q⟩
def gGtT : D → D → Option D
  | .tup xs, .tup ys => (intsOf xs).bind fun ns => (intsOf ys).map fun ms => .bl (HT.lexLt ms ns)
  | _, _ => none
theorem op_gGtT : Op2 X (rGtT X.K) gGtT := by
  intro l H A x y dx dy Q hA rx ry p
  unfold gGtT at p
  split at p
  · next xs ys =>
    cases e1 : intsOf xs with
    | none => rw [e1] at p; exact p.elim
    | some ns =>
      cases e2 : intsOf ys with
      | none => rw [e1, e2] at p; exact p.elim
      | some ms =>
        rw [e1, e2] at p
        obtain ⟨a, vs, rfl, h, r⟩ := rx.tup
        obtain ⟨b, ws, rfl, h2, r2⟩ := ry.tup
        rw [intsOf_eq e1] at r
        rw [intsOf_eq e2] at r2
        have ev := r.ints
        have ew := r2.ints
        subst ev ew
        exact ⟨a, b, ns, ms, rfl, rfl, SqT.of h, SqT.of h2, gp_scalar p (Rp.bl.mpr rfl)⟩
  · exact p.elim
/-- > of numbers, of tuples of numbers -/
def gGt : D → D → Option D := fun x y => match x with
  | .int _ => gCmpI (fun i j => decide (j < i)) x y
  | _ => gGtT x y
def rGtAll (K : PySem.W.Frag) : R2 := fun x y H Q => rI0 (fun i j => .bl (decide (j < i))) x y H Q ∨ rGtT K x y H Q
theorem opr_gt (hu : X.A.units < cLine) : OpR X (compareOp .Gt) (rGtAll X.K) := op_gt.or (op_gtT hu)
theorem op_gGt : Op2 X (rGtAll X.K) gGt := by
  intro l H A x y dx dy Q hA rx ry p
  unfold gGt at p
  split at p
  · exact .inl (op_gCmpI H A x y _ _ Q hA rx ry p)
  · exact .inr (op_gGtT H A x y _ _ Q hA rx ry p)
theorem sc_gGtT : Scalar2 gGtT := by
  intro x y d e
  unfold gGtT at e
  split at e
  · next xs ys =>
    cases e1 : intsOf xs with
    | none => rw [e1] at e; cases e
    | some ns =>
      cases e2 : intsOf ys with
      | none => rw [e1, e2] at e; exact absurd e (by simp)
      | some ms => rw [e1, e2] at e; have e : some (D.bl (HT.lexLt ms ns)) = some d := e; cases e; rfl
  · cases e
theorem sc_gGt : Scalar2 gGt := by
  intro x y d e
  unfold gGt at e
  split at e
  · exact sc_gCmpI _ _ _ e
  · exact sc_gGtT _ _ _ e
end
end Dl
/-! Dl6: what is walked; targets; list comprehensions. -/
namespace Dl
open PySem PySem.Spec PyProof.Rows L2 RZ RT
def Stay (O : Pred) (H H' : Hp) : Prop := ∀ a o, ¬ O a → H a = some o → H' a = some o
theorem Stay.of {O : Pred} {H H' : Hp} (s : Same H H') : Stay O H H' := fun a o _ e => s a o e
def OwnP (md : Mds) (σ : L2.St) (env : DEnv) : Pred := fun a => ∃ i, OwnAt md σ env i a
/-- what the frame may write -/
def WrP (md : Mds) (σ : L2.St) (env : DEnv) (T : TL) (B : Hp) : Pred := fun a => OwnP md σ env a ∨ (T a ∧ B a = none)
theorem Carry.trans {K : KF} {H H' H2 : Hp} {A A' A2 : Pred} (c : Carry K H H' A A') (c' : Carry K H' H2 A' A2) : Carry K H H2 A A2 :=
  ⟨fun a xs e => c'.tup a xs (c.tup a xs e), fun a xs e => c'.ktp a xs (c.ktp a xs e), fun a xs e => c'.frl a xs (c.frl a xs e), fun a xs n e => let ⟨n', e'⟩ := c.lst a xs n e; c'.lst a xs n' e', fun a u n e => let ⟨n', e'⟩ := c.obj a u n e; c'.obj a u n' e'⟩
section
variable {K : KM} {md : Mds} {T : TL} {H0 B H H' H1 : Hp} {σ : L2.St} {env : DEnv}
theorem Top.isMut {K : KF} {A : Pred} {a : Addr} {d : D} (h : Top K H A a d) : ∃ u, H a = some u ∧ isMutO u = true := by
  cases d with
  | lst ds => obtain ⟨vs, e, _⟩ := h; exact ⟨_, e, rfl⟩
  | dic t ks ws =>
    obtain ⟨vs, e, _⟩ := h
    cases t with
    | false => obtain ⟨kvs, e, _⟩ := e; exact ⟨_, e, rfl⟩
    | true => obtain ⟨kvs, e, _⟩ := e; exact ⟨_, e, rfl⟩
  | non => exact h.elim
  | bl _ => exact h.elim
  | int _ => exact h.elim
  | str _ => exact h.elim
  | tup _ => exact h.elim
  | frl _ => exact h.elim
  | ktp _ => exact h.elim
  | obj _ => exact h.elim
theorem Rel.ownMut (R : Rel K md T H0 B H σ env) {a : Addr} (o : OwnP md σ env a) : ∃ u, H a = some u ∧ isMutO u = true := by
  obtain ⟨i, h1, ⟨d, h2, hl⟩, h3⟩ := o
  obtain ⟨a', e, _, t⟩ := R.owned h2 h1 hl
  rw [h3] at e
  cases e
  exact t.isMut
theorem Rel.wrMut (R : Rel K md T H0 B H σ env) {a : Addr} (o : WrP md σ env T B a) : ∃ u, H a = some u ∧ isMutO u = true := by
  rcases o with o | ⟨h, n⟩
  · exact R.ownMut o
  · refine R.tM a h ?_
    cases e : H0 a with
    | none => rfl
    | some u =>
      obtain ⟨w, e⟩ := R.s0 _ _ e
      rw [n] at e
      cases e
theorem WrP.avd {a : Addr} {nw : Bool} (o : WrP md σ env T B a) : Avd md σ env T H0 nw a := o.elim .inl fun h => .inr (.inl h.1)
/-- values beyond the own things stay -/
theorem Carry.stay {K : KF} {O A : Pred} (hO : ∀ a, O a → ∃ u, H a = some u ∧ isMutO u = true) (hA : ∀ a, O a → A a) (s : Stay O H H') : Carry K H H' A A := by
  have ne : ∀ a u, H a = some u → isMutO u = false → ¬ O a := fun a u e m z => by
    obtain ⟨u', e', m'⟩ := hO a z
    rw [e] at e'
    cases e'
    rw [m] at m'
    cases m'
  refine ⟨fun a xs e => s a _ (ne a _ e rfl) e, fun a xs e => ?_, fun a xs e => ?_, fun a xs n e => ⟨n, s a _ (fun z => n (hA a z)) e⟩, fun a u n e => ⟨n, ?_⟩⟩
  · rcases e with (e | ⟨o, e⟩) | e
    · exact .inl (.inl (s a _ (ne a _ e rfl) e))
    · exact .inl (.inr ⟨o, s a _ (ne a _ e rfl) e⟩)
    · exact .inr e
  · rcases e with ⟨o, e⟩ | e
    · exact .inl ⟨o, s a _ (ne a _ e rfl) e⟩
    · exact .inr e
  · rcases e with e | ⟨o, e⟩
    · exact .inl (s a _ (fun z => n (hA a z)) e)
    · exact .inr ⟨o, s a _ (fun z => n (hA a z)) e⟩
/-! ### slots changed -/
theorem ownAt_set {i : Nat} {x : Option V} {y : Option D} (ho : (mdAt md i).own = false) {j : Nat} {a : Addr} : OwnAt md (σ.set i x) (env.set i y) j a ↔ OwnAt md σ env j a := by
  unfold OwnAt
  by_cases h : j = i
  · subst h
    rw [ho]
    exact ⟨fun z => (Bool.false_ne_true z.1).elim, fun z => (Bool.false_ne_true z.1).elim⟩
  · rw [List.getElem?_set_ne (Ne.symm h), List.getElem?_set_ne (Ne.symm h)]
theorem avd_set {i : Nat} {x : Option V} {y : Option D} (ho : (mdAt md i).own = false) {nw : Bool} : Avd md (σ.set i x) (env.set i y) T H0 nw = Avd md σ env T H0 nw := by
  funext a
  unfold Avd
  simp only [ownAt_set ho]
theorem Rel.setShared (R : Rel K md T H0 B H σ env) {i : Nat} {v : V} {d : D} (ho : (mdAt md i).own = false) (hp : (mdAt md i).dp = 0) (q : Rp (K.at T) H (Avd md σ env T H0 (mdAt md i).nw) v d) : Rel K md T H0 B H (σ.set i (some v)) (env.set i (some d)) := by
  refine ⟨R.s0, R.sB, R.tB, by simp [R.len], fun j d' e hd => ?_, fun j a o => R.out j a ((ownAt_set ho).mp o), fun j k a o o' => R.sep j k a ((ownAt_set ho).mp o) ((ownAt_set ho).mp o'), fun j a o => R.tO j a ((ownAt_set ho).mp o), R.st, R.tM, fun j d' e hd => by
    have hj : j ≠ i := fun z => by subst z; exact hd hp
    rw [List.getElem?_set_ne (Ne.symm hj)] at e
    rw [List.getElem?_set_ne (Ne.symm hj)]
    exact R.deep j d' e hd, fun j d' e hd => by
    have hj : j ≠ i := fun z => by subst z; rw [hp] at hd; exact absurd hd (by decide)
    rw [List.getElem?_set_ne (Ne.symm hj)] at e
    rw [avd_set ho]
    exact R.sto j d' e hd⟩
  rw [avd_set ho]
  by_cases h : j = i
  · subst h
    by_cases hl : j < env.length
    · rw [List.getElem?_set_self hl] at e
      cases e
      refine ⟨v, List.getElem?_set_self (by rw [R.len]; exact hl), ?_⟩
      unfold SlotOk
      rw [if_neg (by rw [ho]; exact Bool.false_ne_true)]
      exact q
    · rw [List.getElem?_eq_none (by simpa using hl)] at e
      cases e
  · rw [List.getElem?_set_ne (Ne.symm h)] at e
    rw [List.getElem?_set_ne (Ne.symm h)]
    exact R.slot j d' e hd
/-- a slot that is not owned forgotten -/
theorem Rel.kill (R : Rel K md T H0 B H σ env) {i : Nat} {x : Option V} (ho : (mdAt md i).own = false) : Rel K md T H0 B H (σ.set i x) (env.set i none) := by
  refine ⟨R.s0, R.sB, R.tB, by simp [R.len], fun j d' e hd => ?_, fun j a o => R.out j a ((ownAt_set ho).mp o), fun j k a o o' => R.sep j k a ((ownAt_set ho).mp o) ((ownAt_set ho).mp o'), fun j a o => R.tO j a ((ownAt_set ho).mp o), R.st, R.tM, fun j d' e hd => by
    obtain ⟨hj, e⟩ := kill_lookup e
    rw [List.getElem?_set_ne (Ne.symm hj)]
    exact R.deep j d' e hd, fun j d' e hd => by rw [avd_set ho]; exact R.sto j d' (kill_lookup e).2 hd⟩
  rw [avd_set ho]
  obtain ⟨hj, e⟩ := kill_lookup e
  rw [List.getElem?_set_ne (Ne.symm hj)]
  exact R.slot j d' e hd
def wipeD (env : DEnv) : List Nat → DEnv
  | [] => env
  | v :: vs => (wipeD env vs).set v none
def shAll (md : Mds) (vs : List Nat) : Bool := vs.all fun v => !(mdAt md v).own
theorem Rel.wipe (R : Rel K md T H0 B H σ env) : ∀ {vs : List Nat}, shAll md vs = true → Rel K md T H0 B H (L2.wipe σ vs) (wipeD env vs) ∧ ∀ nw, Avd md (L2.wipe σ vs) (wipeD env vs) T H0 nw = Avd md σ env T H0 nw
  | [], _ => ⟨R, fun _ => rfl⟩
  | v :: vs, h => by
    unfold shAll at h
    rw [List.all_cons, Bool.and_eq_true] at h
    obtain ⟨r, e⟩ := Rel.wipe R (vs := vs) h.2
    have ho : (mdAt md v).own = false := by simpa using h.1
    exact ⟨r.kill ho, fun nw => by
      rw [← e nw]
      exact avd_set ho⟩
/-- beyond a new address too -/
theorem Rel.addT (R : Rel K md T H0 B H1 σ env) {p : Addr} (n : H1 p = none) (s : Same H1 H) (e : ∃ o, H p = some o ∧ isMutO o = true) : Rel K md ⟨fun a => T a ∨ a = p, T.l⟩ H0 B H σ env := by
  have c : ∀ nw, Carry (K.at T) H1 H (Avd md σ env T H0 nw) (Avd md σ env ⟨fun a => T a ∨ a = p, T.l⟩ H0 nw) := fun nw => by
    have av : ∀ a, a ≠ p → ¬ Avd md σ env T H0 nw a → ¬ Avd md σ env ⟨fun a => T a ∨ a = p, T.l⟩ H0 nw a := fun a ne na z => by
      rcases z with z | (z | z) | z
      · exact na (.inl z)
      · exact na (.inr (.inl z))
      · exact ne z
      · exact na (.inr (.inr z))
    exact ⟨fun a xs h => s a _ h, fun a xs h => SqT.same s h, fun a xs h => SqF.same s h, fun a xs na h => ⟨av a (ne_of_none h n) na, s a _ h⟩, fun a u na h => ⟨av a (Rd.ne h n) na, Rd.same s h⟩⟩
  refine ⟨R.s0, R.sB.trans s, fun a h => ?_, R.len, fun i d ei hd => ?_, R.out, R.sep, fun i a o z => z.elim (R.tO i a o) fun e => by
    (obtain ⟨u, eu⟩ := R.ownThere o
     rw [e, n] at eu
     cases eu), R.st, fun a h hn => ?_, fun i d ei hd h3 => ?_, fun i d ei hd => (R.sto i d ei hd).carry rfl (c false) (fun a u _ e => s a u e) fun a h hb => ⟨.inl h, hb⟩⟩
  · rcases h with h | h
    · obtain ⟨o, eo⟩ := R.tB a h
      exact ⟨o, s _ _ eo⟩
    · subst h; obtain ⟨o, e, _⟩ := e; exact ⟨o, e⟩
  rotate_left
  · rcases h with h | h
    · obtain ⟨o, eo, m⟩ := R.tM a h hn
      exact ⟨o, s _ _ eo, m⟩
    · subst h; exact e
  · obtain ⟨v, ev, q⟩ := R.deep i d ei hd h3
    exact ⟨v, ev, q.carry (Carry.trans (.same s) (.weak fun a na z => na ⟨.inl z.1, z.2⟩)) fun a u h e => ⟨s _ _ e, .inl h.1, h.2⟩⟩
  · obtain ⟨v, ev, q⟩ := R.slot i d ei hd
    refine ⟨v, ev, ?_⟩
    unfold SlotOk at *
    split at q
    · next h => rw [if_pos h]; exact q.carry (c _) fun a u _ _ => s a u
    · next h => rw [if_neg h]; exact Rp.carry (c _) d v q
end
theorem Carry.addN {K : KF} {H H' : Hp} {A A' N : Pred} (c : Carry K H H' A A') (n : ∀ a, N a → H a = none) : Carry K H H' A (fun a => A' a ∨ N a) :=
  ⟨c.tup, c.ktp, c.frl, fun a xs na e => ⟨fun z => z.elim (c.lst a xs na e).1 (fun y => by rw [n a y] at e; cases e), (c.lst a xs na e).2⟩, fun a u na e => ⟨fun z => z.elim (c.obj a u na e).1 (fun y => Rd.ne e (n a y) rfl), (c.obj a u na e).2⟩⟩
/-! ### what is walked -/
structure ItD (K : KF) (O A : Pred) (H : Hp) (J : It) (ds : List D) : Prop where
  ex : ∃ (G : Hp → Prop) (Y : Nat → Hp → V → Hp → Prop), Walk J ds.length G Y ∧ (∀ H2, Stay O H H2 → G H2) ∧ ∀ i H1 x H2 d, Stay O H H1 → Y i H1 x H2 → ds[i]? = some d → Same H1 H2 ∧ ∀ N : Pred, (∀ a, N a → H a = none) → Rp K H2 (fun a => A a ∨ N a) x d
def tDI (K : KM) (W : WX) (md : Mds) (bo nw : Bool) (f : DXs) : TI := fun σ H R => ∃ (T : TL) (H0 B : Hp) (env : DEnv), Rel K md T H0 B H σ env ∧
  EP0 (β := V) K W σ H (f env) fun ds _ H' => ∀ J, ItD (K.at T) (fun a => bo = false ∧ WrP md σ env T B a) (Avd md σ env T H0 nw) H' J ds → R J H'
structure VI (X : Cx) (W : WX) (md : Mds) (bo nw : Bool) (tg iter : Expr) (f : DXs) : Prop where
  run : PI X tg iter (tDI X.KM W md bo nw f)
theorem _root_.L2.PI.imp {X : Cx} {tg e : Expr} {t t' : TI} (h : PI X tg e t) (i : ∀ σ H R, t' σ H R → t σ H R) : PI X tg e t' := ⟨fun pins s σ H R I w => h.run pins s σ H R I (i σ H R w)⟩
section
variable {X : Cx} {W : WX} {md : Mds} {st nw sa na sb nb bo : Bool} {e a b tg : Expr} {f fa fb : DX} {pos : Pos} {es : List Expr} {fs : DXs}
/-- over a list, a tuple, a text -/
def iSeq (K : PySem.W.Frag) (tl : TE) : TI := fun σ H R => tl σ H fun x H1 => (∃ a, x = .ref a ∧ (∃ xs, SqL K H1 a xs) ∧ R (Itl K a) H1) ∨ ((∃ a, x = .ref a ∧ (∃ xs, SqT K H1 a xs) ∧ R (Itt K a) H1) ∨ ∃ z, x = .str z ∧ R (Its z) H1)
theorem pi_seq {l : Expr} {tl : TE} (hl : PE X l tl) : PI X tg l (iSeq X.K tl) := by
  refine ⟨fun pins s σ H R I h => ?_⟩
  refine thn (hl.run pins s σ H _ I h) fun v s1 ⟨x, H1, I1, r1, q1⟩ => ?_
  rcases q1 with ⟨a, e, ⟨xs, hq⟩, q⟩ | ⟨a, e, ⟨xs, hq⟩, q⟩ | ⟨z, e, q⟩
  · subst e
    cases r1
    obtain ⟨its, rv, p, hz⟩ := I1.list hq
    refine wpAny_pyIter_list p.isList ?_
    refine ⟨s1.heap.objs.size, [s1.heap.objs.size], _, _, H1, rfl, I1.kept (t' := s1.toks) fun b o e => Heap.get?_push_of_some _ e, turn_list a _, ⟨_, Heap.get?_push_size _ rfl, rfl, rfl⟩, fun b hb => ?_, q⟩
    have e : b = s1.heap.objs.size := by simpa using hb
    subst e
    exact I1.fpOk (Nat.le_refl _) (I1.hok.fresh (Nat.le_refl _))
  · subst e
    cases r1
    obtain ⟨its, rv, p, hz⟩ := I1.tuple hq
    refine wpAny_pyIter_tuple (show s1.heap.IsTuple a its.toArray from p) ?_
    refine ⟨s1.heap.objs.size, [s1.heap.objs.size], _, _, H1, rfl, I1.kept (t' := s1.toks) fun b o e => Heap.get?_push_of_some _ e, turn_tuple a _, ⟨_, Heap.get?_push_size _ rfl, rfl, rfl⟩, fun b hb => ?_, q⟩
    have e : b = s1.heap.objs.size := by simpa using hb
    subst e
    exact I1.fpOk (Nat.le_refl _) (I1.hok.fresh (Nat.le_refl _))
  · subst e
    obtain ⟨t, rfl⟩ := r1
    cases ha : z.cps.all (· < 128)
    · exact wpAny_pyIter_wide ha (pi_one (tk := s1.toks) I1 _ (turn_str _ z t "str_iterator" (.inr rfl)) ⟨_, Heap.get?_push_size _ rfl, rfl, rfl⟩ q)
    · exact wpAny_pyIter_ascii ha (pi_one (tk := s1.toks) I1 _ (turn_str _ z t "str_ascii_iterator" (.inl rfl)) ⟨_, Heap.get?_push_size _ rfl, rfl, rfl⟩ q)
def signsD (z : Str) : List D := z.cps.toList.map fun c => D.str ⟨#[c]⟩
def itemsD : D → Option (List D)
  | .lst ds => some ds
  | .tup ds => some ds
  | .frl ds => some ds
  | .ktp ds => some ds
  | .str z => some (signsD z)
  | _ => none
def dItems (f : DX) : DXs := fun env => (f env).bind fun d => .ofO (itemsD d)
theorem itd_at {K : KF} {O A : Pred} {H : Hp} {J : It} {vs : List V} {ds : List D} {G : Hp → Prop} (w : Walk J vs.length G (YAt vs)) (hG : ∀ H2, Stay O H H2 → G H2) (r : Rps K H A vs ds) (c : ∀ H2, Stay O H H2 → Carry K H H2 A A) : ItD K O A H J ds := by
  refine ⟨G, YAt vs, by rw [← r.length]; exact w, hG, fun i H1 x H2 d s y e => ?_⟩
  obtain ⟨rfl, ex⟩ := y
  obtain ⟨v, ev, q⟩ := r.get e
  rw [ex] at ev
  cases ev
  exact ⟨Same.refl _, fun N hN => Rp.carry ((c _ s).addN hN) d x q⟩
theorem itd_str {K : KF} {O A : Pred} {H : Hp} {z : Str} : ItD K O A H (Its z) (signsD z) := by
  refine ⟨fun _ => True, _, by rw [show (signsD z).length = z.cps.size by simp [signsD]]; exact walk_str, fun _ _ => trivial, fun i H1 x H2 d s y e => ?_⟩
  obtain ⟨rfl, c, ec, rfl⟩ := y
  have : d = .str ⟨#[c]⟩ := by
    unfold signsD at e
    rw [List.getElem?_map, Array.getElem?_toList, ec] at e
    cases e
    rfl
  subst this
  exact ⟨Same.refl _, fun _ _ => Rp.str.mpr rfl⟩
/-- what a loop's or a comprehension's source wants: the own things may change meanwhile (bo = false) or not -/
theorem own_stay {T : TL} {H0 B H H' : Hp} {σ : L2.St} {env : DEnv} (R : Rel X.KM md T H0 B H σ env) (s : Same H H') {nw : Bool} : ∀ H2, Stay (fun a => bo = false ∧ WrP md σ env T B a) H' H2 → Carry (X.KM.at T) H' H2 (Avd md σ env T H0 nw) (Avd md σ env T H0 nw) := fun H2 st =>
  Carry.stay (fun a z => (R.same s).wrMut z.2) (fun a z => z.2.avd) st
theorem vi_seq (h : VE X W md st nw e f) (hb : (!bo && !st) = false) : VI X W md bo nw tg e (dItems f) := by
  refine ⟨(pi_seq h.run).imp fun σ H R ⟨T, H0, B, env, r, p⟩ => ⟨T, H0, B, env, r, p.bind.mono fun d v H1 s1 _ p1 rv => ?_⟩⟩
  have car := fun H2 z => own_stay (bo := bo) r s1 (nw := nw) H2 z
  have lstNo : ∀ {a : Addr} {vs : List V} {ds : List D}, d = .lst ds → v = .ref a → H1 a = some (.lst vs) → ¬ (bo = false ∧ WrP md σ env T B a) := fun {a vs ds} ed ev ea z => by
    cases st with
    | true =>
      subst ed ev
      obtain ⟨a', vs', e1, n, _⟩ := Rp.lst.mp rv.strict
      cases e1
      exact n z.2.avd
    | false => rw [z.1] at hb; cases hb
  cases d with
  | lst ds =>
    obtain ⟨a, vs, rfl, ea, rs⟩ := rv.lst
    refine .inl ⟨a, rfl, ⟨vs, SqL.of ea⟩, p1 .non H1 (Same.refl _) _ (itd_at walk_list (fun H2 z => SqL.of (z a _ (lstNo rfl rfl ea) ea)) rs car)⟩
  | frl ds =>
    obtain ⟨a, vs, rfl, ea, rs⟩ := rv.frl
    exact .inl ⟨a, rfl, ⟨vs, ea.sq⟩, p1 .non H1 (Same.refl _) _ (itd_at walk_list (fun H2 z => ((car H2 z).frl a vs ea).sq) rs car)⟩
  | tup ds =>
    obtain ⟨a, vs, rfl, ea, rs⟩ := rv.tup
    exact .inr (.inl ⟨a, rfl, ⟨vs, SqT.of ea⟩, p1 .non H1 (Same.refl _) _ (itd_at walk_tup (fun H2 z => SqT.of ((car H2 z).tup a vs ea)) rs car)⟩)
  | ktp ds =>
    obtain ⟨a, vs, rfl, ea, rs⟩ := rv.ktp
    exact .inr (.inl ⟨a, rfl, ⟨vs, ea⟩, p1 .non H1 (Same.refl _) _ (itd_at walk_tup (fun H2 z => (car H2 z).ktp a vs ea) rs car)⟩)
  | str z => exact .inr (.inr ⟨z, rv.str, p1 .non H1 (Same.refl _) _ itd_str⟩)
  | _ => exact p1.elim
/-! ### range -/
def rangeD (lo c : Int) (n : Nat) : List D := (List.range n).map fun (i : Nat) => D.int (lo + (i : Int) * c)
theorem itd_range {K : KF} {O A : Pred} {H : Hp} {lo : Int} {n : Nat} : ItD K O A H (Itr lo n) (rangeD lo 1 n) := by
  refine ⟨fun _ => True, _, by rw [show (rangeD lo 1 n).length = n by simp [rangeD]]; exact walk_range, fun _ _ => trivial, fun i H1 x H2 d s y e => ?_⟩
  obtain ⟨rfl, rfl⟩ := y
  have : d = .int (lo + i) := by
    unfold rangeD at e
    rw [List.getElem?_map] at e
    cases q : (List.range n)[i]? with
    | none => rw [q] at e; cases e
    | some j =>
      rw [q] at e
      cases e
      obtain ⟨h1, h2⟩ := List.getElem?_eq_some_iff.mp q
      rw [List.getElem_range] at h2
      subst h2
      simp
  subst this
  exact ⟨Same.refl _, fun _ _ => Rp.int.mpr rfl⟩
theorem itd_rangeC {K : KF} {O A : Pred} {H : Hp} {lo c : Int} {n : Nat} : ItD K O A H (Itc lo c n) (rangeD lo c n) := by
  refine ⟨fun _ => True, _, by rw [show (rangeD lo c n).length = n by simp [rangeD]]; exact walk_rangeC, fun _ _ => trivial, fun i H1 x H2 d s y e => ?_⟩
  obtain ⟨rfl, rfl⟩ := y
  have : d = .int (lo + (i : Nat) * c) := by
    unfold rangeD at e
    rw [List.getElem?_map] at e
    cases q : (List.range n)[i]? with
    | none => rw [q] at e; cases e
    | some j =>
      rw [q] at e
      cases e
      obtain ⟨h1, h2⟩ := List.getElem?_eq_some_iff.mp q
      rw [List.getElem_range] at h2
      subst h2
      rfl
  subst this
  exact ⟨Same.refl _, fun _ _ => Rp.int.mpr rfl⟩
def lim62 (i : Int) : Bool := decide (-(2 ^ 62) ≤ i) && decide (i < 2 ^ 62)
theorem lim62_of {i : Int} (h : lim62 i = true) : -(2 ^ 62) ≤ i ∧ i < 2 ^ 62 := by
  unfold lim62 at h
  simpa using h
def dRange1 (fa : DX) : DXs := fun env => (fa env).bind fun x => match x with
  | .int j => if lim62 j then .ok (rangeD 0 1 j.toNat) else .bad
  | _ => .bad
def dRange2 (fa fb : DX) : DXs := fun env => (fa env).bind fun x => (fb env).bind fun y => match x, y with
  | .int i, .int j => if lim62 i && lim62 j then .ok (rangeD i 1 (j - i).toNat) else .bad
  | _, _ => .bad
theorem vi_range1 {p : Pos} (hg : Gl X "range") (hm : X.mg "range" = none) (ha : VE X W md sa na a fa) (hs : starless a = true) : VI X W md bo true tg (.Call (.Name "range" p) [a] [] pos) (dRange1 fa) := by
  refine ⟨(pi_range1 hg hm (pa_cons ha.run pa_nil (notStar hs)) (notStar hs)).imp fun σ H R ⟨T, H0, B, env, r, p⟩ => ⟨T, H0, B, env, r, p.bind.mono fun d v H1 s1 _ p1 rv => ?_⟩⟩
  cases d with
  | int j =>
    have p1 : EP0 X.KM W σ H1 (if lim62 j then RG.ok (rangeD 0 1 j.toNat) else RG.bad) _ := p1
    by_cases hl : lim62 j = true
    · rw [if_pos hl] at p1
      obtain ⟨h1, h2⟩ := lim62_of hl
      exact ⟨j, by rw [rv.int], h1, h2, p1 .non H1 (Same.refl _) _ itd_range⟩
    · rw [if_neg hl] at p1
      exact p1.elim
  | _ => exact p1.elim
theorem vi_range2 {p : Pos} (hg : Gl X "range") (hm : X.mg "range" = none) (ha : VE X W md sa na a fa) (hb : VE X W md sb nb b fb) (hs : starless a = true) (hs2 : starless b = true) : VI X W md bo true tg (.Call (.Name "range" p) [a, b] [] pos) (dRange2 fa fb) := by
  refine ⟨(pi_range2 hg hm (pa_cons ha.run (pa_cons hb.run pa_nil (notStar hs2)) (notStar hs)) (by rw [notStar hs, notStar hs2]; rfl) (notStar hs2)).imp fun σ H R ⟨T, H0, B, env, r, p⟩ => ⟨T, H0, B, env, r, p.bind.mono fun d v H1 s1 _ p1 rv => ⟨T, H0, B, env, r.same s1, p1.bind.mono fun d2 v2 H2 s2 _ p2 rv2 => ?_⟩⟩⟩
  cases d with
  | int i =>
    cases d2 with
    | int j =>
      have p2 : EP0 X.KM W σ H2 (if lim62 i && lim62 j then RG.ok (rangeD i 1 (j - i).toNat) else RG.bad) _ := p2
      by_cases hl : (lim62 i && lim62 j) = true
      · rw [if_pos hl] at p2
        rw [Bool.and_eq_true] at hl
        obtain ⟨h1, h2⟩ := lim62_of hl.1
        obtain ⟨h3, h4⟩ := lim62_of hl.2
        exact ⟨i, j, by rw [rv.int, rv2.int], ⟨h1, h2, h3, h4⟩, p2 .non H2 (Same.refl _) _ itd_range⟩
      · rw [if_neg hl] at p2
        exact p2.elim
    | _ => exact p2.elim
  | _ => exact p2.elim
/-! ### zip, enumerate, reversed -/
def listD : D → Option (List D)
  | .lst ds => some ds
  | .frl ds => some ds
  | _ => none
def tupD : D → Option (List D)
  | .tup ds => some ds
  | .ktp ds => some ds
  | _ => none
theorem list_of {T : TL} {H0 B H H1 : Hp} {σ : L2.St} {env : DEnv} {v : V} {d : D} {ds : List D} (R : Rel X.KM md T H0 B H σ env) (s1 : Same H H1) (hb : (!bo && !st) = false) (rv : Rk st (X.KM.at T) H1 (Avd md σ env T H0 nw) v d) (e : listD d = some ds) :
    ∃ a vs, v = .ref a ∧ Rps (X.KM.at T) H1 (Avd md σ env T H0 nw) vs ds ∧ ∀ H2, Stay (fun a => bo = false ∧ WrP md σ env T B a) H1 H2 → SqL X.K H2 a vs := by
  have car := fun H2 z => own_stay (bo := bo) R s1 (nw := nw) H2 z
  cases d with
  | lst ds' =>
    cases e
    obtain ⟨a, vs, rfl, ea, rs⟩ := rv.lst
    have no : ¬ (bo = false ∧ WrP md σ env T B a) := fun z => by
      cases st with
      | true =>
        obtain ⟨a', vs', e1, n, _⟩ := Rp.lst.mp rv.strict
        cases e1
        exact n z.2.avd
      | false => rw [z.1] at hb; cases hb
    exact ⟨a, vs, rfl, rs, fun H2 z => SqL.of (z a _ no ea)⟩
  | frl ds' =>
    cases e
    obtain ⟨a, vs, rfl, ea, rs⟩ := rv.frl
    exact ⟨a, vs, rfl, rs, fun H2 z => ((car H2 z).frl a vs ea).sq⟩
  | _ => cases e
theorem tup_of {T : TL} {H0 B H H1 : Hp} {σ : L2.St} {env : DEnv} {v : V} {d : D} {ds : List D} (R : Rel X.KM md T H0 B H σ env) (s1 : Same H H1) (rv : Rk st (X.KM.at T) H1 (Avd md σ env T H0 nw) v d) (e : tupD d = some ds) :
    ∃ a vs, v = .ref a ∧ Rps (X.KM.at T) H1 (Avd md σ env T H0 nw) vs ds ∧ ∀ H2, Stay (fun a => bo = false ∧ WrP md σ env T B a) H1 H2 → SqT X.K H2 a vs := by
  have car := fun H2 z => own_stay (bo := bo) R s1 (nw := nw) H2 z
  cases d with
  | tup ds' =>
    cases e
    obtain ⟨a, vs, rfl, ea, rs⟩ := rv.tup
    exact ⟨a, vs, rfl, rs, fun H2 z => SqT.of ((car H2 z).tup a vs ea)⟩
  | ktp ds' =>
    cases e
    obtain ⟨a, vs, rfl, ea, rs⟩ := rv.ktp
    exact ⟨a, vs, rfl, rs, fun H2 z => (car H2 z).ktp a vs ea⟩
  | _ => cases e
def zipD (xs ys : List D) : List D := (xs.zip ys).map fun p => D.tup [p.1, p.2]
theorem pair_rp {K : KF} {O A : Pred} {H H1 H2 : Hp} {v x y : V} {dx dy : D} {q : Addr} (s : Stay O H H1) (c : ∀ H2, Stay O H H2 → Carry K H H2 A A) (hx : Rp K H A x dx) (hy : Rp K H A y dy) (e : v = .ref q) (n : H1 q = none) (e2 : H2 = upd H1 q (.tup [x, y])) :
    Same H1 H2 ∧ ∀ N : Pred, (∀ a, N a → H a = none) → Rp K H2 (fun a => A a ∨ N a) v (.tup [dx, dy]) := by
  subst e e2
  have sm : Same H1 (upd H1 q (.tup [x, y])) := same_new n
  exact ⟨sm, fun N hN => Rp.tup.mpr ⟨q, _, rfl, upd_same, .cons ((Rp.carry ((c _ s).addN hN) _ _ hx).same sm) (.one ((Rp.carry ((c _ s).addN hN) _ _ hy).same sm))⟩⟩
theorem itd_zip {K : KF} {O A : Pred} {H : Hp} {J : It} {vs ws : List V} {xs ys : List D} {G : Hp → Prop} {n : Nat} (hn : n = min vs.length ws.length) (w : Walk J n G (YPair (fun i => vs[i]?) (fun i => ws[i]?))) (hG : ∀ H2, Stay O H H2 → G H2) (r : Rps K H A vs xs) (r2 : Rps K H A ws ys) (c : ∀ H2, Stay O H H2 → Carry K H H2 A A) :
    ItD K O A H J (zipD xs ys) := by
  refine ⟨G, YPair (fun i => vs[i]?) (fun i => ws[i]?), ?_, hG, fun i H1 x H2 d s y e => ?_⟩
  · have : (zipD xs ys).length = n := by
      unfold zipD
      rw [List.length_map, List.length_zip, hn, r.length, r2.length]
    rw [this]
    exact w
  · obtain ⟨q, a, b, e1, n1, e2, ha, hb⟩ := y
    unfold zipD at e
    rw [List.getElem?_map] at e
    cases hz : (xs.zip ys)[i]? with
    | none => rw [hz] at e; cases e
    | some p =>
      rw [hz] at e
      cases e
      rw [List.getElem?_zip_eq_some] at hz
      obtain ⟨v1, ev1, q1⟩ := r.get hz.1
      obtain ⟨v2, ev2, q2⟩ := r2.get hz.2
      have ha' : vs[i]? = some a := ha
      have hb' : ws[i]? = some b := hb
      rw [ha'] at ev1
      rw [hb'] at ev2
      cases ev1
      cases ev2
      exact pair_rp s c q1 q2 e1 n1 e2
def gZip (x y : D) : Option (List D) := match listD x, listD y with
  | some xs, some ys => some (zipD xs ys)
  | _, _ => match tupD x, tupD y with
    | some xs, some ys => some (zipD xs ys)
    | _, _ => none
def dZip (fa fb : DX) : DXs := fun env => (fa env).bind fun x => (fb env).bind fun y => .ofO (gZip x y)
theorem walk_zipT {K : PySem.W.Frag} {a b : Addr} {xs ys : List V} {n : Nat} (hn : n = min xs.length ys.length) : Walk (ItzT K a b) n (fun H => SqT K H a xs ∧ SqT K H b ys) (YPair (fun i => xs[i]?) (fun i => ys[i]?)) := by
  subst hn
  refine ⟨fun i _ hi q => ?_, fun _ q => ⟨xs, ys, q.1, q.2, by omega⟩, fun i H v H' _ q y => ?_⟩
  · have h1 : i < xs.length := by omega
    have h2 : i < ys.length := by omega
    exact ⟨xs, ys, xs[i], ys[i], q.1, q.2, by simp [h1], by simp [h2]⟩
  · obtain ⟨T, x, z, h1, h2, h3, h4, h5⟩ := y
    exact ⟨T, x, z, h1, h2, h3, h4 xs q.1, h5 ys q.2⟩
theorem vi_zip {p tpos : Pos} {elts : List Expr} {kk : Nat} (hg : Gl X "zip") (hm : X.mg "zip" = none) (ha : VE X W md sa na a fa) (hb : VE X W md sb nb b fb) (h1 : (!bo && !sa) = false) (h2 : (!bo && !sb) = false) (hs : starless a = true) (hs2 : starless b = true) :
    VI X W md bo (na && nb) (.Tuple elts kk tpos) (.Call (.Name "zip" p) [a, b] [] pos) (dZip fa fb) := by
  refine ⟨(pi_zipA hg hm (pa_cons ha.run (pa_cons hb.run pa_nil (notStar hs2)) (notStar hs)) (notStar hs) (backTo_any (by rw [List.all_cons, hs2]; rfl))).imp fun σ H R ⟨T, H0, B, env, r, p⟩ => ⟨T, H0, B, env, r, p.bind.mono fun d v H1 s1 _ p1 rv => ⟨T, H0, B, env, r.same s1, p1.bind.mono fun d2 v2 H2 s2 _ p2 rv2 => ?_⟩⟩⟩
  have rv' := (rv.same s2).weak fun a z => Avd.mono (nw := na && nb) (fun e => (Bool.and_eq_true_iff.mp e).1) z
  have rv2' := rv2.weak fun a z => Avd.mono (nw := na && nb) (fun e => (Bool.and_eq_true_iff.mp e).2) z
  have car := fun H3 z => own_stay (bo := bo) (r.same s1) s2 (nw := na && nb) H3 z
  unfold gZip at p2
  split at p2
  · next xs ys e1 e2 =>
    obtain ⟨a1, vs, rfl, r1, q1⟩ := list_of (bo := bo) r (s1.trans s2) h1 rv' e1
    obtain ⟨a2, ws, rfl, r2, q2⟩ := list_of (bo := bo) (r.same s1) s2 h2 rv2' e2
    exact ⟨a1, a2, vs, ws, rfl, .inl ⟨q1 _ (Stay.of (Same.refl _)), q2 _ (Stay.of (Same.refl _)), p2 .non H2 (Same.refl _) _ (itd_zip rfl (walk_zip rfl) (fun H3 z => ⟨q1 H3 z, q2 H3 z⟩) r1 r2 car)⟩⟩
  · split at p2
    · next xs ys e1 e2 =>
      obtain ⟨a1, vs, rfl, r1, q1⟩ := tup_of (bo := bo) r (s1.trans s2) rv' e1
      obtain ⟨a2, ws, rfl, r2, q2⟩ := tup_of (bo := bo) (r.same s1) s2 rv2' e2
      exact ⟨a1, a2, vs, ws, rfl, .inr ⟨q1 _ (Stay.of (Same.refl _)), q2 _ (Stay.of (Same.refl _)), p2 .non H2 (Same.refl _) _ (itd_zip rfl (walk_zipT rfl) (fun H3 z => ⟨q1 H3 z, q2 H3 z⟩) r1 r2 car)⟩⟩
    · exact p2.elim
def enumD (n : Nat) : List D → List D
  | [] => []
  | d :: ds => .tup [.int (n : Nat), d] :: enumD (n + 1) ds
theorem enumD_get : ∀ (ds : List D) (n i : Nat), (enumD n ds)[i]? = ds[i]?.map fun d => D.tup [.int ((n + i : Nat)), d]
  | [], n, i => by simp [enumD]
  | d :: ds, n, 0 => by simp [enumD]
  | d :: ds, n, i + 1 => by
    simp only [enumD, List.getElem?_cons_succ]
    rw [enumD_get ds (n + 1) i, show n + 1 + i = n + (i + 1) by omega]
theorem enumD_len : ∀ (ds : List D) (n : Nat), (enumD n ds).length = ds.length
  | [], n => rfl
  | d :: ds, n => by simp [enumD, enumD_len ds (n + 1)]
def lsD (d : D) : Option (List D) := match listD d with
  | some ds => some ds
  | none => tupD d
def dEnum (fa : DX) : DXs := fun env => (fa env).bind fun x => .ofO ((lsD x).map (enumD 0))
theorem vi_enum {p tpos : Pos} {elts : List Expr} {kk : Nat} (hg : Gl X "enumerate") (hm : X.mg "enumerate" = none) (ha : VE X W md sa na a fa) (h1 : (!bo && !sa) = false) (hs : starless a = true) :
    VI X W md bo na (.Tuple elts kk tpos) (.Call (.Name "enumerate" p) [a] [] pos) (dEnum fa) := by
  refine ⟨(pi_enumA hg hm (pa_cons ha.run pa_nil (notStar hs)) (notStar hs)).imp fun σ H R ⟨T, H0, B, env, r, p⟩ => ⟨T, H0, B, env, r, p.bind.mono fun d v H1 s1 _ p1 rv => ?_⟩⟩
  have car := fun H3 z => own_stay (bo := bo) r s1 (nw := na) H3 z
  have fin : ∀ {a1 : Addr} {vs : List V} {xs : List D} {J : It} {G : Hp → Prop}, Rps (X.KM.at T) H1 (Avd md σ env T H0 na) vs xs → Walk J vs.length G (YPair (fun i => some (.int (i : Nat))) (fun i => vs[i]?)) → (∀ H2, Stay (fun a => bo = false ∧ WrP md σ env T B a) H1 H2 → G H2) →
      ItD (X.KM.at T) (fun a => bo = false ∧ WrP md σ env T B a) (Avd md σ env T H0 na) H1 J (enumD 0 xs) := fun {a1 vs xs J G} r1 w hG => by
    refine ⟨_, _, by rw [enumD_len, ← r1.length]; exact w, hG, fun i H2 x H3 d s y e => ?_⟩
    obtain ⟨q, a, b, e3, n1, e2, ha, hb⟩ := y
    rw [enumD_get] at e
    cases hx : xs[i]? with
    | none => rw [hx] at e; cases e
    | some w =>
      rw [hx] at e
      cases e
      obtain ⟨v2, ev2, q2⟩ := r1.get hx
      have hb' : vs[i]? = some b := hb
      rw [hb'] at ev2
      cases ev2
      cases ha
      exact pair_rp s car (Rp.int.mpr (by simp)) q2 e3 n1 e2
  unfold lsD at p1
  cases e1 : listD d with
  | none =>
    rw [e1] at p1
    cases e2 : tupD d with
    | none => rw [e2] at p1; exact p1.elim
    | some xs =>
      rw [e2] at p1
      obtain ⟨a1, vs, rfl, r1, q1⟩ := tup_of (bo := bo) r s1 rv e2
      exact ⟨a1, vs, rfl, .inr ⟨q1 _ (Stay.of (Same.refl _)), p1 .non H1 (Same.refl _) _ (fin (a1 := a1) r1 walk_enumT fun H2 z => q1 H2 z)⟩⟩
  | some xs =>
    rw [e1] at p1
    obtain ⟨a1, vs, rfl, r1, q1⟩ := list_of (bo := bo) r s1 h1 rv e1
    exact ⟨a1, vs, rfl, .inl ⟨q1 _ (Stay.of (Same.refl _)), p1 .non H1 (Same.refl _) _ (fin (a1 := a1) r1 walk_enum fun H2 z => q1 H2 z)⟩⟩
def revD (d : D) : Option (List D) := (match listD d with
  | some ds => some ds
  | none => tupD d).map List.reverse
def dRev (fa : DX) : DXs := fun env => (fa env).bind fun x => .ofO (revD x)
theorem walk_revT {K : PySem.W.Frag} {a : Addr} {xs : List V} : Walk (ItvT K a xs.length) xs.length (fun H => SqT K H a xs) (fun i H x H' => H' = H ∧ xs[xs.length - 1 - i]? = some x) :=
  ⟨fun i _ hi q => ⟨hi, xs, xs[xs.length - 1 - i]'(by omega), q, by simp [show xs.length - 1 - i < xs.length by omega]⟩, fun _ _ => Nat.le_refl _, fun _ _ _ _ _ q y => ⟨y.1, y.2 xs q⟩⟩
theorem itd_rev {K : KF} {O A : Pred} {H : Hp} {J : It} {vs : List V} {ds : List D} {G : Hp → Prop} (w : Walk J vs.length G (fun i H x H' => H' = H ∧ vs[vs.length - 1 - i]? = some x)) (hG : ∀ H2, Stay O H H2 → G H2) (r : Rps K H A vs ds) (c : ∀ H2, Stay O H H2 → Carry K H H2 A A) : ItD K O A H J ds.reverse := by
  refine ⟨G, _, by rw [List.length_reverse, ← r.length]; exact w, hG, fun i H1 x H2 d s y e => ?_⟩
  obtain ⟨rfl, ex⟩ := y
  have hi : i < ds.length := by
    obtain ⟨h, _⟩ := List.getElem?_eq_some_iff.mp e
    simpa using h
  rw [List.getElem?_reverse hi] at e
  obtain ⟨v, ev, q⟩ := r.get e
  rw [← r.length] at ev
  rw [ex] at ev
  cases ev
  exact ⟨Same.refl _, fun N hN => Rp.carry ((c _ s).addN hN) d x q⟩
theorem vi_rev {p : Pos} (hg : Gl X "reversed") (hm : X.mg "reversed" = none) (ha : VE X W md sa na a fa) (h1 : (!bo && !sa) = false) (hs : starless a = true) :
    VI X W md bo na tg (.Call (.Name "reversed" p) [a] [] pos) (dRev fa) := by
  refine ⟨(pi_revA hg hm ha.run (notStar hs)).imp fun σ H R ⟨T, H0, B, env, r, p⟩ => ⟨T, H0, B, env, r, p.bind.mono fun d v H1 s1 _ p1 rv => ?_⟩⟩
  have car := fun H3 z => own_stay (bo := bo) r s1 (nw := na) H3 z
  unfold revD at p1
  cases e1 : listD d with
  | some xs =>
    rw [e1] at p1
    obtain ⟨a1, vs, rfl, r1, q1⟩ := list_of (bo := bo) r s1 h1 rv e1
    exact ⟨a1, vs, rfl, .inl ⟨q1 _ (Stay.of (Same.refl _)), p1 .non H1 (Same.refl _) _ (itd_rev walk_rev (fun H2 z => q1 H2 z) r1 car)⟩⟩
  | none =>
    rw [e1] at p1
    cases e2 : tupD d with
    | none => rw [e2] at p1; exact p1.elim
    | some xs =>
      rw [e2] at p1
      obtain ⟨a1, vs, rfl, r1, q1⟩ := tup_of (bo := bo) r s1 rv e2
      exact ⟨a1, vs, rfl, .inr ⟨q1 _ (Stay.of (Same.refl _)), p1 .non H1 (Same.refl _) _ (itd_rev walk_revT (fun H2 z => q1 H2 z) r1 car)⟩⟩
def dRevR (fa : DX) : DXs := fun env => (fa env).bind fun x => match x with
  | .int j => if lim62 j then .ok (rangeD ((j.toNat : Nat) - 1) (-1) j.toNat) else .bad
  | _ => .bad
theorem vi_revR {p p2 pos2 : Pos} (hg : Gl X "reversed") (hm : X.mg "reversed" = none) (hg2 : Gl X "range") (hm2 : X.mg "range" = none) (ha : VE X W md sa na a fa) (hs : starless a = true) :
    VI X W md bo true tg (.Call (.Name "reversed" p) [.Call (.Name "range" p2) [a] [] pos2] [] pos) (dRevR fa) := by
  refine ⟨(pi_revR hg hm (prg_1 hg2 hm2 ha.run (notStar hs)) (notStar rfl)).imp fun σ H R ⟨T, H0, B, env, r, p⟩ => ⟨T, H0, B, env, r, p.bind.mono fun d v H1 s1 _ p1 rv => ?_⟩⟩
  cases d with
  | int j =>
    have p1 : EP0 X.KM W σ H1 (if lim62 j then RG.ok (rangeD ((j.toNat : Nat) - 1) (-1) j.toNat) else RG.bad) _ := p1
    by_cases hl : lim62 j = true
    · rw [if_pos hl] at p1
      obtain ⟨h1, h2⟩ := lim62_of hl
      have e1 : (0 : Int) + (((j - 0).toNat : Nat) : Int) - 1 = (j.toNat : Nat) - 1 := by simp
      refine ⟨j, rv.int, by decide, by decide, h1, h2, ?_⟩
      rw [e1, show (j - 0).toNat = j.toNat by simp]
      exact p1 .non H1 (Same.refl _) _ itd_rangeC
    · rw [if_neg hl] at p1
      exact p1.elim
  | _ => exact p1.elim
end
/-! ### targets -/
def Wp (sl : List Nat) (σ σ' : L2.St) : Prop := ∀ vs : List Nat, (∀ j ∈ sl, j ∈ vs) → L2.wipe σ' vs = L2.wipe σ vs
theorem wipe_comm (σ : L2.St) (i : Nat) (x : Option V) : ∀ vs : List Nat, i ∈ vs → L2.wipe (σ.set i x) vs = L2.wipe σ vs
  | [], h => nomatch h
  | v :: vs, h => by
    show (L2.wipe (σ.set i x) vs).set v none = (L2.wipe σ vs).set v none
    by_cases e : i ∈ vs
    · rw [wipe_comm σ i x vs e]
    · have hv : i = v := (List.mem_cons.mp h).resolve_right e
      subst hv
      have gen : ∀ (ws : List Nat), i ∉ ws → L2.wipe (σ.set i x) ws = (L2.wipe σ ws).set i x := by
        intro ws
        induction ws with
        | nil => intro _; rfl
        | cons w ws ih =>
          intro hn
          have h1 : i ≠ w := fun z => hn (by simp [z])
          have h2 : i ∉ ws := fun z => hn (by simp [z])
          show (L2.wipe (σ.set i x) ws).set w none = ((L2.wipe σ ws).set w none).set i x
          rw [ih h2, List.set_comm _ _ h1]
      rw [gen vs e, List.set_set]
def tDG (K : KM) (md : Mds) (nw : Bool) (gd : D → DEnv → Option DEnv) (sl : List Nat) : TG := fun v σ H Q => ∃ (T : TL) (H0 B : Hp) (env : DEnv) (d : D), Rel K md T H0 B H σ env ∧ Rp (K.at T) H (Avd md σ env T H0 nw) v d ∧
  match gd d env with
  | some env' => ∀ σ', Rel K md T H0 B H σ' env' → (∀ n, Avd md σ' env' T H0 n = Avd md σ env T H0 n) → Wp sl σ σ' → Q σ' H
  | none => False
def tDGs (K : KM) (md : Mds) (nw : Bool) (gd : List D → DEnv → Option DEnv) (sl : List Nat) : TGs := fun vs σ H Q => ∃ (T : TL) (H0 B : Hp) (env : DEnv) (ds : List D), Rel K md T H0 B H σ env ∧ Rps (K.at T) H (Avd md σ env T H0 nw) vs ds ∧
  match gd ds env with
  | some env' => ∀ σ', Rel K md T H0 B H σ' env' → (∀ n, Avd md σ' env' T H0 n = Avd md σ env T H0 n) → Wp sl σ σ' → Q σ' H
  | none => False
structure VG (X : Cx) (md : Mds) (nw : Bool) (tg : Expr) (gd : D → DEnv → Option DEnv) (sl : List Nat) : Prop where
  run : PG X tg (tDG X.KM md nw gd sl)
structure VGs (X : Cx) (md : Mds) (nw : Bool) (tg : List Expr) (gd : List D → DEnv → Option DEnv) (sl : List Nat) : Prop where
  run : PGs X tg (tDGs X.KM md nw gd sl)
theorem _root_.L2.PG.imp {X : Cx} {tg : Expr} {t t' : TG} (h : PG X tg t) (i : ∀ v σ H Q, t' v σ H Q → t v σ H Q) : PG X tg t' := ⟨fun pins s σ H v u Q I r w => h.run pins s σ H v u Q I r (i v σ H Q w)⟩
theorem _root_.L2.PGs.imp {X : Cx} {tg : List Expr} {t t' : TGs} (h : PGs X tg t) (i : ∀ v σ H Q, t' v σ H Q → t v σ H Q) : PGs X tg t' := ⟨fun pins s σ H v u Q I r w => h.run pins s σ H v u Q I r (i v σ H Q w)⟩
section
variable {X : Cx} {W : WX} {md : Mds} {st nw sa na sb nb bo : Bool} {e a b tg : Expr} {f fa fb : DX} {pos : Pos} {es : List Expr} {fs : DXs}
def gdName (i : Nat) : D → DEnv → Option DEnv := fun d env => some (env.set i (some d))
theorem vg_name {i : Nat} {x : Str} (hN : X.N.Nodup) (hi : X.N[i]? = some x) (hx : Loc X.env.scope x) (hf : X.fn x = true ∨ X.env.scope.names.lookup x = some .local) (ho : (mdAt md i).own = false) (hp : (mdAt md i).dp = 0) (hw : ((mdAt md i).nw && !nw) = false) :
    VG X md nw (.Name x pos) (gdName i) [i] := ⟨(pg_name hN hi hx hf).imp fun v σ H Q ⟨T, H0, B, env, d, R, r, q⟩ => by
  have q : ∀ σ', Rel X.KM md T H0 B H σ' (env.set i (some d)) → _ := q
  refine q _ (R.setShared ho hp (r.weak fun a z => Avd.mono (fun e => ?_) z)) (fun n => avd_set ho) fun vs h => wipe_comm σ i _ vs (h i (by simp))
  rw [e] at hw
  simpa using hw⟩
def gdNil : List D → DEnv → Option DEnv := fun ds env => match ds with
  | [] => some env
  | _ => none
def gdCons (g : D → DEnv → Option DEnv) (gs : List D → DEnv → Option DEnv) : List D → DEnv → Option DEnv := fun ds env => match ds with
  | [] => none
  | d :: r => (g d env).bind (gs r)
theorem vgs_nil : VGs X md nw [] gdNil [] := ⟨pgs_nil.imp fun vs σ H Q ⟨T, H0, B, env, ds, R, r, q⟩ => by
  cases ds with
  | nil => exact ⟨r.nil_eq, q σ R (fun _ => rfl) fun _ _ => rfl⟩
  | cons d r => exact q.elim⟩
theorem vgs_cons {sl sl2 : List Nat} {g : D → DEnv → Option DEnv} {gs : List D → DEnv → Option DEnv} (h : VG X md nw e g sl) (hr : VGs X md nw es gs sl2) (hs : (assignEach (e :: es) X.env).map (·.2) = assign e X.env :: (assignEach es X.env).map (·.2)) :
    VGs X md nw (e :: es) (gdCons g gs) (sl ++ sl2) := ⟨(pgs_cons h.run hr.run hs).imp fun vs σ H Q ⟨T, H0, B, env, ds, R, r, q⟩ => by
  cases ds with
  | nil => exact q.elim
  | cons d ds =>
    obtain ⟨v, vr, rfl, rv, rr⟩ := r.uncons
    refine ⟨v, vr, rfl, T, H0, B, env, d, R, rv, ?_⟩
    have q : match (g d env).bind (gs ds) with
      | some env' => ∀ σ', Rel X.KM md T H0 B H σ' env' → (∀ n, Avd md σ' env' T H0 n = Avd md σ env T H0 n) → Wp (sl ++ sl2) σ σ' → Q σ' H
      | none => False := q
    cases eg : g d env with
    | none => rw [eg] at q; exact q
    | some env1 =>
      rw [eg] at q
      have q : match gs ds env1 with
        | some env' => ∀ σ', Rel X.KM md T H0 B H σ' env' → (∀ n, Avd md σ' env' T H0 n = Avd md σ env T H0 n) → Wp (sl ++ sl2) σ σ' → Q σ' H
        | none => False := q
      intro σ1 R1 a1 w1
      refine ⟨T, H0, B, env1, ds, R1, by rw [a1]; exact rr, ?_⟩
      cases e2 : gs ds env1 with
      | none => rw [e2] at q; exact q
      | some env2 =>
        rw [e2] at q
        intro σ2 R2 a2 w2
        exact q σ2 R2 (fun n => (a2 n).trans (a1 n)) fun vs hv => (w2 vs fun j hj => hv j (List.mem_append_right _ hj)).trans (w1 vs fun j hj => hv j (List.mem_append_left _ hj))⟩
def seqD : D → Option (List D)
  | .tup ds => some ds
  | .ktp ds => some ds
  | .lst ds => some ds
  | _ => none
def gdTup (n : Nat) (gs : List D → DEnv → Option DEnv) : D → DEnv → Option DEnv := fun d env => match seqD d with
  | some ds => if ds.length = n then gs ds env else none
  | none => none
theorem pg_or {e : Expr} {t u : TG} (h : PG X e t) (k : PG X e u) : PG X e (fun v σ H Q => t v σ H Q ∨ u v σ H Q) :=
  ⟨fun pins s σ H v w Q I r hw => hw.elim (h.run pins s σ H v w Q I r) (k.run pins s σ H v w Q I r)⟩
theorem vg_tup {n k : Nat} {sl : List Nat} {gs : List D → DEnv → Option DEnv} (hc : X.calm = true) (h : VGs X md nw es gs sl) (hn : (assignEach es X.env).length = n) (hst : (assignEach es X.env).findIdx? (·.1) = none) :
    VG X md nw (.Tuple es k pos) (gdTup n gs) sl := ⟨(pg_or (pg_tup hc h.run hn hst) (pg_lst hc h.run hn hst)).imp fun v σ H Q ⟨T, H0, B, env, d, R, r, q⟩ => by
  unfold gdTup at q
  have fin : ∀ {vs : List V} {ds : List D} {P : Prop}, (vs.length = n → tDGs X.KM md nw gs sl vs σ H Q → P) → Rps (X.KM.at T) H (Avd md σ env T H0 nw) vs ds → (match (if ds.length = n then gs ds env else none) with
      | some env' => ∀ σ', Rel X.KM md T H0 B H σ' env' → (∀ n, Avd md σ' env' T H0 n = Avd md σ env T H0 n) → Wp sl σ σ' → Q σ' H
      | none => False) → P := fun {vs ds P} c rs q => by
    by_cases hl : ds.length = n
    · rw [if_pos hl] at q
      exact c (rs.length.trans hl) ⟨T, H0, B, env, ds, R, rs, q⟩
    · rw [if_neg hl] at q
      exact q.elim
  cases d with
  | tup ds => obtain ⟨a, vs, ev, hs, rs⟩ := Rp.tup.mp r; exact .inl (fin (fun hl t => ⟨a, vs, ev, SqT.of hs, hl, t⟩) rs q)
  | ktp ds => obtain ⟨a, vs, ev, hs, rs⟩ := Rp.ktp.mp r; exact .inl (fin (fun hl t => ⟨a, vs, ev, hs, hl, t⟩) rs q)
  | lst ds => obtain ⟨a, vs, ev, _, hs, rs⟩ := Rp.lst.mp r; exact .inr (fin (fun hl t => ⟨a, vs, ev, SqL.of hs, hl, t⟩) rs q)
  | _ => exact q.elim⟩
/-! ### [e for x in s if t] -/
abbrev W0 : WX := fun _ _ _ _ => False
def compGo (gd : D → DEnv → Option DEnv) (tt fe : DX) (env : DEnv) : List D → Option (List D)
  | [] => some []
  | d :: r => match gd d env with
    | none => none
    | some env1 => match tt env1 with
      | .ok (.bl true) => (match fe env1 with
        | .ok y => (compGo gd tt fe env r).map (y :: ·)
        | _ => none)
      | .ok (.bl false) => compGo gd tt fe env r
      | _ => none
def dComp (src : DXs) (gd : D → DEnv → Option DEnv) (tt fe : DX) (vs : List Nat) : DX := fun env => (src env).bind fun ds => if ds.length ≤ sizeLine then (match compGo gd tt fe (wipeD env vs) ds with
  | some xs => .ok (.lst xs)
  | none => .bad) else .bad
structure VTs (X : Cx) (W : WX) (md : Mds) (ifs : List Expr) (f : DX) : Prop where
  run : PTs X ifs (tDT X.KM W md f)
theorem vts_nil : VTs X W md [] (dC (.bl true)) := ⟨⟨fun pins s σ H Q I w => pts_nil.run pins s σ H Q I (by
  obtain ⟨T, H0, B, env, R, p⟩ := w
  obtain ⟨b, e, q⟩ := p .non H (Same.refl _)
  cases e
  exact q)⟩⟩
theorem vts_one (h : VT X W md e f) : VTs X W md [e] f := ⟨pts_one h.run⟩
theorem comp_core {gd : D → DEnv → Option DEnv} {tt fe : DX} {sl : List Nat} {own : List (Str × Nat)} {σ : L2.St} {Q : VK} {T : TL} {H0 B H1 : Hp} {env : DEnv} {ds xs : List D} {J : It} (hsh : shAll md (own.map (·.2)) = true) (hsl : ∀ j ∈ sl, j ∈ own.map (·.2)) (R1 : Rel X.KM md T H0 B H1 σ env)
    (it : ItD (X.KM.at T) (fun a => bo = false ∧ WrP md σ env T B a) (Avd md σ env T H0 na) H1 J ds) (hz : ds.length ≤ sizeLine) (hx : compGo gd tt fe (wipeD env (own.map (·.2))) ds = some xs)
    (fin : ∀ L accV H2, H1 L = none → Same H1 H2 → H2 L = some (.lst accV) → Rps (X.KM.at T) H2 (fun a => Avd md σ env T H0 nw a ∨ a = L) accV xs → Q (.ref L) H2) :
    tLc (fun _ H R => R J H) (tDG X.KM md na gd sl) (tDT X.KM W0 md tt) (tD X.KM W0 md true nw fe) (own.map (·.2)) σ H1 Q := by
  intro L nL
  have fin := fin L
  obtain ⟨G, Y, w, hG, hY⟩ := it.ex
  -- the frame at a later heap, the new list at L
  have at_ : ∀ {H' : Hp}, Same H1 H' → (∃ o, H' L = some o ∧ isMutO o = true) → Rel X.KM md ⟨fun a => T a ∨ a = L, T.l⟩ H0 B H' σ env := fun s e => R1.addT nL s e
  have avT : ∀ n, Avd md σ env ⟨fun a => T a ∨ a = L, T.l⟩ H0 n = fun a => Avd md σ env T H0 n a ∨ a = L := fun n => by
    funext a
    unfold Avd
    apply propext
    constructor
    · rintro (z | (z | z) | z)
      · exact .inl (.inl z)
      · exact .inl (.inr (.inl z))
      · exact .inr z
      · exact .inl (.inr (.inr z))
    · rintro ((z | z | z) | z)
      · exact .inl z
      · exact .inr (.inl (.inl z))
      · exact .inr (.inr z)
      · exact .inr (.inl (.inr z))
  refine lc_it w (fun i H' => Same H1 H' ∧ ∃ accV accD rest, H' L = some (.lst accV) ∧ Rps (X.KM.at T) H' (Avd md σ env ⟨fun a => T a ∨ a = L, T.l⟩ H0 nw) accV accD ∧ compGo gd tt fe (wipeD env (own.map (·.2))) (ds.drop i) = some rest ∧ accD ++ rest = xs ∧ accD.length ≤ i) ?_ (fun i H' _ h => hG H' (Stay.of h.1)) ?_ ?_
  · exact ⟨same_new nL, [], [], xs, upd_same, .nil, hx, rfl, Nat.le_refl _⟩
  · rintro i x H2 H3 hi ⟨s2, accV, accD, rest, eL, rA, hr, hax, hlen⟩ y
    obtain ⟨d, hd⟩ : ∃ d, ds[i]? = some d := ⟨ds[i], List.getElem?_eq_getElem hi⟩
    obtain ⟨s3, rx⟩ := hY i H2 x H3 d (Stay.of s2) y hd
    have rx := rx (fun a => a = L) (fun a z => by subst z; exact nL)
    have eL3 : H3 L = some (.lst accV) := s3 _ _ eL
    have RT : Rel X.KM md ⟨fun a => T a ∨ a = L, T.l⟩ H0 B H3 σ env := at_ (s2.trans s3) ⟨_, eL3, rfl⟩
    obtain ⟨Rw, aw⟩ := RT.wipe hsh
    have hdrop : ds.drop i = d :: ds.drop (i + 1) := by
      obtain ⟨h1, h2⟩ := List.getElem?_eq_some_iff.mp hd
      rw [List.drop_eq_getElem_cons h1, h2]
    rw [hdrop] at hr
    refine ⟨_, H0, B, wipeD env (own.map (·.2)), d, Rw, by rw [aw, avT]; exact rx, ?_⟩
    unfold compGo at hr
    cases eg : gd d (wipeD env (own.map (·.2))) with
    | none => rw [eg] at hr; cases hr
    | some env1 =>
      rw [eg] at hr
      intro σ1 R1' a1 w1
      refine ⟨(w1 _ hsl).trans ?_, _, H0, B, env1, R1', ?_⟩
      · have : ∀ vs : List Nat, L2.wipe (L2.wipe σ vs) vs = L2.wipe σ vs := by
          intro vs
          have : ∀ us vs : List Nat, (∀ j ∈ us, j ∈ vs) → L2.wipe (L2.wipe σ us) vs = L2.wipe σ vs := by
            intro us
            induction us with
            | nil => intro vs _; rfl
            | cons u us ih =>
              intro vs h
              show L2.wipe ((L2.wipe σ us).set u none) vs = _
              rw [wipe_comm _ u none vs (h u (by simp)), ih vs fun j hj => h j (by simp [hj])]
          exact this vs vs fun _ h => h
        exact this _
      · have hr : (match tt env1 with
          | .ok (.bl true) => (match fe env1 with
            | .ok y => (compGo gd tt fe (wipeD env (own.map (·.2))) (ds.drop (i + 1))).map (y :: ·)
            | _ => none)
          | .ok (.bl false) => compGo gd tt fe (wipeD env (own.map (·.2))) (ds.drop (i + 1))
          | _ => none) = some rest := hr
        cases et : tt env1 with
        | exc c fs => rw [et] at hr; cases hr
        | bad => rw [et] at hr; cases hr
        | ok dt =>
          rw [et] at hr
          intro _ H4 s4
          cases dt with
          | bl k =>
            refine ⟨k, rfl, ?_⟩
            cases k with
            | false =>
              rw [if_neg Bool.false_ne_true]
              exact ⟨(s2.trans s3).trans s4, accV, accD, rest, s4 _ _ eL3, (rA.same s3).same s4, hr, hax, by omega⟩
            | true =>
              rw [if_pos rfl]
              refine ⟨_, H0, B, env1, R1'.same s4, ?_⟩
              have hr : (match fe env1 with
                | .ok y => (compGo gd tt fe (wipeD env (own.map (·.2))) (ds.drop (i + 1))).map (y :: ·)
                | _ => none) = some rest := hr
              cases ef : fe env1 with
              | exc c fs => rw [ef] at hr; cases hr
              | bad => rw [ef] at hr; cases hr
              | ok dy =>
                rw [ef] at hr
                intro y H5 s5 ry
                obtain ⟨rest', hr', er⟩ := Option.map_eq_some_iff.mp hr
                subst er
                have ry : Rp (X.KM.at T) H5 (Avd md σ env ⟨fun a => T a ∨ a = L, T.l⟩ H0 nw) y dy := by
                  have := ry.strict
                  rw [a1, aw] at this
                  exact this
                have eL5 := s5 _ _ (s4 _ _ eL3)
                have rA5 := ((rA.same s3).same s4).same s5
                refine ⟨accV, eL5, ?_, ?_⟩
                · rw [rA.length]
                  omega
                · have sAll := ((s2.trans s3).trans s4).trans s5
                  have sU : Same H1 (upd H5 L (.lst (accV ++ [y]))) := fun b o eb => by
                    have nb : b ≠ L := fun z => by subst z; rw [nL] at eb; cases eb
                    rw [upd_ne nb]
                    exact sAll b o eb
                  have cU : Carry (X.KM.at T) H5 (upd H5 L (.lst (accV ++ [y]))) (Avd md σ env ⟨fun a => T a ∨ a = L, T.l⟩ H0 nw) (Avd md σ env ⟨fun a => T a ∨ a = L, T.l⟩ H0 nw) := by
                    refine Carry.stay (O := fun a => a = L) (fun a z => by subst z; exact ⟨_, eL5, rfl⟩) (fun a z => .inr (.inl (.inr z))) fun a o na ea => ?_
                    rw [upd_ne na]
                    exact ea
                  exact ⟨sU, accV ++ [y], accD ++ [dy], rest', upd_same, (Rps.carry cU _ _ rA5).append (.one (Rp.carry cU _ _ ry)), hr', by rw [List.append_assoc]; exact hax, by rw [List.length_append]; simp; omega⟩
          | _ => exact absurd hr (by simp)
  · rintro H2 ⟨s2, accV, accD, rest, eL, rA, hr, hax, _⟩
    rw [List.drop_length] at hr
    cases hr
    rw [List.append_nil] at hax
    subst hax
    rw [avT] at rA
    exact fin accV H2 nL s2 eL rA
theorem comp_reading {src : DXs} {gd : D → DEnv → Option DEnv} {tt fe : DX} {sl : List Nat} {own : List (Str × Nat)} {σ : L2.St} {H : Hp} {Q : VK} (hsh : shAll md (own.map (·.2)) = true) (hsl : ∀ j ∈ sl, j ∈ own.map (·.2))
    (h : tDF X.KM W md nw (dComp src gd tt fe (own.map (·.2))) σ H Q) : tLc (tDI X.KM W md bo na src) (tDG X.KM md na gd sl) (tDT X.KM W0 md tt) (tD X.KM W0 md true nw fe) (own.map (·.2)) σ H Q := by
  obtain ⟨T, H0, B, env, R, p⟩ := h
  refine ⟨T, H0, B, env, R, p.bind.mono fun ds _ H1 s1 _ p1 => fun J it => ?_⟩
  by_cases hz : ds.length ≤ sizeLine
  case neg => rw [if_neg hz] at p1; exact p1.elim
  rw [if_pos hz] at p1
  cases hx : compGo gd tt fe (wipeD env (own.map (·.2))) ds with
  | none => rw [hx] at p1; exact p1.elim
  | some xs =>
    rw [hx] at p1
    exact comp_core (bo := bo) hsh hsl (R.same s1) it hz hx fun L accV H2 nL s2 eL rA => p1 _ H2 s2 ⟨L, rfl, Same.free s1 nL, accV, eL, rA⟩
theorem vf_comp {elt iter : Expr} {ifs : List Expr} {scope : Scope} {own : List (Str × Nat)} {src : DXs} {gd : D → DEnv → Option DEnv} {tt fe : DX} {sl : List Nat} (hc : X.calm = true) (hN : X.N.Nodup) (hi : VI X W md bo na tg iter src) (ok : BlkOk X.N X.env.scope scope own)
    (hsh : shAll md (own.map (·.2)) = true) (hsl : ∀ j ∈ sl, j ∈ own.map (·.2))
    (hg : ∀ (s : Shared) (H : Hp) (C : Addr) (cl : List (Str × Addr)) (fp : List Addr), VG (X.blk s H scope (compEnvC scope cl C X.env) fp) md na tg gd sl)
    (ht : ∀ (s : Shared) (H : Hp) (C : Addr) (cl : List (Str × Addr)) (fp : List Addr), VTs (X.blk s H scope (compEnvC scope cl C X.env) fp) W0 md ifs tt)
    (he : ∀ (s : Shared) (H : Hp) (C : Addr) (cl : List (Str × Addr)) (fp : List Addr), VE (X.blk s H scope (compEnvC scope cl C X.env) fp) W0 md true nw elt fe) (hs : ∀ x, foldedSetIterable iter X.env x = pure x) :
    VF X W md nw (.ListComp elt [⟨tg, iter, ifs, 0⟩] scope pos) (dComp src gd tt fe (own.map (·.2))) :=
  ⟨(pe_lc (g := tDG X.KM md na gd sl) (tt := tDT X.KM W0 md tt) (te := tD X.KM W0 md true nw fe) hc hN hi.run ok (fun s H C cl fp => (hg s H C cl fp).run) (fun s H C cl fp => (ht s H C cl fp).run) (fun s H C cl fp => (he s H C cl fp).run) hs).imp fun σ H Q h => comp_reading hsh hsl h⟩
end
end Dl
/-! Dl7: statements, loops. -/
namespace Dl
open PySem PySem.Spec PyProof.Rows L2 RZ RT
/-! ### slots changed -/
section
variable {K : KM} {md : Mds} {T : TL} {H0 B B' H H' H1 : Hp} {σ : L2.St} {env : DEnv}
theorem ownAt_kill {i j : Nat} {a : Addr} (o : OwnAt md σ (env.set i none) j a) : OwnAt md σ env j a := by
  obtain ⟨h1, ⟨d, h2, hl⟩, h3⟩ := o
  exact ⟨h1, ⟨d, (kill_lookup h2).2, hl⟩, h3⟩
theorem avd_kill {i : Nat} {nw : Bool} {a : Addr} (h : Avd md σ (env.set i none) T H0 nw a) : Avd md σ env T H0 nw a := by
  rcases h with ⟨j, o⟩ | h
  · exact .inl ⟨j, ownAt_kill o⟩
  · exact .inr h
/-- a slot forgotten, owned or not -/
theorem Rel.killAny (R : Rel K md T H0 B H σ env) (i : Nat) : Rel K md T H0 B H σ (env.set i none) := by
  refine ⟨R.s0, R.sB, R.tB, by simp [R.len], fun j d' e hd => ?_, fun j a o => R.out j a (ownAt_kill o), fun j k a o o' => R.sep j k a (ownAt_kill o) (ownAt_kill o'), fun j a o => R.tO j a (ownAt_kill o), R.st, R.tM, fun j d' e hd => R.deep j d' (kill_lookup e).2 hd, fun j d' e hd => (R.sto j d' (kill_lookup e).2 hd).weak fun _ => avd_kill⟩
  obtain ⟨hj, e⟩ := kill_lookup e
  obtain ⟨v, ev, q⟩ := R.slot j d' e hd
  refine ⟨v, ev, ?_⟩
  unfold SlotOk at *
  split at q
  · next h => rw [if_pos h]; exact q.carry (.weak fun _ => avd_kill) fun _ _ _ _ u => u
  · next h => rw [if_neg h]; exact q.weak fun _ => avd_kill
def killD (env : DEnv) (ks : List Nat) : DEnv := ks.foldl (fun e i => e.set i none) env
theorem Rel.killD (R : Rel K md T H0 B H σ env) (ks : List Nat) : Rel K md T H0 B H σ (Dl.killD env ks) := by
  induction ks generalizing env with
  | nil => exact R
  | cons k ks ih => exact ih (R.killAny k)
/-- an owned list or dict changed -/
theorem ownAt_some {i : Nat} {d' d : D} {j : Nat} {a : Addr} (hi : env[i]? = some (some d)) (hl0 : isLD d = true) (hl1 : isLD d' = true) : OwnAt md σ (env.set i (some d')) j a ↔ OwnAt md σ env j a := by
  unfold OwnAt
  by_cases h : j = i
  · subst h
    have hl : j < env.length := (List.getElem?_eq_some_iff.mp hi).1
    rw [List.getElem?_set_self hl, hi]
    constructor
    · rintro ⟨x, _, y⟩; exact ⟨x, ⟨d, rfl, hl0⟩, y⟩
    · rintro ⟨x, _, y⟩; exact ⟨x, ⟨d', rfl, hl1⟩, y⟩
  · rw [List.getElem?_set_ne (Ne.symm h)]
theorem avd_some {i : Nat} {d' d : D} (hi : env[i]? = some (some d)) (hl0 : isLD d = true) (hl1 : isLD d' = true) {nw : Bool} : Avd md σ (env.set i (some d')) T H0 nw = Avd md σ env T H0 nw := by
  funext a
  unfold Avd
  simp only [ownAt_some hi hl0 hl1]
theorem carry_upd {K : KF} {A : Pred} {a : Addr} {o u : HO} (e : H a = some u) (m : isMutO u = true) (hA : A a) : Carry K H (upd H a o) A A := by
  refine Carry.stay (O := fun b => b = a) (fun b z => by subst z; exact ⟨u, e, m⟩) (fun b z => by subst z; exact hA) fun b w n eb => ?_
  rw [upd_ne n]
  exact eb
theorem Rel.upd (R : Rel K md T H0 B H σ env) {i : Nat} {a : Addr} {d d' : D} (hi : env[i]? = some (some d)) (ho : OwnAt md σ env i a) {o : HO} (t : Top (K.at T) (L2.upd H a o) (Avd md σ env T H0 (mdAt md i).nw) a d') : Rel K md T H0 B (L2.upd H a o) σ (env.set i (some d')) := by
  obtain ⟨u, eu, mu⟩ := R.ownMut ⟨i, ho⟩
  have av : ∀ nw, Avd md σ env T H0 nw a := fun nw => .inl ⟨i, ho⟩
  have hB : B a = none := R.out i a ho
  have hl1 : isLD d' = true := t.ld
  have hl0 : isLD d = true := by
    obtain ⟨_, ⟨d2, e2, hl⟩, _⟩ := ho
    rw [hi] at e2
    cases e2
    exact hl
  refine ⟨R.s0, fun b w eb => ?_, fun b h => ?_, by simp [R.len], fun j d2 e hd => ?_, fun j b o => R.out j b ((ownAt_some hi hl0 hl1).mp o), fun j k b o o' => R.sep j k b ((ownAt_some hi hl0 hl1).mp o) ((ownAt_some hi hl0 hl1).mp o'), fun j b o => R.tO j b ((ownAt_some hi hl0 hl1).mp o), R.st, fun b h hn => ?_, fun j d2 e hd h3 => ?_, fun j d2 e hd => (by
    have hj : j ≠ i := fun z => by subst z; rw [R.st.od j ho.1] at hd; exact absurd hd (by decide)
    rw [List.getElem?_set_ne (Ne.symm hj)] at e
    have nA : ¬ T a := R.tO i a ho
    rw [avd_some hi hl0 hl1]
    exact (R.sto j d2 e hd).carry rfl (carry_upd eu mu (av false)) (fun b u hb e => by
      rw [upd_ne fun z => by
        subst z
        revert hb
        cases ((mdAt md j).dp == 3) with
        | true => exact fun hb => nA hb.1
        | false =>
          rintro ⟨w, hw⟩
          obtain ⟨w', hw⟩ := R.s0 _ _ hw
          rw [hB] at hw
          cases hw]
      exact e) fun b x y => ⟨x, y⟩)⟩
  · have nb : b ≠ a := fun z => by subst z; rw [hB] at eb; cases eb
    rw [upd_ne nb]
    exact R.sB b w eb
  · by_cases z : b = a
    · subst z; exact ⟨o, upd_same⟩
    · rw [upd_ne z]; exact R.tB b h
  rotate_left
  · have z : b ≠ a := fun z => by subst z; exact R.tO i b ho h
    rw [upd_ne z]
    exact R.tM b h hn
  · have hj : j ≠ i := fun z => by subst z; exact hd (R.st.od j ho.1)
    rw [List.getElem?_set_ne (Ne.symm hj)] at e
    obtain ⟨v, ev, q⟩ := R.deep j d2 e hd h3
    have nA : ¬ T a := R.tO i a ho
    refine ⟨v, ev, q.carry (carry_upd eu mu fun z => nA z.1) fun b u h e => ⟨by rw [upd_ne fun z => by subst z; exact nA h.1]; exact e, h⟩⟩
  · rw [avd_some hi hl0 hl1]
    by_cases z : j = i
    · subst z
      have hl : j < env.length := (List.getElem?_eq_some_iff.mp hi).1
      rw [List.getElem?_set_self hl] at e
      cases e
      refine ⟨_, ho.2.2, ?_⟩
      unfold SlotOk
      rw [if_pos ho.1]
      exact .ofTop t
    · rw [List.getElem?_set_ne (Ne.symm z)] at e
      obtain ⟨v, ev, q⟩ := R.slot j d2 e hd
      refine ⟨v, ev, ?_⟩
      unfold SlotOk at *
      split at q
      · next h =>
        rw [if_pos h]
        refine q.carry (carry_upd eu mu (av _)) fun b w e1 hl eb => ?_
        subst e1
        have nb : b ≠ a := fun y => by
          subst y
          exact z (R.sep j i b ⟨h, ⟨d2, e, hl⟩, ev⟩ ho)
        rw [upd_ne nb]
        exact eb
      · next h => rw [if_neg h]; exact Rp.carry (carry_upd eu mu (av _)) d2 v q
/-- a new list or dict into a slot -/
theorem Rel.setOwn (R : Rel K md T H0 B H σ env) (s : Same H H') {i : Nat} {p : Addr} {d : D} {nw : Bool} (ho : (mdAt md i).own = true) (hw : ((mdAt md i).nw && !nw) = false) (n : H p = none) (t : Top (K.at T) H' (fun a => Avd md σ env T H0 nw a ∨ a = p) p d) :
    Rel K md T H0 B H' (σ.set i (some (.ref p))) (env.set i (some d)) := by
  have R' := R.same s
  have own : ∀ {j a}, OwnAt md (σ.set i (some (.ref p))) (env.set i (some d)) j a → (j ≠ i ∧ OwnAt md σ env j a) ∨ (j = i ∧ a = p) := fun {j a} o => by
    obtain ⟨h1, ⟨d', h2, hl'⟩, h3⟩ := o
    by_cases z : j = i
    · subst z
      refine .inr ⟨rfl, ?_⟩
      by_cases hl : j < σ.length
      · rw [List.getElem?_set_self hl] at h3
        cases h3
        rfl
      · rw [List.getElem?_eq_none (by simpa using hl)] at h3
        cases h3
    · rw [List.getElem?_set_ne (Ne.symm z)] at h2 h3
      exact .inl ⟨z, h1, ⟨d', h2, hl'⟩, h3⟩
  have av : ∀ {m a}, Avd md (σ.set i (some (.ref p))) (env.set i (some d)) T H0 m a → Avd md σ env T H0 m a ∨ a = p := fun {m a} h => by
    rcases h with ⟨j, o⟩ | h
    · rcases own o with ⟨_, o⟩ | ⟨_, e⟩
      · exact .inl (.inl ⟨j, o⟩)
      · exact .inr e
    · exact .inl (.inr h)
  have nB : B p = none := by
    cases e : B p with
    | none => rfl
    | some u => rw [R.sB _ _ e] at n; cases n
  -- the values that stood
  have car : ∀ m, Carry (K.at T) H H' (Avd md σ env T H0 m) (Avd md (σ.set i (some (.ref p))) (env.set i (some d)) T H0 m) := fun m =>
    ⟨fun a xs e => s _ _ e, fun a xs e => SqT.same s e, fun a xs e => SqF.same s e, fun a xs na e => ⟨fun z => (av z).elim na (fun y => ne_of_none e n y), s _ _ e⟩, fun a u na e => ⟨fun z => (av z).elim na fun y => Rd.ne e n y, Rd.same s e⟩⟩
  refine ⟨R.s0, R'.sB, R'.tB, by simp [R.len], fun j d2 e hd => ?_, fun j a o => ?_, fun j k a o o' => ?_, fun j a o => ?_, R.st, R'.tM, fun j d2 e hd => by
    have hj : j ≠ i := fun z => by subst z; exact hd (R.st.od j ho)
    rw [List.getElem?_set_ne (Ne.symm hj)] at e
    rw [List.getElem?_set_ne (Ne.symm hj)]
    exact R'.deep j d2 e hd, fun j d2 e hd => by
    have hj : j ≠ i := fun z => by subst z; rw [R.st.od j ho] at hd; exact absurd hd (by decide)
    rw [List.getElem?_set_ne (Ne.symm hj)] at e
    exact (R.sto j d2 e hd).carry rfl (car false) (fun a u _ => s a u) fun a x y => ⟨x, y⟩⟩
  · by_cases z : j = i
    · subst z
      by_cases hl : j < env.length
      · rw [List.getElem?_set_self hl] at e
        cases e
        refine ⟨_, List.getElem?_set_self (by rw [R.len]; exact hl), ?_⟩
        unfold SlotOk
        rw [if_pos ho]
        refine .ofTop (t.carry (.weak fun a z => ?_) fun _ u => u)
        rcases av z with z | z
        · refine .inl (Avd.mono (fun e => ?_) z)
          rw [e] at hw
          simpa using hw
        · exact .inr z
      · rw [List.getElem?_eq_none (by simpa using hl)] at e
        cases e
    · rw [List.getElem?_set_ne (Ne.symm z)] at e
      obtain ⟨v, ev, q⟩ := R.slot j d2 e hd
      refine ⟨v, by rw [List.getElem?_set_ne (Ne.symm z)]; exact ev, ?_⟩
      unfold SlotOk at *
      split at q
      · next h => rw [if_pos h]; exact q.carry (car _) fun a u _ _ => s a u
      · next h => rw [if_neg h]; exact Rp.carry (car _) d2 v q
  · rcases own o with ⟨_, o⟩ | ⟨_, e⟩
    · exact R.out j a o
    · subst e; exact nB
  · rcases own o with ⟨hj, o1⟩ | ⟨hj, e⟩ <;> rcases own o' with ⟨hk, o2⟩ | ⟨hk, e'⟩
    · exact R.sep j k a o1 o2
    · obtain ⟨u, eu⟩ := R.ownThere o1
      rw [e', n] at eu
      cases eu
    · obtain ⟨u, eu⟩ := R.ownThere o2
      rw [e, n] at eu
      cases eu
    · rw [hj, hk]
  · rcases own o with ⟨_, o⟩ | ⟨_, e⟩
    · exact R.tO j a o
    · subst e
      intro z
      obtain ⟨u, eu⟩ := R.tB _ z
      rw [n] at eu
      cases eu
theorem imm_ld {d : D} (h : imm d = true) : isLD d = false := by cases d <;> first | rfl | (unfold imm at h; cases h)
/-- a value without lists into a slot, owned or not -/
theorem Rel.setI (R : Rel K md T H0 B H σ env) {i : Nat} {v : V} {d : D} (hp : (mdAt md i).dp = 0) (im : imm d = true) (q : ∀ A, Rp (K.at T) H A v d) : Rel K md T H0 B H (σ.set i (some v)) (env.set i (some d)) := by
  cases ho : (mdAt md i).own with
  | false => exact R.setShared ho hp (q _)
  | true =>
    have hl := imm_ld im
    have own : ∀ {j a}, OwnAt md (σ.set i (some v)) (env.set i (some d)) j a → j ≠ i ∧ OwnAt md σ env j a := fun {j a} o => by
      obtain ⟨h1, ⟨d', h2, hl'⟩, h3⟩ := o
      by_cases z : j = i
      · subst z
        by_cases hlt : j < env.length
        · rw [List.getElem?_set_self hlt] at h2
          cases h2
          rw [hl] at hl'
          cases hl'
        · rw [List.getElem?_eq_none (by simpa using hlt)] at h2
          cases h2
      · rw [List.getElem?_set_ne (Ne.symm z)] at h2 h3
        exact ⟨z, h1, ⟨d', h2, hl'⟩, h3⟩
    have av : ∀ {m a}, Avd md (σ.set i (some v)) (env.set i (some d)) T H0 m a → Avd md σ env T H0 m a := fun {m a} h => by
      rcases h with ⟨j, o⟩ | h
      · exact .inl ⟨j, (own o).2⟩
      · exact .inr h
    refine ⟨R.s0, R.sB, R.tB, by simp [R.len], fun j d2 e hd => ?_, fun j a o => R.out j a (own o).2, fun j k a o o' => R.sep j k a (own o).2 (own o').2, fun j a o => R.tO j a (own o).2, R.st, R.tM, fun j d2 e hd h3 => ?_, fun j d2 e hd => (by
      have hj : j ≠ i := fun z => by subst z; rw [hp] at hd; exact absurd hd (by decide)
      rw [List.getElem?_set_ne (Ne.symm hj)] at e
      exact (R.sto j d2 e hd).weak fun _ => av)⟩
    · by_cases z : j = i
      · subst z
        by_cases hlt : j < env.length
        · rw [List.getElem?_set_self hlt] at e
          cases e
          refine ⟨v, List.getElem?_set_self (by rw [R.len]; exact hlt), ?_⟩
          unfold SlotOk
          rw [if_pos ho]
          exact ⟨(fun z => by rw [hl] at z; cases z), fun _ => ⟨im, q _⟩⟩
        · rw [List.getElem?_eq_none (by simpa using hlt)] at e
          cases e
      · rw [List.getElem?_set_ne (Ne.symm z)] at e
        obtain ⟨w, ev, q2⟩ := R.slot j d2 e hd
        refine ⟨w, by rw [List.getElem?_set_ne (Ne.symm z)]; exact ev, ?_⟩
        unfold SlotOk at *
        split at q2
        · next h => rw [if_pos h]; exact q2.carry (.weak fun _ => av) fun _ _ _ _ u => u
        · next h => rw [if_neg h]; exact q2.weak fun _ => av
    · have hj : j ≠ i := fun z => by subst z; exact hd hp
      rw [List.getElem?_set_ne (Ne.symm hj)] at e
      rw [List.getElem?_set_ne (Ne.symm hj)]
      exact R.deep j d2 e hd h3
/-- another base -/
theorem Sto.unbase {w : Bool} {A : Pred} {d : D} (S : Sto K T w A H0 B' H d) (s : Same B B') : Sto K T w A H0 B H d := S.carry rfl (.weak fun _ z => z) (fun _ _ _ z => z) fun a x y => ⟨x, by
  cases e : B a with
  | none => exact .inl e
  | some u =>
    rcases y with y | ⟨o, w, y⟩
    · rw [s _ _ e] at y; cases y
    · rw [s _ _ e] at y; cases y; exact .inr ⟨o, w, e⟩⟩
theorem Rel.unbase (R : Rel K md T H0 B' H σ env) (s0 : ∀ a o, H0 a = some o → ∃ u, B a = some u) (s : Same B B') : Rel K md T H0 B H σ env :=
  ⟨s0, s.trans R.sB, R.tB, R.len, R.slot, fun i a o => (by
    cases e : B a with
    | none => rfl
    | some u =>
      have := R.out i a o
      rw [s _ _ e] at this
      cases this), R.sep, R.tO, R.st, R.tM, fun i d e hd h3 => (by
    obtain ⟨v, ev, q⟩ := R.deep i d e hd h3
    have w : ∀ a, B' a = none → B a = none := fun a n => by
      cases e : B a with
      | none => rfl
      | some u => rw [s _ _ e] at n; cases n
    exact ⟨v, ev, q.carry (.weak fun a na z => na ⟨z.1, w a z.2⟩) fun a u h e => ⟨e, h.1, w a h.2⟩⟩), fun i d e hd => (R.sto i d e hd).unbase s⟩
open Classical in
noncomputable def baseOf (O : Pred) (H : Hp) : Hp := fun a => if O a then none else H a
theorem baseOf_none {O : Pred} {a : Addr} (h : O a) : baseOf O H a = none := by unfold baseOf; rw [if_pos h]
theorem baseOf_some {O : Pred} {a : Addr} (h : ¬ O a) : baseOf O H a = H a := by unfold baseOf; rw [if_neg h]
theorem Rel.rebase (R : Rel K md T H0 B H σ env) : Rel K md T H0 (baseOf (WrP md σ env T B) H) H σ env ∧ Same B (baseOf (WrP md σ env T B) H) := by
  have sB : Same B (baseOf (WrP md σ env T B) H) := fun a o e => by
    have no : ¬ WrP md σ env T B a := fun z => by
      rcases z with ⟨i, z⟩ | ⟨_, z⟩
      · have := R.out i a z
        rw [e] at this
        cases this
      · rw [e] at z
        cases z
    rw [baseOf_some no]
    exact R.sB _ _ e
  refine ⟨⟨fun a o e => ?_, fun a o e => ?_, R.tB, R.len, R.slot, fun i a o => baseOf_none (.inl ⟨i, o⟩), R.sep, R.tO, R.st, R.tM, fun i d e hd h3 => ?_, fun i d e hd => (R.sto i d e hd).carry rfl (.weak fun _ z => z) (fun _ _ _ z => z) fun a x y => ⟨x, y.imp (fun y => baseOf_none (.inr ⟨x, y⟩)) fun ⟨o, w, y⟩ => ⟨o, w, sB a _ y⟩⟩⟩, sB⟩
  · obtain ⟨u, e⟩ := R.s0 a o e
    exact ⟨u, sB _ _ e⟩
  · by_cases z : WrP md σ env T B a
    · rw [baseOf_none z] at e; cases e
    · rw [baseOf_some z] at e; exact e
  · obtain ⟨v, ev, q⟩ := R.deep i d e hd h3
    exact ⟨v, ev, q.carry (.weak fun a na z => na ⟨z.1, baseOf_none (.inr z)⟩) fun a u h e => ⟨e, h.1, baseOf_none (.inr h)⟩⟩
end
/-! ### statements -/
structure TIn (w : Bool) (T0 : TL) (B : Hp) (T : TL) : Prop where
  le : ∀ a, T0 a → T a
  out : ∀ a, T a → T0 a ∨ B a = none
  old : ∀ a, T0 a → ∃ u, B a = some u
  lp : ∀ (n : Nat) (a : Addr), T0.l[n]? = some a → T.l[n]? = some a
  lx : w = false → T.l = T0.l
theorem TIn.refl {w : Bool} {T : TL} {B : Hp} (o : ∀ a, T a → ∃ u, B a = some u) : TIn w T B T := ⟨fun _ z => z, fun _ z => .inl z, o, fun _ _ z => z, fun _ => rfl⟩
theorem TIn.unbase {w : Bool} {T0 T : TL} {B B' : Hp} (t : TIn w T0 B' T) (o : ∀ a, T0 a → ∃ u, B a = some u) (s : Same B B') : TIn w T0 B T := ⟨t.le, fun a z => (t.out a z).imp id fun n => (by
  cases e : B a with
  | none => rfl
  | some u => rw [s _ _ e] at n; cases n), o, t.lp, t.lx⟩
theorem TIn.rebase {w : Bool} {K : KM} {T0 T : TL} {H0 B H : Hp} {md : Mds} {σ : L2.St} {env : DEnv} (t : TIn w T0 B T) (R : Rel K md T H0 B H σ env) : TIn w T0 (baseOf (WrP md σ env T B) H) T := ⟨t.le, fun a z => (t.out a z).imp id fun n => baseOf_none (.inr ⟨z, n⟩), fun a z => by
  obtain ⟨u, e⟩ := t.old a z
  have no : ¬ WrP md σ env T B a := fun y => by
    rcases y with ⟨i, y⟩ | ⟨_, y⟩
    · exact R.tO i a y (t.le a z)
    · rw [e] at y; cases y
  exact ⟨u, by rw [baseOf_some no]; exact R.sB _ _ e⟩, t.lp, t.lx⟩
/-- the frame has a store -/
def hasW (md : Mds) : Bool := md.any fun m => m.dp == 3
theorem TIn.at {md : Mds} {K : KM} {T0 T : TL} {B : Hp} (t : TIn (hasW md) T0 B T) (h : hasW md = false) : K.at T = K.at T0 := by unfold KM.at; rw [t.lx h]
/-- a store as it is handed over -/
structure StoW (K : KM) (T : TL) (A : Pred) (H0 B H : Hp) (cs : D) : Prop where
  sto : Sto K T true A H0 B H cs
  tB : ∀ a, T a → ∃ o, H a = some o
  tM : ∀ a, T a → B a = none → ∃ u, H a = some u ∧ isMutO u = true
/-- what is handed back: a value; where the frame has a store, the value and the store as it then is -/
def FRm (K : KM) (w fr : Bool) (H0 B H : Hp) (T0 T : TL) (v : V) (d : D) : Prop := match w with
  | false => FR fr (K.at T0) H0 H T0 v d
  | true => ∃ dv cs : D, d = .tup [dv, cs] ∧ StoW K T (fun a => T.p a ∨ (fr = true ∧ isLD dv = true ∧ v = .ref a)) H0 B H cs ∧ (match fr with
    | true => Rpf (K.at T) H (fun a => T a ∨ ∃ o, H0 a = some o) v dv
    | false => Rp (K.at T) H T.p v dv)
theorem frm {md : Mds} {K : KM} {fr : Bool} {H0 B H : Hp} {T0 T : TL} {v : V} {d : D} (t0 : TIn (hasW md) T0 B T) (hw : hasW md = false) (h : FR fr (K.at T) H0 H T0 v d) : FRm K (hasW md) fr H0 B H T0 T v d := by
  rw [hw]
  rw [t0.at hw] at h
  exact h
/-- T0: what a value handed back must be beyond (at the entry); T: the same now, with what has come -/
def SP0 (K : KM) (W : WX) (md : Mds) (fr : Bool) (T0 : TL) (H0 B : Hp) (o : Out) (D : Ends) : Prop := match o with
  | .nx env' => ∀ T σ' H', TIn (hasW md) T0 B T → Rel K md T H0 B H' σ' env' → D.nx σ' H'
  | .bk env' => ∀ T σ' H', TIn (hasW md) T0 B T → Rel K md T H0 B H' σ' env' → D.bk σ' H'
  | .ct env' => ∀ T σ' H', TIn (hasW md) T0 B T → Rel K md T H0 B H' σ' env' → D.ct σ' H'
  | .rt d => ∀ T v H', TIn (hasW md) T0 B T → Same B H' → FRm K (hasW md) fr H0 B H' T0 T v d → D.rt v H'
  | .exc c fs env' => ∀ T cls dd σ' H', TIn (hasW md) T0 B T → Rel K md T H0 B H' σ' env' → ExcAt K H' c fs cls dd → W cls dd σ' H'
  | .bad => False
def tS (K : KM) (W : WX) (md : Mds) (fr : Bool) (f : DS) : TS := fun D σ H => ∃ (T0 T : TL) (H0 B : Hp) (env : DEnv), TIn (hasW md) T0 B T ∧ Rel K md T H0 B H σ env ∧ SP0 K W md fr T0 H0 B (f env) D
structure VS (X : Cx) (W : WX) (md : Mds) (fr : Bool) (st : Stmt) (f : DS) : Prop where
  run : PS X st (tS X.KM W md fr f)
structure VSs (X : Cx) (W : WX) (md : Mds) (fr : Bool) (sts : List Stmt) (f : DS) : Prop where
  run : PSs X sts (tS X.KM W md fr f)
theorem _root_.L2.PS.imp {X : Cx} {e : Stmt} {t t' : TS} (h : PS X e t) (i : ∀ D σ H, t' D σ H → t D σ H) : PS X e t' := ⟨fun pins s σ H D I w => h.run pins s σ H D I (i D σ H w)⟩
theorem _root_.L2.PSs.imp {X : Cx} {e : List Stmt} {t t' : TS} (h : PSs X e t) (i : ∀ D σ H, t' D σ H → t D σ H) : PSs X e t' := ⟨fun pins s σ H D I w => h.run pins s σ H D I (i D σ H w)⟩
def RG.out {α : Type} (r : RG α) (env : DEnv) (k : α → Out) : Out := match r with
  | .ok a => k a
  | .exc c fs => .exc c fs env
  | .bad => .bad
section
variable {X : Cx} {W : WX} {md : Mds} {fr st nw sa na sb nb bo : Bool} {e a b tg : Expr} {f fa fb : DX} {pos : Pos} {es : List Expr} {fs : DXs} {g h : DS} {s1 : Stmt} {ss : List Stmt}
variable {T0 T : TL} {H0 B H H' : Hp} {σ : L2.St} {env : DEnv} {K : KM}
/-- from a statement's outcome to the outcome of an expression in it -/
theorem out_of {α β : Type} {r : RG α} {k : α → Out} {D : Ends} (t0 : TIn (hasW md) T0 B T) (R : Rel K md T H0 B H σ env) (p : SP0 K W md fr T0 H0 B (r.out env k) D) : EP0 (β := β) K W σ H r fun a _ H' => SP0 K W md fr T0 H0 B (k a) D := by
  cases r with
  | ok a => exact fun _ _ _ => p
  | exc c fs => exact fun cls dd H' s x => p T cls dd σ H' t0 (R.same s) x
  | bad => exact p
def dNext : DS := fun env => .nx env
def dSeq (f g : DS) : DS := fun env => match f env with
  | .nx e => g e
  | o => o
theorem vs_nil : VSs X W md fr [] dNext := ⟨pss_nil.imp fun D σ H ⟨T0, T, H0, B, env, t0, R, p⟩ => p T σ H t0 R⟩
theorem vs_cons (h1 : VS X W md fr s1 g) (h2 : VSs X W md fr ss h) : VSs X W md fr (s1 :: ss) (dSeq g h) := ⟨(pss_cons h1.run h2.run).imp fun D σ H ⟨T0, T, H0, B, env, t0, R, p⟩ => ⟨T0, T, H0, B, env, t0, R, by
  unfold dSeq at p
  cases e : g env with
  | nx env' => rw [e] at p; exact fun T' σ' H' t' R' => ⟨T0, T', H0, B, env', t', R', p⟩
  | _ => rw [e] at p; exact p⟩⟩
theorem vs_pass : VS X W md fr (.Pass pos) dNext := ⟨ps_pass.imp fun D σ H ⟨T0, T, H0, B, env, t0, R, p⟩ => p T σ H t0 R⟩
def dBreak : DS := fun env => .bk env
def dCont : DS := fun env => .ct env
theorem vs_break : VS X W md fr (.Break pos) dBreak := ⟨ps_break.imp fun D σ H ⟨T0, T, H0, B, env, t0, R, p⟩ => p T σ H t0 R⟩
theorem vs_cont : VS X W md fr (.Continue pos) dCont := ⟨ps_continue.imp fun D σ H ⟨T0, T, H0, B, env, t0, R, p⟩ => p T σ H t0 R⟩
def dDrop (f : DX) : DS := fun env => (f env).out env fun _ => .nx env
theorem vs_expr (he : VE X W md st nw e f) (hs : swapsWith e none pos.line X.env = pure false) : VS X W md fr (.Expr e pos) (dDrop f) :=
  ⟨(ps_expr he.run hs).imp fun D σ H ⟨T0, T, H0, B, env, t0, R, p⟩ => ⟨T, H0, B, env, R, (out_of t0 R p).mono fun d v H' s _ q _ => q T σ H' t0 (R.same s)⟩⟩
def dSet (i : Nat) (f : DX) : DS := fun env => (f env).out env fun d => .nx (env.set i (some d))
theorem vs_set {i : Nat} {x : Str} {pos' : Pos} (hN : X.N.Nodup) (hi : X.N[i]? = some x) (hx : Loc X.env.scope x) (hf : X.fn x = true ∨ X.env.scope.names.lookup x = some .local) (he : VE X W md true nw e f) (hs : swapsWith e (some (.Name x pos')) pos.line X.env = pure false)
    (ho : (mdAt md i).own = false) (hp : (mdAt md i).dp = 0) (hw : ((mdAt md i).nw && !nw) = false) : VS X W md fr (.Assign [.Name x pos'] e pos) (dSet i f) :=
  ⟨(ps_set hN hi hx he.run hs hf).imp fun D σ H ⟨T0, T, H0, B, env, t0, R, p⟩ => ⟨T, H0, B, env, R, (out_of t0 R p).mono fun d v H' s _ q r => q T _ H' t0 ((R.same s).setShared ho hp (r.strict.weak fun a z => Avd.mono (fun e => by rw [e] at hw; simpa using hw) z))⟩⟩
theorem set_reading {i : Nat} {D : Ends} (ho : (mdAt md i).own = true) (hw : ((mdAt md i).nw && !nw) = false) (w : tS K W md fr (dSet i f) D σ H) : tDF K W md nw f σ H fun v H' => gName i v σ H' D.nx := by
  obtain ⟨T0, T, H0, B, env, t0, R, p⟩ := w
  exact ⟨T, H0, B, env, R, (out_of t0 R p).mono fun d v H' s _ q ⟨x, ex, nx, t⟩ => by subst ex; exact q T _ H' t0 (R.setOwn s ho hw nx t)⟩
theorem set_readingS {i : Nat} {D : Ends} (ho : (mdAt md i).own = false) (hp : (mdAt md i).dp = 0) (hw : ((mdAt md i).nw && !nw) = false) (w : tS K W md fr (dSet i f) D σ H) : tDF K W md nw f σ H fun v H' => gName i v σ H' D.nx := by
  obtain ⟨T0, T, H0, B, env, t0, R, p⟩ := w
  exact ⟨T, H0, B, env, R, (out_of t0 R p).mono fun d v H' s _ q ⟨x, ex, nx, t⟩ => by
    subst ex
    refine q T _ H' t0 ((R.same s).setShared ho hp ((t.rpA (newA (fun a z => R.avdThere z) nx)).weak fun a z => Avd.mono (fun e => ?_) z))
    rw [e] at hw
    simpa using hw⟩
theorem vs_setF {i : Nat} {x : Str} {pos' : Pos} (hN : X.N.Nodup) (hi : X.N[i]? = some x) (hx : Loc X.env.scope x) (hf : X.fn x = true ∨ X.env.scope.names.lookup x = some .local) (he : VF X W md nw e f) (hs : swapsWith e (some (.Name x pos')) pos.line X.env = pure false)
    (ho : (mdAt md i).own = true) (hw : ((mdAt md i).nw && !nw) = false) : VS X W md fr (.Assign [.Name x pos'] e pos) (dSet i f) :=
  ⟨(ps_set hN hi hx he.run hs hf).imp fun D σ H w => set_reading ho hw w⟩
/-- x = [..] on one line -/
theorem vs_setLc {i : Nat} {x : Str} {pos' : Pos} {elt iter : Expr} {ifs : List Expr} {scope : Scope} {own : List (Str × Nat)} {src : DXs} {gd : D → DEnv → Option DEnv} {tt fe : DX} {sl : List Nat} {spos : Pos} (hc : X.calm = true) (hN : X.N.Nodup) (hy : X.N[i]? = some x) (hyl : X.env.scope.names.lookup x = some .local)
    (hsw : swapsWith (.ListComp elt [⟨tg, iter, ifs, 0⟩] scope pos) (some (.Name x pos')) spos.line X.env = pure true) (hi : VI X W md bo na tg iter src) (ok : BlkOk X.N X.env.scope scope own)
    (hsh : shAll md (own.map (·.2)) = true) (hsl : ∀ j ∈ sl, j ∈ own.map (·.2))
    (hg : ∀ (s : Shared) (H : Hp) (C : Addr) (cl : List (Str × Addr)) (fp : List Addr), VG (X.blk s H scope (compEnvC scope cl C X.env) fp) md na tg gd sl)
    (ht : ∀ (s : Shared) (H : Hp) (C : Addr) (cl : List (Str × Addr)) (fp : List Addr), VTs (X.blk s H scope (compEnvC scope cl C X.env) fp) W0 md ifs tt)
    (he : ∀ (s : Shared) (H : Hp) (C : Addr) (cl : List (Str × Addr)) (fp : List Addr), VE (X.blk s H scope (compEnvC scope cl C X.env) fp) W0 md true nw elt fe) (hs : ∀ x, foldedSetIterable iter X.env x = pure x)
    (hp : (mdAt md i).dp = 0) (hw : ((mdAt md i).nw && !nw) = false) : VS X W md fr (.Assign [.Name x pos'] (.ListComp elt [⟨tg, iter, ifs, 0⟩] scope pos) spos) (dSet i (dComp src gd tt fe (own.map (·.2)))) :=
  ⟨(ps_setLc (g := tDG X.KM md na gd sl) (tt := tDT X.KM W0 md tt) (te := tD X.KM W0 md true nw fe) hc hN hy hyl hsw hi.run ok (fun s H C cl fp => (hg s H C cl fp).run) (fun s H C cl fp => (ht s H C cl fp).run) (fun s H C cl fp => (he s H C cl fp).run) hs).imp fun D σ H w =>
    comp_reading (bo := bo) hsh hsl (by
      cases ho : (mdAt md i).own with
      | true => exact set_reading ho hw w
      | false => exact set_readingS ho hp hw w)⟩
/-- a value without lists -/
theorem vs_setI {i : Nat} {x : Str} {pos' : Pos} (hN : X.N.Nodup) (hi : X.N[i]? = some x) (hx : Loc X.env.scope x) (hf : X.fn x = true ∨ X.env.scope.names.lookup x = some .local) (he : VE X W md st nw e f) (hs : swapsWith e (some (.Name x pos')) pos.line X.env = pure false)
    (hp : (mdAt md i).dp = 0) : VS X W md fr (.Assign [.Name x pos'] e pos) (dSet i (dImm f)) :=
  ⟨(ps_set hN hi hx he.run hs hf).imp fun D σ H ⟨T0, T, H0, B, env, t0, R, p⟩ => ⟨T, H0, B, env, R, by
    unfold dSet dImm at p
    cases ef : f env with
    | bad => rw [ef] at p; exact p.elim
    | exc c fs => rw [ef] at p; exact fun cls dd H' s x => p T cls dd σ H' t0 (R.same s) x
    | ok d =>
      rw [ef] at p
      have p : SP0 X.KM W md fr T0 H0 B ((if imm d then RG.ok d else RG.bad).out env fun d => .nx (env.set i (some d))) D := p
      by_cases im : imm d = true
      case neg => rw [if_neg im] at p; exact p.elim
      rw [if_pos im] at p
      exact fun v H' s r => p T _ H' t0 ((R.same s).setI hp im fun A => Rp.imm _ _ r.free im)⟩⟩
def dIfS (c : DX) (f g : DS) : DS := fun env => (c env).out env fun d => match d with
  | .bl true => f env
  | .bl false => g env
  | _ => .bad
theorem vs_if {c : Expr} {fc : DX} {b1 b2 : List Stmt} (hc : VT X W md c fc) (ha : VSs X W md fr b1 g) (hb : VSs X W md fr b2 h) : VS X W md fr (.If c b1 b2 pos) (dIfS fc g h) :=
  ⟨(ps_if hc.run ha.run hb.run).imp fun D σ H ⟨T0, T, H0, B, env, t0, R, p⟩ => ⟨T, H0, B, env, R, (out_of t0 R p).mono fun d v H' s _ q => by
    cases d with
    | bl k =>
      refine ⟨k, rfl, ?_⟩
      cases k with
      | true => exact ⟨T0, T, H0, B, env, t0, R.same s, q⟩
      | false => exact ⟨T0, T, H0, B, env, t0, R.same s, q⟩
    | _ => exact q.elim⟩⟩
/-! ### return -/
def dRet (f : DX) : DS := fun env => (f env).out env fun d => .rt d
theorem vs_ret (hw : hasW md = false) (he : VE X W md true nw e f) : VS X W md false (.Return (some e) pos) (dRet f) :=
  ⟨(ps_ret he.run).imp fun D σ H ⟨T0, T, H0, B, env, t0, R, p⟩ => ⟨T, H0, B, env, R, (out_of t0 R p).mono fun d v H' s _ q r => q T v H' t0 (R.sB.trans s) (frm t0 hw (show Rp (X.KM.at T) H' T0.p v d from r.strict.weak fun a z => .inr (.inl (t0.le a z))))⟩⟩
theorem Rp.nonI {K : KF} {A : Pred} : Rp K H A .non .non := by unfold Rp; rfl
theorem FR.non {K : KF} {T0 : Pred} : FR fr K H0 H T0 .non .non := by
  cases fr with
  | false => exact (Rp.nonI : Rp K H T0 .non .non)
  | true => exact (Rp.nonI : Rp K H (fun a => ∃ o, H0 a = some o) .non .non)
theorem vs_retN (hw : hasW md = false) : VS X W md fr (.Return none pos) (fun _ => .rt .non) :=
  ⟨ps_retN.imp fun D σ H ⟨T0, T, H0, B, env, t0, R, p⟩ => p T .non H t0 R.sB (frm t0 hw FR.non)⟩
theorem Rp.rpf {K : KF} {A : Pred} {v : V} {d : D} (r : Rp K H A v d) (n : isLD d = false) : Rpf K H A v d := by
  cases d with
  | lst _ => cases n
  | dic _ _ _ => cases n
  | _ => exact r
/-- a value that is no list or dict on top, nothing old within -/
def dRetV (f : DX) : DS := fun env => (f env).out env fun d => if isLD d then .bad else .rt d
theorem vs_retV (hw : hasW md = false) (he : VE X W md true true e f) : VS X W md true (.Return (some e) pos) (dRetV f) :=
  ⟨(ps_ret he.run).imp fun D σ H ⟨T0, T, H0, B, env, t0, R, p⟩ => ⟨T, H0, B, env, R, (out_of t0 R p).mono fun d v H' s _ q r => by
    cases hl : isLD d with
    | true => rw [hl, if_pos rfl] at q; exact q.elim
    | false =>
      rw [hl, if_neg Bool.false_ne_true] at q
      exact q T v H' t0 (R.sB.trans s) (frm t0 hw (show Rpf (X.KM.at T) H' _ v d from Rp.rpf (r.strict.weak fun a z => .inr (.inr ⟨rfl, z⟩)) hl))⟩⟩
/-- a value without lists and dicts -/
theorem vs_retI (hw : hasW md = false) (he : VE X W md st nw e f) : VS X W md true (.Return (some e) pos) (dRet (dImm f)) :=
  ⟨(ps_ret he.imm.run).imp fun D σ H ⟨T0, T, H0, B, env, t0, R, p⟩ => ⟨T, H0, B, env, R, (out_of t0 R p).mono fun d v H' s eq q r => by
    have hi : imm d = true := by
      unfold dImm at eq
      cases e : f env with
      | ok d' =>
        rw [e] at eq
        have eq : (if imm d' then RG.ok d' else RG.bad) = RG.ok d := eq
        split at eq
        · next h => cases eq; exact h
        · cases eq
      | exc c fs => rw [e] at eq; cases eq
      | bad => rw [e] at eq; cases eq
    have hl : isLD d = false := by cases d <;> first | rfl | (unfold imm at hi; cases hi)
    exact q T v H' t0 (R.sB.trans s) (frm t0 hw (show Rpf (X.KM.at T) H' _ v d from Rp.rpf (r.strict.weak fun a z => .inr (.inr ⟨rfl, z⟩)) hl))⟩⟩
theorem Top.rpf {K : KF} {A A' : Pred} {a : Addr} {d : D} (t : Top K H A a d) (m : ∀ b, A' b ∨ b = a → A b) (n : ¬ A' a) : Rpf K H A' (.ref a) d := by
  cases d with
  | lst ds => exact ⟨a, rfl, n, t.carry (.weak m) fun _ u => u⟩
  | dic b ks ws => exact ⟨a, rfl, n, t.carry (.weak m) fun _ u => u⟩
  | non => exact t.elim
  | bl _ => exact t.elim
  | int _ => exact t.elim
  | str _ => exact t.elim
  | tup _ => exact t.elim
  | frl _ => exact t.elim
  | ktp _ => exact t.elim
  | obj _ => exact t.elim
/-- a new list or dict -/
theorem vs_retF (hw : hasW md = false) (he : VF X W md true e f) : VS X W md true (.Return (some e) pos) (dRet f) :=
  ⟨(ps_ret he.run).imp fun D σ H ⟨T0, T, H0, B, env, t0, R, p⟩ => ⟨T, H0, B, env, R, (out_of t0 R p).mono fun d v H' s _ q ⟨x, ex, nx, t⟩ => by
    subst ex
    refine q T _ H' t0 (R.sB.trans s) (frm t0 hw (show Rpf (X.KM.at T) H' (fun a => ∃ o, H0 a = some o) _ d from t.rpf (fun b z => ?_) fun ⟨o, z⟩ => ?_))
    · rcases z with z | z
      · exact .inl (.inr (.inr ⟨rfl, z⟩))
      · exact .inr z
    · obtain ⟨u, z⟩ := R.s0 _ _ z
      rw [R.sB _ _ z] at nx
      cases nx⟩⟩
/-- an owned list or dict is handed back -/
theorem vs_retO {i : Nat} {x : Str} {p2 : Pos} (hN : X.N[i]? = some x) (hv : Vis X.env.scope x) (hd : (x == ("__debug__" : Str)) = false) (hcd : (x == ("__classdict__" : Str)) = false) (ho : (mdAt md i).own = true) (hw : (mdAt md i).nw = true) (hW : hasW md = false) :
    VS X W md true (.Return (some (.Name x p2)) pos) (dRet (dVar i)) :=
  ⟨(ps_ret (pe_var hN hv hd hcd)).imp fun D σ H ⟨T0, T, H0, B, env, t0, R, p⟩ => by
    unfold dRet dVar at p
    cases e : env[i]? with
    | none => rw [e] at p; exact p.elim
    | some o =>
      cases o with
      | none => rw [e] at p; exact p.elim
      | some d =>
        rw [e] at p
        cases hl : isLD d with
        | false =>
          obtain ⟨v, ev, i, r⟩ := R.ownedI e ho hl
          exact ⟨_, ev, p T _ H t0 R.sB (frm t0 hW (show Rpf (X.KM.at T) H (fun a => ∃ o, H0 a = some o) _ d from Rp.rpf (Rp.imm _ _ r i) hl))⟩
        | true =>
        obtain ⟨a, ev, oa, t⟩ := R.owned e ho hl
        refine ⟨_, ev, p T _ H t0 R.sB (frm t0 hW (show Rpf (X.KM.at T) H (fun a => ∃ o, H0 a = some o) _ d from t.rpf (fun b z => ?_) fun ⟨o, z⟩ => ?_))⟩
        · rcases z with z | z
          · exact .inr (.inr ⟨hw, z⟩)
          · subst z; exact .inl ⟨i, oa⟩
        · obtain ⟨u, z⟩ := R.s0 _ _ z
          rw [R.out i a oa] at z
          cases z⟩
end
end Dl
/-! Dl8: loops, stores, defs. -/
namespace Dl
open PySem PySem.Spec PyProof.Rows L2 RZ RT
section
variable {X : Cx} {W : WX} {md : Mds} {fr st nw sa na sb nb bo : Bool} {e a b tg : Expr} {f fa fb : DX} {pos : Pos} {es : List Expr} {fs : DXs} {g h : DS} {s1 : Stmt} {ss : List Stmt}
variable {T0 T : TL} {H0 B H H' : Hp} {σ : L2.St} {env : DEnv} {K : KM}
/-! ### for -/
def forGo (gd : D → DEnv → Option DEnv) (body : DS) (ks : List Nat) : List D → DS
  | [], env => .nx env
  | d :: r, env => match gd d env with
    | none => .bad
    | some e1 => match body e1 with
      | .nx e2 => forGo gd body ks r (killD e2 ks)
      | .ct e2 => forGo gd body ks r (killD e2 ks)
      | .bk e2 => .nx e2
      | o => o
def dFor (src : DXs) (gd : D → DEnv → Option DEnv) (body : DS) (ks : List Nat) : DS := fun env => (src env).out env fun ds => forGo gd body ks ds env
theorem FRm.unbase {w fr : Bool} {B' : Hp} {v : V} {d : D} (o : ∀ a, T0 a → ∃ u, B a = some u) (t : TIn w T0 B' T) (s : Same B B') (h : FRm K w fr H0 B' H T0 T v d) : FRm K w fr H0 B H T0 T v d := by
  cases w with
  | false => exact h
  | true =>
    obtain ⟨dv, cs, e, S, q⟩ := h
    refine ⟨dv, cs, e, ⟨S.sto.unbase s, S.tB, fun a ha hb => S.tM a ha ?_⟩, q⟩
    rcases t.out a ha with z | z
    · obtain ⟨u, z⟩ := o a z
      rw [hb] at z
      cases z
    · exact z
theorem SP0.unbase {o : Out} {B' : Hp} {D : Ends} (s0 : ∀ a o, H0 a = some o → ∃ u, B a = some u) (o0 : ∀ a, T0 a → ∃ u, B a = some u) (s : Same B B') (p : SP0 K W md fr T0 H0 B o D) : SP0 K W md fr T0 H0 B' o D := by
  cases o with
  | nx e => exact fun T σ' H' t R => p T σ' H' (t.unbase o0 s) (R.unbase s0 s)
  | bk e => exact fun T σ' H' t R => p T σ' H' (t.unbase o0 s) (R.unbase s0 s)
  | ct e => exact fun T σ' H' t R => p T σ' H' (t.unbase o0 s) (R.unbase s0 s)
  | rt d => exact fun T v H' t s' q => p T v H' (t.unbase o0 s) (s.trans s') (q.unbase o0 t s)
  | exc c fs e => exact fun T cls dd σ' H' t R x => p T cls dd σ' H' (t.unbase o0 s) (R.unbase s0 s) x
  | bad => exact p
theorem TIn.self {w : Bool} {T0 T : TL} {B : Hp} (t : TIn w T0 B T) : TIn w ⟨T0.p, T.l⟩ B T := ⟨t.le, t.out, t.old, fun _ _ z => z, fun _ => rfl⟩
theorem TIn.raise {w : Bool} {T0 T T' : TL} {B : Hp} (t : TIn w T0 B T) (t' : TIn w ⟨T0.p, T.l⟩ B T') : TIn w T0 B T' := ⟨t'.le, t'.out, t'.old, fun n a h => t'.lp n a (t.lp n a h), fun h => (t'.lx h).trans (t.lx h)⟩
theorem TIn.grow {w : Bool} {K : KM} {T0 T T' : TL} {B H : Hp} {A : Pred} {v : V} {d : D} (t : TIn w T0 B T') (e : T0.l = T.l) (r : Rp (K.at T) H A v d) : Rp (K.at T') H A v d := Rp.grow (K := K.at T) (K' := K.at T') rfl (fun n a h => t.lp n a (by rw [e]; exact h)) d v r
theorem SP0.raise {o : Out} {D : Ends} (t : TIn (hasW md) T0 B T) (p : SP0 K W md fr T0 H0 B o D) : SP0 K W md fr ⟨T0.p, T.l⟩ H0 B o D := by
  cases o with
  | nx e => exact fun T' σ' H' t' R => p T' σ' H' (t.raise t') R
  | bk e => exact fun T' σ' H' t' R => p T' σ' H' (t.raise t') R
  | ct e => exact fun T' σ' H' t' R => p T' σ' H' (t.raise t') R
  | rt d => exact fun T' v H' t' s q => p T' v H' (t.raise t') s (by
      cases hw : hasW md with
      | true => rw [hw] at q; exact q
      | false =>
        rw [hw] at q
        have e : K.at (⟨T0.p, T.l⟩ : TL) = K.at T0 := by unfold KM.at; rw [t.lx hw]
        have q : FR fr (K.at (⟨T0.p, T.l⟩ : TL)) H0 H' T0.p v d := q
        rw [e] at q
        exact q)
  | exc c fs e => exact fun T' cls dd σ' H' t' R x => p T' cls dd σ' H' (t.raise t') R x
  | bad => exact p
theorem vs_for {iter : Expr} {body : List Stmt} {src : DXs} {gd : D → DEnv → Option DEnv} {sl ks : List Nat} (hp : PassesOwn (model X.prog X.w) X.A X.env X.xe) (hc : X.calm = true) (hi : VI X W md false na tg iter src) (hg : VG X md na tg gd sl) (hb : VSs X W md fr body g)
    (hs : ∀ x, foldedSetIterable iter X.env x = pure x) : VS X W md fr (.For tg iter body [] pos) (dFor src gd g ks) := by
  refine ⟨(ps_for hp hc hi.run hg.run hb.run hs).imp fun D σ H ⟨T0, T, H0, B, env, t0, R, p⟩ => ⟨T, H0, B, env, R, (out_of t0 R p).mono fun ds _ H1 s1 _ p1 => fun J it => ?_⟩⟩
  obtain ⟨T0, p1, t0, el⟩ : ∃ T0' : TL, SP0 X.KM W md fr T0' H0 B (forGo gd g ks ds env) D ∧ TIn (hasW md) T0' B T ∧ T0'.l = T.l := ⟨⟨T0.p, T.l⟩, p1.raise t0, t0.self, rfl⟩
  obtain ⟨G, Y, w, hG, hY⟩ := it.ex
  have R1 := R.same s1
  obtain ⟨Rb, sBB⟩ := R1.rebase
  have s0B := R.s0
  have nO : ∀ {a : Addr}, ¬ (False ∨ WrP md σ env T B a) → ¬ WrP md σ env T B a := fun z y => z (.inr y)
  have stay : ∀ {H2 : Hp}, Same (baseOf (WrP md σ env T B) H1) H2 → Stay (fun a => false = false ∧ WrP md σ env T B a) H1 H2 := fun s a o na e => s a o (by rw [baseOf_some (fun z => na ⟨rfl, z⟩)]; exact e)
  refine for_it w (fun i σ' H' => ∃ T' env', TIn (hasW md) T0 (baseOf (WrP md σ env T B) H1) T' ∧ Rel X.KM md T' H0 (baseOf (WrP md σ env T B) H1) H' σ' env' ∧ SP0 X.KM W md fr T0 H0 B (forGo gd g ks (ds.drop i) env') D) ⟨T, env, t0.rebase R1, Rb, p1⟩ (fun i σ' H' _ ⟨T', env', _, R', _⟩ => hG H' (stay R'.sB)) ?_ ?_
  · rintro i x σ2 H2 H3 hi ⟨T', env', t', R', q⟩ y
    obtain ⟨d, hd⟩ : ∃ d, ds[i]? = some d := ⟨ds[i], List.getElem?_eq_getElem hi⟩
    obtain ⟨s3, rx⟩ := hY i H2 x H3 d (stay R'.sB) y hd
    have rx := rx (fun a => H1 a = none) (fun a z => z)
    have hdrop : ds.drop i = d :: ds.drop (i + 1) := by
      obtain ⟨h1, h2⟩ := List.getElem?_eq_some_iff.mp hd
      rw [List.drop_eq_getElem_cons h1, h2]
    rw [hdrop] at q
    unfold forGo at q
    refine ⟨T', H0, _, env', d, R'.same s3, (t'.grow el rx).weak fun a z => ?_, ?_⟩
    · have fin : baseOf (WrP md σ env T B) H1 a = none → Avd md σ env T H0 na a ∨ H1 a = none := fun this => by
        by_cases z : WrP md σ env T B a
        · exact .inl z.avd
        · rw [baseOf_some z] at this
          exact .inr this
      rcases z with ⟨j, o⟩ | z | z
      · exact fin (R'.out j a o)
      · rcases t'.out a z with z | z
        · exact .inl (.inr (.inl (t0.le a z)))
        · exact fin z
      · exact .inl (.inr (.inr z))
    · cases eg : gd d env' with
      | none => rw [eg] at q; exact q.elim
      | some e1 =>
        rw [eg] at q
        intro σ4 R4 a4 w4
        refine ⟨T0, T', H0, _, e1, t', R4, ?_⟩
        have q : SP0 X.KM W md fr T0 H0 B (match g e1 with
          | .nx e2 => forGo gd g ks (ds.drop (i + 1)) (killD e2 ks)
          | .ct e2 => forGo gd g ks (ds.drop (i + 1)) (killD e2 ks)
          | .bk e2 => .nx e2
          | o => o) D := q
        cases eb : g e1 with
        | nx e2 => rw [eb] at q; exact fun T5 σ5 H5 t5 R5 => ⟨T5, killD e2 ks, t5, R5.killD ks, q⟩
        | ct e2 => rw [eb] at q; exact fun T5 σ5 H5 t5 R5 => ⟨T5, killD e2 ks, t5, R5.killD ks, q⟩
        | bk e2 => rw [eb] at q; exact fun T5 σ5 H5 t5 R5 => q T5 σ5 H5 (t5.unbase t0.old sBB) (R5.unbase s0B sBB)
        | rt d => rw [eb] at q; exact fun T5 v H' t5 s' z => q T5 v H' (t5.unbase t0.old sBB) (sBB.trans s') (z.unbase t0.old t5 sBB)
        | exc c fs e2 => rw [eb] at q; exact fun T5 cls dd σ' H' t5 R' x => q T5 cls dd σ' H' (t5.unbase t0.old sBB) (R'.unbase s0B sBB) x
        | bad => rw [eb] at q; exact q
  · rintro σ' H' ⟨T', env', t', R', q⟩
    rw [List.drop_length] at q
    exact q T' σ' H' (t'.unbase t0.old sBB) (R'.unbase s0B sBB)
/-- over an own list that is asked no more: it is gone behind the loop -/
def dForC (i : Nat) (gd : D → DEnv → Option DEnv) (body : DS) (ks : List Nat) : DS := fun env => match env[i]? with
  | some (some (.lst ds)) => forGo gd body ks ds (env.set i none)
  | _ => .bad
theorem vs_forC {i0 : Nat} {x0 : Str} {p0 : Pos} {body : List Stmt} {gd : D → DEnv → Option DEnv} {sl ks : List Nat} (hp : PassesOwn (model X.prog X.w) X.A X.env X.xe) (hc : X.calm = true) (hN : X.N[i0]? = some x0) (hv : Vis X.env.scope x0) (hd : (x0 == ("__debug__" : Str)) = false) (hcd : (x0 == ("__classdict__" : Str)) = false) (ho : (mdAt md i0).own = true)
    (hg : VG X md (mdAt md i0).nw tg gd sl) (hb : VSs X W md fr body g) (hs : ∀ x, foldedSetIterable (.Name x0 p0) X.env x = pure x) : VS X W md fr (.For tg (.Name x0 p0) body [] pos) (dForC i0 gd g ks) := by
  refine ⟨(ps_for hp hc (pi_list (tg := tg) (pe_var (pos := p0) hN hv hd hcd)) hg.run hb.run hs).imp fun D σ H1 ⟨T0, T, H0, B, env0, t0, R0, p⟩ => ?_⟩
  unfold dForC at p
  cases hl : env0[i0]? with
  | none => rw [hl] at p; exact p.elim
  | some o =>
  cases o with
  | none => rw [hl] at p; exact p.elim
  | some d0 =>
  cases d0 with
  | lst ds =>
    obtain ⟨a0, ev0, oa0, t00⟩ := R0.owned hl ho rfl
    rw [hl] at p
    have p1 : SP0 X.KM W md fr T0 H0 B (forGo gd g ks ds (env0.set i0 none)) D := p
    obtain ⟨vs, ea, rs⟩ := t00
    have R1 := R0.killAny i0
    have av : ∀ {n b}, Avd md σ (env0.set i0 none) T H0 n b → Avd md σ env0 T H0 n b := fun {n b} h => by
      rcases h with ⟨k, o⟩ | h
      · exact .inl ⟨k, ownAt_kill o⟩
      · exact .inr h
    have nOwn : ¬ WrP md σ (env0.set i0 none) T B a0 := fun z => by
      rcases z with ⟨k, o⟩ | ⟨z, _⟩
      rotate_left
      · exact R0.tO _ _ oa0 z
      have e := R0.sep _ _ _ (ownAt_kill o) oa0
      subst e
      obtain ⟨_, ⟨d', h2, _⟩, _⟩ := o
      exact (kill_lookup h2).1 rfl
    have itd : ItD (X.KM.at T) (fun a => false = false ∧ WrP md σ (env0.set i0 none) T B a) (Avd md σ (env0.set i0 none) T H0 (mdAt md i0).nw) H1 (Itl X.K a0) ds :=
      itd_at walk_list (fun H2 z => SqL.of (z a0 _ (fun q => nOwn q.2) ea)) (rs.weak fun _ z => av z) (own_stay (bo := false) R1 (Same.refl _))
    refine ⟨_, ev0, a0, rfl, ⟨vs, SqL.of ea⟩, ?_⟩
    revert R1 p1 itd
    generalize env0.set i0 none = env
    intro p1 R1 it
    obtain ⟨T0, p1, t0, el⟩ : ∃ T0' : TL, SP0 X.KM W md fr T0' H0 B (forGo gd g ks ds env) D ∧ TIn (hasW md) T0' B T ∧ T0'.l = T.l := ⟨⟨T0.p, T.l⟩, p1.raise t0, t0.self, rfl⟩
    obtain ⟨G, Y, w, hG, hY⟩ := it.ex
    obtain ⟨Rb, sBB⟩ := R1.rebase
    have s0B := R1.s0
    have nO : ∀ {a : Addr}, ¬ (False ∨ WrP md σ env T B a) → ¬ WrP md σ env T B a := fun z y => z (.inr y)
    have stay : ∀ {H2 : Hp}, Same (baseOf (WrP md σ env T B) H1) H2 → Stay (fun a => false = false ∧ WrP md σ env T B a) H1 H2 := fun s a o na e => s a o (by rw [baseOf_some (fun z => na ⟨rfl, z⟩)]; exact e)
    refine for_it w (fun i σ' H' => ∃ T' env', TIn (hasW md) T0 (baseOf (WrP md σ env T B) H1) T' ∧ Rel X.KM md T' H0 (baseOf (WrP md σ env T B) H1) H' σ' env' ∧ SP0 X.KM W md fr T0 H0 B (forGo gd g ks (ds.drop i) env') D) ⟨T, env, t0.rebase R1, Rb, p1⟩ (fun i σ' H' _ ⟨T', env', _, R', _⟩ => hG H' (stay R'.sB)) ?_ ?_
    · rintro i x σ2 H2 H3 hi ⟨T', env', t', R', q⟩ y
      obtain ⟨d, hd⟩ : ∃ d, ds[i]? = some d := ⟨ds[i], List.getElem?_eq_getElem hi⟩
      obtain ⟨s3, rx⟩ := hY i H2 x H3 d (stay R'.sB) y hd
      have rx := rx (fun a => H1 a = none) (fun a z => z)
      have hdrop : ds.drop i = d :: ds.drop (i + 1) := by
        obtain ⟨h1, h2⟩ := List.getElem?_eq_some_iff.mp hd
        rw [List.drop_eq_getElem_cons h1, h2]
      rw [hdrop] at q
      unfold forGo at q
      refine ⟨T', H0, _, env', d, R'.same s3, (t'.grow el rx).weak fun a z => ?_, ?_⟩
      · have fin : baseOf (WrP md σ env T B) H1 a = none → Avd md σ env T H0 (mdAt md i0).nw a ∨ H1 a = none := fun this => by
          by_cases z : WrP md σ env T B a
          · exact .inl z.avd
          · rw [baseOf_some z] at this
            exact .inr this
        rcases z with ⟨j, o⟩ | z | z
        · exact fin (R'.out j a o)
        · rcases t'.out a z with z | z
          · exact .inl (.inr (.inl (t0.le a z)))
          · exact fin z
        · exact .inl (.inr (.inr z))
      · cases eg : gd d env' with
        | none => rw [eg] at q; exact q.elim
        | some e1 =>
          rw [eg] at q
          intro σ4 R4 a4 w4
          refine ⟨T0, T', H0, _, e1, t', R4, ?_⟩
          have q : SP0 X.KM W md fr T0 H0 B (match g e1 with
            | .nx e2 => forGo gd g ks (ds.drop (i + 1)) (killD e2 ks)
            | .ct e2 => forGo gd g ks (ds.drop (i + 1)) (killD e2 ks)
            | .bk e2 => .nx e2
            | o => o) D := q
          cases eb : g e1 with
          | nx e2 => rw [eb] at q; exact fun T5 σ5 H5 t5 R5 => ⟨T5, killD e2 ks, t5, R5.killD ks, q⟩
          | ct e2 => rw [eb] at q; exact fun T5 σ5 H5 t5 R5 => ⟨T5, killD e2 ks, t5, R5.killD ks, q⟩
          | bk e2 => rw [eb] at q; exact fun T5 σ5 H5 t5 R5 => q T5 σ5 H5 (t5.unbase t0.old sBB) (R5.unbase s0B sBB)
          | rt d => rw [eb] at q; exact fun T5 v H' t5 s' z => q T5 v H' (t5.unbase t0.old sBB) (sBB.trans s') (z.unbase t0.old t5 sBB)
          | exc c fs e2 => rw [eb] at q; exact fun T5 cls dd σ' H' t5 R' x => q T5 cls dd σ' H' (t5.unbase t0.old sBB) (R'.unbase s0B sBB) x
          | bad => rw [eb] at q; exact q
    · rintro σ' H' ⟨T', env', t', R', q⟩
      rw [List.drop_length] at q
      exact q T' σ' H' (t'.unbase t0.old sBB) (R'.unbase s0B sBB)

  | _ => rw [hl] at p; exact p.elim
/-! ### while: at most n turns -/
/-! ### a, b = e -/
def dUnp (gd : D → DEnv → Option DEnv) (f : DX) : DS := fun env => (f env).out env fun d => match gd d env with
  | some e => .nx e
  | none => .bad
theorem vs_unp {gd : D → DEnv → Option DEnv} {sl : List Nat} (he : VE X W md true nw e f) (hg : VG X md nw tg gd sl) (hs : swapsWithSole [tg] e pos.line X.env = pure false) (hw : swappedStores [tg] e X.env = pure none)
    (h1 : (assignEach [tg] X.env).map (·.2) = [assign tg X.env]) : VS X W md fr (.Assign [tg] e pos) (dUnp gd f) :=
  ⟨(ps_asg he.run hg.run hs hw h1).imp fun D σ H ⟨T0, T, H0, B, env, t0, R, p⟩ => ⟨T, H0, B, env, R, (out_of t0 R p).mono fun d v H' s _ q r => by
    refine ⟨T, H0, B, env, d, R.same s, r.strict, ?_⟩
    cases eg : gd d env with
    | none => rw [eg] at q; exact q.elim
    | some e1 => rw [eg] at q; exact fun σ' R' _ _ => q T σ' H' t0 R'⟩⟩
/-- a, b, .. = an own list that is asked no more -/
def dUnpC (i : Nat) (gd : D → DEnv → Option DEnv) : DS := fun env => match env[i]? with
  | some (some (.lst ds)) => (match gd (.lst ds) (env.set i none) with
    | some e => .nx e
    | none => .bad)
  | _ => .bad
theorem vs_unpC {i0 : Nat} {x0 : Str} {p0 : Pos} {gd : D → DEnv → Option DEnv} {sl : List Nat} (hN : X.N[i0]? = some x0) (hv : Vis X.env.scope x0) (hd : (x0 == ("__debug__" : Str)) = false) (hcd : (x0 == ("__classdict__" : Str)) = false) (ho : (mdAt md i0).own = true)
    (hg : VG X md (mdAt md i0).nw tg gd sl) (hs : swapsWithSole [tg] (.Name x0 p0) pos.line X.env = pure false) (hw : swappedStores [tg] (.Name x0 p0) X.env = pure none)
    (h1 : (assignEach [tg] X.env).map (·.2) = [assign tg X.env]) : VS X W md fr (.Assign [tg] (.Name x0 p0) pos) (dUnpC i0 gd) :=
  ⟨(ps_asg (pe_var (pos := p0) hN hv hd hcd) hg.run hs hw h1).imp fun D σ H ⟨T0, T, H0, B, env, t0, R, p⟩ => by
    unfold dUnpC at p
    cases hl : env[i0]? with
    | none => rw [hl] at p; exact p.elim
    | some o =>
    cases o with
    | none => rw [hl] at p; exact p.elim
    | some d0 =>
    cases d0 with
    | lst ds =>
      obtain ⟨a0, ev0, oa0, t00⟩ := R.owned hl ho rfl
      rw [hl] at p
      have p : SP0 X.KM W md fr T0 H0 B (match gd (.lst ds) (env.set i0 none) with
        | some e => Out.nx e
        | none => Out.bad) D := p
      obtain ⟨vs, ea, rs⟩ := t00
      have av : ∀ {n b}, Avd md σ (env.set i0 none) T H0 n b → Avd md σ env T H0 n b := fun {n b} h => by
        rcases h with ⟨k, o⟩ | h
        · exact .inl ⟨k, ownAt_kill o⟩
        · exact .inr h
      have nA : ¬ Avd md σ (env.set i0 none) T H0 (mdAt md i0).nw a0 := fun h => by
        rcases h with ⟨k, o⟩ | h | ⟨_, u, z⟩
        · have e := R.sep _ _ _ (ownAt_kill o) oa0
          subst e
          obtain ⟨_, ⟨d', h2, _⟩, _⟩ := o
          exact (kill_lookup h2).1 rfl
        · exact R.tO _ _ oa0 h
        · obtain ⟨u', z⟩ := R.s0 _ _ z
          rw [R.out _ _ oa0] at z
          cases z
      refine ⟨_, ev0, T, H0, B, env.set i0 none, .lst ds, R.killAny i0, Rp.lst.mpr ⟨a0, vs, rfl, nA, ea, rs.weak fun _ z => av z⟩, ?_⟩
      cases eg : gd (.lst ds) (env.set i0 none) with
      | none => rw [eg] at p; exact p.elim
      | some e1 => rw [eg] at p; exact fun σ' R' _ _ => p T σ' H t0 R'
    | _ => rw [hl] at p; exact p.elim⟩
/-! ### x.append(e), x[k] = e of an owned x -/
def dApp (i : Nat) (f : DX) : DS := fun env => match env[i]? with
  | some (some (.lst ds)) => (f env).out env fun d => if ds.length < sizeLine then .nx (env.set i (some (.lst (ds ++ [d])))) else .bad
  | _ => .bad
theorem vs_app {i : Nat} {x : Str} {p2 apos cpos : Pos} (hN : X.N[i]? = some x) (hv : Vis X.env.scope x) (hd : (x == ("__debug__" : Str)) = false) (hcd : (x == ("__classdict__" : Str)) = false) (ho : (mdAt md i).own = true) (hw : ((mdAt md i).nw && !nw) = false)
    (ha : VE X W md true nw a f) (hs : starless a = true) (hbase : attributeBase (.Name x p2) "append" X.env (eval (.Name x p2) X.env) = eval (.Name x p2) X.env) (hline : (apos.endLine == cpos.line) = true) :
    VS X W md fr (.Expr (.Call (.Attribute (.Name x p2) "append" apos) [a] [] cpos) pos) (dApp i f) := by
  refine ⟨(ps_expr (pe_bm PySem.F.plainAttrs_list PySem.F.slot_list_append PySem.F.type_list_append mt_append (pe_var hN hv hd hcd) (pa_cons ha.run pa_nil (notStar hs)) hbase (by rw [notStar hs]; rfl) hline (notStar hs) (backTo_any rfl)) rfl).imp fun D σ H ⟨T0, T, H0, B, env, t0, R, p⟩ => ?_⟩
  unfold dApp at p
  cases e : env[i]? with
  | none => rw [e] at p; exact p.elim
  | some o =>
    cases o with
    | none => rw [e] at p; exact p.elim
    | some d =>
      rw [e] at p
      cases d with
      | lst ds =>
        obtain ⟨l, ev, oa, vs, el, rs⟩ := R.owned e ho rfl
        refine ⟨_, ev, .inl ⟨rfl, vs, SqL.of el⟩, T, H0, B, env, R, (out_of t0 R p).mono fun dv v H1 s _ q r => ?_⟩
        by_cases hz : ds.length < sizeLine
        · rw [if_pos hz] at q
          have R1 := R.same s
          have el1 : H1 l = some (.lst vs) := s _ _ el
          refine ⟨l, vs, v, rfl, rfl, el1, by rw [rs.length]; exact hz, q T σ _ t0 (R1.upd e oa ⟨vs ++ [v], upd_same, ?_⟩)⟩
          have c := carry_upd (K := X.KM.at T) (o := .lst (vs ++ [v])) el1 rfl (show Avd md σ env T H0 (mdAt md i).nw l from .inl ⟨i, oa⟩)
          refine (Rps.carry c _ _ (rs.same s)).append (.one (Rp.carry c _ _ (r.strict.weak fun b z => Avd.mono (fun e => ?_) z)))
          rw [e] at hw
          simpa using hw
        · rw [if_neg hz] at q
          exact q.elim
      | _ => exact p.elim
/-! ### x[k] = e of an owned list or dict -/
def putKs (ks : List D) (k : D) : List D := if ks.any (fun x => keyEq x k) then ks else ks ++ [k]
def putWs (ks ws : List D) (k w : D) : List D := if ks.any (fun x => keyEq x k) then List.zipWith (fun x y => if keyEq x k then w else y) ks ws else ws ++ [w]
theorem any_put {κ : Type} [DecidableEq κ] {g : κ → D} {k : κ} {y : D} (he : ∀ j, keyEq (g j) y = decide (j = k)) (kvs : List (κ × V)) : (kvs.map fun p => g p.1).any (fun x => keyEq x y) = kvs.any fun kv => decide (kv.1 = k) := by
  rw [List.any_map]
  congr 1
  funext p
  exact he p.1
theorem putKs_of {κ : Type} [DecidableEq κ] {g : κ → D} {k : κ} {y : D} (he : ∀ j, keyEq (g j) y = decide (j = k)) (hy : y = g k) (kvs : List (κ × V)) (v : V) : (putK kvs k v).map (fun p => g p.1) = putKs (kvs.map fun p => g p.1) y := by
  unfold putK putKs
  rw [any_put he]
  split
  · rw [List.map_map]
    apply List.map_congr_left
    intro p _
    show g (if p.1 = k then (p.1, v) else p).1 = g p.1
    split <;> rfl
  · rw [List.map_append, hy]
    rfl
theorem putWs_of {κ : Type} [DecidableEq κ] {K : KF} {H : Hp} {A : Pred} {g : κ → D} {k : κ} {y : D} {v : V} {w : D} (he : ∀ j, keyEq (g j) y = decide (j = k)) (q : Rp K H A v w) {kvs : List (κ × V)} {ws : List D} (r : Rps K H A (kvs.map (·.2)) ws) :
    Rps K H A ((putK kvs k v).map (·.2)) (putWs (kvs.map fun p => g p.1) ws y w) := by
  unfold putK putWs
  rw [any_put he]
  split
  · have go : ∀ (kvs : List (κ × V)) (ws : List D), Rps K H A (kvs.map (·.2)) ws → Rps K H A ((kvs.map fun kv => if kv.1 = k then (kv.1, v) else kv).map (·.2)) (List.zipWith (fun x z => if keyEq x y then w else z) (kvs.map fun p => g p.1) ws) := by
      intro kvs
      induction kvs with
      | nil => intro ws _; exact .nil
      | cons p r ih =>
        intro ws h
        cases ws with
        | nil => have := h.length; cases this
        | cons z ws =>
          obtain ⟨u, r', e, q1, t⟩ := h.uncons
          cases e
          show Rps K H A ((if p.1 = k then (p.1, v) else p).2 :: _) ((if keyEq (g p.1) y then w else z) :: _)
          refine .cons ?_ (ih ws t)
          rw [he p.1]
          by_cases hk : p.1 = k
          · rw [if_pos hk, if_pos (decide_eq_true hk)]; exact q
          · rw [if_neg hk, if_neg (by rw [decide_eq_false hk]; exact Bool.false_ne_true)]; exact q1
    exact go kvs ws r
  · rw [List.map_append]
    exact r.append (.one q)
theorem DicH.len {rd : HO → Prop} {t : Bool} {ks : List D} {vs : List V} (h : DicH rd t ks vs) : vs.length = ks.length := by
  cases t with
  | false => obtain ⟨kvs, _, e1, e2⟩ := h; subst e1 e2; simp
  | true => obtain ⟨kvs, _, e1, e2⟩ := h; subst e1 e2; simp
/-- the dict behind a[y] = v -/
theorem DicH.dput {K : KF} {A : Pred} {a : Addr} {y v : V} {t : Bool} {ks ws : List D} {vs : List V} {dy w : D} (h : DicH (fun u => H a = some u) t ks vs) (r : Rps K H A vs ws) (ry : Rk st K H A y dy) (rw' : Rp K H A v w) (hf : keyFits t dy = true) (hz : ks.length < sizeLine) :
    ∃ o vs', DPut H a y v (upd H a o) ∧ DicH (fun u => o = u) t (putKs ks dy) vs' ∧ Rps K H A vs' (putWs ks ws dy w) := by
  cases t with
  | false =>
    obtain ⟨kvs, e, e1, e2⟩ := h
    subst e1 e2
    obtain ⟨k, rfl⟩ : ∃ k, dy = keyD k := by
      cases dy with
      | int i => exact ⟨.inl i, rfl⟩
      | str x => exact ⟨.inr x, rfl⟩
      | _ => cases hf
    have ey : y = kV k := kV_of ry.free
    have he : ∀ j, keyEq (keyD j) (keyD k) = decide (j = k) := fun j => keyEq_key j k
    refine ⟨_, _, .inl ⟨kvs, k, e, ey, by simpa using hz, rfl⟩, ⟨putK kvs k v, rfl, putKs_of (g := keyD) he rfl kvs v, rfl⟩, putWs_of (g := keyD) he rw' r⟩
  | true =>
    obtain ⟨kvs, e, e1, e2⟩ := h
    subst e1 e2
    obtain ⟨t, rfl, hk⟩ : ∃ t, dy = .tup t ∧ (keysOf t).isSome = true := by
      cases dy with
      | tup t => exact ⟨t, rfl, hf⟩
      | _ => cases hf
    obtain ⟨k, hk⟩ := Option.isSome_iff_exists.mp hk
    have et := keysOf_eq hk
    subst et
    obtain ⟨b, us, rfl, sq, rt⟩ := ry.tup
    have ev := kVs_of rt
    subst ev
    have he : ∀ j : List Key, keyEq (.tup (j.map keyD)) (.tup (k.map keyD)) = decide (j = k) := fun j => keyEq_keys j k
    refine ⟨_, _, .inr ⟨kvs, k, b, e, rfl, sq, by simpa using hz, rfl⟩, ⟨putK kvs k v, rfl, putKs_of (g := fun k : List Key => D.tup (k.map keyD)) he rfl kvs v, rfl⟩, putWs_of (g := fun k : List Key => D.tup (k.map keyD)) he rw' r⟩
def rSetAny : TSet := fun o i v H Q => rSetL o i v H Q ∨ rSetD o i v H Q
theorem set_any (hu : X.A.units + 1 < cLine) : PSet X rSetAny := by
  intro pins s σ H o i v ov iv u Q I ro ri rv h
  rcases h with h | h
  · exact set_list pins s σ H o i v ov iv u Q I ro ri rv h
  · exact set_dict hu pins s σ H o i v ov iv u Q I ro ri rv h
def putD (d k w : D) : Option D := match d with
  | .lst ds => (match k with
    | .int j => (ixN ds.length j).map fun n => .lst (ds.set n w)
    | _ => none)
  | .dic t ks ws => if keyFits t k && decide (ks.length < sizeLine) then some (.dic t (putKs ks k) (putWs ks ws k w)) else none
  | _ => none
def dPut (i : Nat) (fk f : DX) : DS := fun env => (f env).out env fun w => match env[i]? with
  | some (some d) => (fk env).out env fun k => match putD d k w with
    | some d' => .nx (env.set i (some d'))
    | none => .bad
  | _ => .bad
theorem vs_put {i : Nat} {x : Str} {p2 spos : Pos} (hu : X.A.units + 1 < cLine) (hN : X.N[i]? = some x) (hv : Vis X.env.scope x) (hd : (x == ("__debug__" : Str)) = false) (hcd : (x == ("__classdict__" : Str)) = false) (ho : (mdAt md i).own = true) (hw : ((mdAt md i).nw && !nw) = false)
    (he : VE X W md true nw e f) (hb : VE X W md sb nb b fb) (hs : swapsWithSole [.Subscript (.Name x p2) b spos] e pos.line X.env = pure false) (hws : swappedStores [.Subscript (.Name x p2) b spos] e X.env = pure none)
    (h1 : (assignEach [.Subscript (.Name x p2) b spos] X.env).map (·.2) = [assign (.Subscript (.Name x p2) b spos) X.env])
    (has : ∀ v, assign (.Subscript (.Name x p2) b spos) X.env v = (do
      let ov ← holding [v] (eval (.Name x p2) X.env)
      let iv ← holding [v, ov] (eval b X.env)
      standAt spos
      holding [v, ov, iv] (setItem ov iv v)
      release [v, ov, iv] [])) : VS X W md fr (.Assign [.Subscript (.Name x p2) b spos] e pos) (dPut i fb f) := by
  refine ⟨(ps_asg he.run (pg_sub (pe_var hN hv hd hcd) hb.run (set_any hu) has) hs hws h1).imp fun D σ H ⟨T0, T, H0, B, env, t0, R, p⟩ => ⟨T, H0, B, env, R, (out_of t0 R p).mono fun dv v H1 s _ q r => ?_⟩⟩
  have R1 := R.same s
  cases ee : env[i]? with
  | none => rw [ee] at q; exact q.elim
  | some o =>
    cases o with
    | none => rw [ee] at q; exact q.elim
    | some d =>
      rw [ee] at q
      cases hl : isLD d with
      | false =>
        obtain ⟨v0, ev, _, _⟩ := R1.ownedI ee ho hl
        refine ⟨_, ev, T, H0, B, env, R1, (out_of t0 R1 q).mono fun dk k H2 s2 _ q2 rk => ?_⟩
        cases d with
        | lst _ => cases hl
        | dic _ _ _ => cases hl
        | _ => exact q2.elim
      | true =>
      obtain ⟨l, ev, oa, tp⟩ := R1.owned ee ho hl
      refine ⟨_, ev, T, H0, B, env, R1, (out_of t0 R1 q).mono fun dk k H2 s2 _ q2 rk => ?_⟩
      have R2 := R1.same s2
      obtain ⟨l', ev', oa', tp⟩ := R2.owned ee ho hl
      rw [ev] at ev'
      cases ev'
      have rv : Rp (X.KM.at T) H2 (Avd md σ env T H0 (mdAt md i).nw) v dv := (r.strict.same s2).weak fun b z => Avd.mono (fun e => by rw [e] at hw; simpa using hw) z
      cases hp : putD d dk dv with
      | none =>
        rw [hp] at q2
        exact q2.elim
      | some d' =>
        rw [hp] at q2
        have q2 : ∀ T σ' H', TIn (hasW md) T0 B T → Rel X.KM md T H0 B H' σ' (env.set i (some d')) → D.nx σ' H' := q2
        cases d with
        | lst ds =>
          obtain ⟨vs, el, rs⟩ := tp
          cases dk with
          | int j =>
            have hp : (ixN ds.length j).map (fun n => Dl.D.lst (ds.set n dv)) = some d' := hp
            obtain ⟨n, ej, e2⟩ := Option.map_eq_some_iff.mp hp
            subst e2
            refine .inl ⟨l, vs, j, n, rfl, rk.int, el, by rw [rs.length]; exact ej, q2 T σ _ t0 (R2.upd ee oa ⟨vs.set n v, upd_same, ?_⟩)⟩
            have c := carry_upd (K := X.KM.at T) (o := .lst (vs.set n v)) el rfl (show Avd md σ env T H0 (mdAt md i).nw l from .inl ⟨i, oa⟩)
            exact Rps.set (Rp.carry c _ _ rv) n (Rps.carry c _ _ rs)
          | _ => cases hp
        | dic t ks ws =>
          obtain ⟨vs, el, rs⟩ := tp
          have hp : (if keyFits t dk && decide (ks.length < sizeLine) then some (Dl.D.dic t (putKs ks dk) (putWs ks ws dk dv)) else none) = some d' := hp
          by_cases hc : (keyFits t dk && decide (ks.length < sizeLine)) = true
          case neg => rw [if_neg hc] at hp; cases hp
          rw [if_pos hc] at hp
          cases hp
          rw [Bool.and_eq_true, decide_eq_true_eq] at hc
          obtain ⟨u0, eu0⟩ := el.there
          have mu : isMutO u0 = true := by
            cases t with
            | false => obtain ⟨kvs, e1, _⟩ := el; rw [e1] at eu0; cases eu0; rfl
            | true => obtain ⟨kvs, e1, _⟩ := el; rw [e1] at eu0; cases eu0; rfl
          have two := el.dput (st := false) (A := Avd md σ env T H0 (mdAt md i).nw) rs (show Rk false (X.KM.at T) H2 (Avd md σ env T H0 (mdAt md i).nw) k dk from by
            cases dk with
            | tup xs => exact .of (Rp.imm _ _ rk.free (by
                have hk : (keysOf xs).isSome = true := by
                  cases t with
                  | true => exact hc.1
                  | false => cases hc.1
                obtain ⟨kk, hk⟩ := Option.isSome_iff_exists.mp hk
                rw [keysOf_eq hk]
                unfold imm
                have : ∀ l : List Key, imms (l.map keyD) = true := by
                  intro l
                  induction l with
                  | nil => rfl
                  | cons a r ih => unfold imms List.map; rw [Bool.and_eq_true]; exact ⟨by cases a <;> rfl, ih⟩
                exact this kk))
            | int _ => exact .of (Rp.int.mpr rk.int)
            | str _ => exact .of (Rp.str.mpr rk.str)
            | non => cases t <;> cases hc.1
            | bl _ => cases t <;> cases hc.1
            | lst _ => cases t <;> cases hc.1
            | frl _ => cases t <;> cases hc.1
            | ktp _ => cases t <;> cases hc.1
            | dic _ _ _ => cases t <;> cases hc.1
            | obj _ => cases t <;> cases hc.1) rv hc.1 hc.2
          obtain ⟨o2, vs2, dp2, dh2, rs2⟩ := two
          refine .inr ⟨l, upd H2 l o2, rfl, dp2, q2 T σ _ t0 (R2.upd ee oa ⟨vs2, ?_, ?_⟩)⟩
          · exact dh2.mono fun u z => by rw [upd_same, z]
          · exact Rps.carry (carry_upd eu0 mu (.inl ⟨i, oa⟩)) _ _ rs2
        | _ => cases hp
end
/-! ### a def -/
/-- the outcome of a def's body as a call's -/
def runF (n : Nat) (f : DS) : DF' := fun ds => match f (ds.map some ++ List.replicate (n - ds.length) none) with
  | .nx _ => .ok .non
  | .rt d => .ok d
  | .exc c fs _ => .exc c fs
  | _ => .bad
theorem start_get {N : List Str} {vs : List V} {ds : List D} {n : Nat} (hl : vs.length = ds.length) {i : Nat} {d : D} (e : (ds.map some ++ List.replicate (n - ds.length) none)[i]? = some (some d)) : ds[i]? = some d ∧ ∃ v, vs[i]? = some v ∧ (start N vs)[i]? = some (some v) := by
  by_cases h : i < ds.length
  · rw [List.getElem?_append_left (by simpa using h), List.getElem?_map, List.getElem?_eq_getElem h] at e
    cases e
    refine ⟨List.getElem?_eq_getElem h, vs[i], List.getElem?_eq_getElem (by omega), ?_⟩
    unfold L2.start
    rw [List.getElem?_append_left (by simp; omega), List.getElem?_map, List.getElem?_eq_getElem (by omega)]
    rfl
  · rw [List.getElem?_append_right (by simpa using h)] at e
    rw [List.getElem?_replicate] at e
    split at e <;> cases e
theorem Rps.at {K : KF} {H : Hp} {A : Pred} {vs : List V} {ds : List D} {i : Nat} {d : D} {v : V} (r : Rps K H A vs ds) (e : ds[i]? = some d) (ev : vs[i]? = some v) : Rp K H A v d := by
  obtain ⟨u, eu, q⟩ := r.get e
  rw [ev] at eu
  cases eu
  exact q
theorem rel_start {K : KM} {md : Mds} {T : TL} {H : Hp} {N : List Str} {vs : List V} {ds : List D} (hT : ∀ a, T a → ∃ o, H a = some o) (r : Rps (K.at T) H T vs ds) (hN : ds.length ≤ N.length) (hp : ∀ i, i < ds.length → mdAt md i = {}) (hmd : MdOk md) :
    Rel K md T H H H (start N vs) (ds.map some ++ List.replicate (N.length - ds.length) none) := by
  have no : ∀ i a, ¬ OwnAt md (start N vs) (ds.map some ++ List.replicate (N.length - ds.length) none) i a := fun i a ⟨h1, ⟨d, h2, _⟩, _⟩ => by
    obtain ⟨e, _⟩ := start_get (N := N) r.length h2
    have hi : i < ds.length := (List.getElem?_eq_some_iff.mp e).1
    rw [hp i hi] at h1
    cases h1
  refine ⟨fun a o e => ⟨o, e⟩, Same.refl _, hT, ?_, fun i d e hd => ?_, fun i a o => (no i a o).elim, fun i j a o => (no i a o).elim, fun i a o => (no i a o).elim, hmd, fun a h n => ?_, fun i d e hd h3 => ?_, fun i d e hd => (by
    obtain ⟨e1, v, ev, es⟩ := start_get (N := N) r.length e
    have hi : i < ds.length := (List.getElem?_eq_some_iff.mp e1).1
    rw [hp i hi] at hd
    exact absurd hd (by decide))⟩
  · unfold L2.start
    simp [r.length]
  rotate_left
  · obtain ⟨o, e⟩ := hT a h
    rw [n] at e
    cases e
  · obtain ⟨e1, v, ev, es⟩ := start_get (N := N) r.length e
    have hi : i < ds.length := (List.getElem?_eq_some_iff.mp e1).1
    rw [hp i hi] at hd
    exact absurd rfl hd
  · obtain ⟨e1, v, ev, es⟩ := start_get (N := N) r.length e
    have hi : i < ds.length := (List.getElem?_eq_some_iff.mp e1).1
    refine ⟨v, es, ?_⟩
    unfold SlotOk
    rw [hp i hi, if_neg Bool.false_ne_true]
    refine (r.at e1 ev).weak fun a z => ?_
    rcases z with ⟨j, o⟩ | z | ⟨z, _⟩
    · exact (no j a o).elim
    · exact z
    · cases z
/-- a def keeps its promise -/
theorem fn_ok {P : Program} {w : World} {K : PySem.W.Frag} {mg : Str → Option Value} {base : Heap} {x qual : Str} {st : Stmt} {f : Addr} {fd : FuncData} {N ps : List Str} {k ar : Nat} {md : Mds} {fr : Bool} {den : DS} (F : Fun K x qual st f fd) (S : FnScope N ps (defScope st)) (hps : ps.length = ar) (hNl : ar ≤ N.length) (hp : ∀ i, i < ar → mdAt md i = {}) (hmd : MdOk md) (hW : hasW md = false)
    (hbody : ∀ (cdv : Value) (A : Around) (outer : List Env) (s : Shared) (H : Hp) (E : XK), Room k (A.deeper (envOfC qual (defScope st) s.heap.objs.size f cdv)) →
      VSs (cxOf (L2.CX P w) P w K mg base N qual (defScope st) f cdv A outer s H E) (fun cls d _ H' => E cls d H') md fr (defBody st) den) :
    FnOk P w K mg base (L2.CX P w) (k + 1) f fd ps (spD ⟨K, mg⟩ ar fr (runF N.length den)) := by
  refine F.okX S (fun vs H Q E h => ?_) (fun cdv A outer s H vs Q E hr h => ?_)
  · obtain ⟨T, ds, _, r, hl, _⟩ := h
    rw [r.length, hl, hps]
  · obtain ⟨T, ds, hT, r, hl, q⟩ := h
    refine ⟨_, (hbody cdv A outer s H E hr).run, T, T, H, H, _, TIn.refl hT, rel_start hT r (by omega) (by rw [hl]; exact hp) hmd, ?_⟩
    unfold runF at q
    cases e : den (ds.map some ++ List.replicate (N.length - ds.length) none) with
    | nx env' => rw [e] at q; exact fun T' σ' H' t' R' => q _ H' R'.sB FR.non
    | rt d => rw [e] at q; exact fun T' v H' t' s z => q v H' s (by rw [hW] at z; exact z)
    | exc c fs env' => rw [e] at q; exact fun T' cls dd σ' H' t' R' x => q cls dd H' R'.sB x
    | bk _ => rw [e] at q; exact q.elim
    | ct _ => rw [e] at q; exact q.elim
    | bad => rw [e] at q; exact q.elim
end Dl
/-! Dl8b: own exceptions raised and caught. -/
namespace Dl
open PySem PySem.Spec PyProof.Rows L2
def smallV : V → Bool
  | .int i => decide (0 ≤ i) && decide (i < 1000)
  | .str x => decide (x.length ≤ 1000)
  | _ => false
/-- small texts and numbers: what an exception carries -/
def smallD : D → Bool
  | .int i => decide (0 ≤ i) && decide (i < 1000)
  | .str x => decide (x.length ≤ 1000)
  | _ => false
/-- an own exception class: its name, its fields, each a parameter of __init__ -/
structure ExEnt where
  name : Str
  ps : List Str
/-- the exception at a, of the class at C, gets its fields; the rest stays -/
def spI (K : PySem.W.Frag) (C : Addr) (ps : List Str) : Sp := fun vs H Q E => ∃ (a : Addr) (ws : List V), vs = V.ref a :: ws ∧ ws.length = ps.length ∧ (∀ w ∈ ws, smallV w = true) ∧ H a = some (exo a C none) ∧
  ∀ (d : Addr) (fs : List (Str × V)) (H2 : Hp), H2 a = some (exo a C (some d)) → H2 d = some (exd d fs) → H d = none → d ≠ a → (∀ b, b ≠ a → b ≠ d → H2 b = H b) → (∀ (i : Nat) (f : Str) (w : V), ps[i]? = some f → ws[i]? = some w → fs.lookup f = some w) → Q .non H2
structure HasX (P : Program) (w : World) (K : PySem.W.Frag) (mg : Str → Option Value) (base : Heap) (k : Nat) (E : ExEnt) : Prop where
  ex : ∃ (C fI : Addr) (fd : FuncData) (self : Str), mg E.name = some (.ref C) ∧ OexC K C ∧ PySem.W.findIn K (.ref C) "__init__" = some (some (.ref fI)) ∧ PySem.W.typeIn K (.ref fI) = some (.type "function") ∧
    FnOk P w K mg base (L2.CX P w) k fI fd (self :: E.ps) (spI K C E.ps) ∧ Binds K fd (self :: E.ps) [] ∧ XfC K C ∧ (∀ f ∈ E.ps, PySem.W.findIn K (.ref C) f = some none) ∧ PySem.W.exmOne K (.ref C) (.ref C) = some true
abbrev ExAt (X : Cx) (k : Nat) (E : ExEnt) : Prop := HasX X.prog X.w X.K X.mg X.base k E
section
variable {X : Cx} {W : WX} {md : Mds} {fr st nw : Bool} {e : Expr} {es : List Expr} {fs : DXs} {pos : Pos}
theorem Rks.get {K : KF} {H : Hp} {A : Pred} {vs : List V} {ds : List D} (h : Rks st K H A vs ds) {i : Nat} {d : D} (e : ds[i]? = some d) : ∃ v, vs[i]? = some v ∧ Rk st K H A v d := by
  induction h generalizing i with
  | nil => simp at e
  | cons q _ ih =>
    cases i with
    | zero => simp at e; subst e; exact ⟨_, rfl, q⟩
    | succ i => exact ih (by simpa using e)
theorem Rk.small {K : KF} {H : Hp} {A : Pred} {v : V} {d : D} (h : Rk st K H A v d) (s : smallD d = true) : smallV v = true ∧ imm d = true ∧ ∀ (K' : KF) H' A', Rp K' H' A' v d := by
  cases d with
  | int i => rw [h.int]; exact ⟨s, rfl, fun _ _ _ => Rp.int.mpr rfl⟩
  | str x => rw [h.str]; exact ⟨s, rfl, fun _ _ _ => Rp.str.mpr rfl⟩
  | _ => cases s
/-- raise E(..) -/
def dRaise (E : ExEnt) (fs : DXs) : DS := fun env => (fs env).out env fun ds => if decide (ds.length = E.ps.length) && ds.all smallD then .exc E.name (E.ps.zip ds) env else .bad
theorem vs_raise {E : ExEnt} {k : Nat} {p pos2 : Pos} (hc : X.calm = true) (tk : Takes X W) (hE : ExAt X k E) (hr : Room (k + 1) X.A) (hg : Gl X E.name) (hdb : (E.name == ("__debug__" : Str)) = false) (hl : E.ps.length ≤ 1000) (ha : VA X W md st nw (e :: es) fs) (hs : (e :: es).all starless = true) :
    VS X W md fr (.Raise (some (.Call (.Name E.name p) (e :: es) [] pos)) none pos2) (dRaise E fs) := by
  obtain ⟨C, fI, fd, self, hm, T, iC, tI, F1, hb, xf, hno, _⟩ := hE.ex
  rw [List.all_cons, Bool.and_eq_true] at hs
  refine ⟨(ps_raise hc tk (pmk_oex T iC tI F1 hr hb .nil passL hg hm ha.run hdb (notStar hs.1) (backTo_any hs.2))).imp fun D σ H ⟨T0, T', H0, B, env, t0, R, p⟩ => ⟨T', H0, B, env, R, (out_of t0 R p).mono fun ds vs H1 s1 _ q r => ?_⟩⟩
  by_cases ok : (decide (ds.length = E.ps.length) && ds.all smallD) = true
  case neg => rw [if_neg ok] at q; exact q.elim
  rw [if_pos ok] at q
  rw [Bool.and_eq_true, decide_eq_true_eq, List.all_eq_true] at ok
  have el : vs.length = E.ps.length := r.length.trans ok.1
  have sm : ∀ w ∈ vs, smallV w = true := fun w hw => by
    obtain ⟨i, hi⟩ := List.getElem?_of_mem hw
    have hil : i < ds.length := by rw [← r.length]; exact (List.getElem?_eq_some_iff.mp hi).1
    obtain ⟨v, e1, q1⟩ := r.get (List.getElem?_eq_getElem hil)
    rw [hi] at e1
    cases e1
    exact (q1.small (ok.2 _ (List.getElem_mem hil))).1
  refine ⟨by omega, fun a na => ⟨a, vs, by rw [List.append_nil], el, sm, upd_same, fun d fs' H2 ea ed nd hda hk hlk => ?_⟩⟩
  have nd1 : H1 d = none := by rw [upd_ne hda] at nd; exact nd
  refine ⟨rfl, d, fs', ea, ed, nd1, ?_⟩
  have sH : Same H (upd (del H2 a) d (.xd fs')) := fun b o eb => by
    have eb1 := s1 _ _ eb
    have hba : b ≠ a := ne_of_none eb1 na
    have hbd : b ≠ d := ne_of_none eb1 nd1
    rw [upd_ne hbd, del_ne hba, hk b hba hbd, upd_ne hba]
    exact eb1
  refine q T' (.ref C) (some d) σ _ t0 (R.same sH) ⟨hm, d, fs', rfl, upd_same, fun p hp => ?_⟩
  obtain ⟨i, hi⟩ := List.getElem?_of_mem hp
  rw [List.getElem?_zip_eq_some] at hi
  obtain ⟨v, e1, q1⟩ := r.get hi.2
  have := q1.small (ok.2 _ (List.mem_of_getElem? hi.2))
  exact ⟨this.2.1, v, hlk i p.1 v hi.1 e1, this.2.2 _ _ _⟩
/-! ### try .. except E as n: x = (n.f, ..) -/
def pickF (fs : Fields) : List Str → Option (List D)
  | [] => some []
  | f :: r => match fs.find? (fun p => decide (p.1 = f)), pickF fs r with
    | some p, some ds => some (p.2 :: ds)
    | _, _ => none
/-- what x gets: the tuple of the fields, or the one field -/
def mkF (tp : Bool) (ds : List D) : Option D := match tp, ds with
  | true, ds => if ds.length ≤ sizeLine then some (.tup ds) else none
  | false, [d] => some d
  | _, _ => none
def dTryE (E : ExEnt) (body : DS) (n i : Nat) (tp : Bool) (fl : List Str) : DS := fun env => match body env with
  | .exc c fs e => if c = E.name ∧ n < e.length then (match (pickF fs fl).bind (mkF tp) with
    | some d => .nx (((e.set n none).set i (some d)).set n none)
    | none => .bad) else .bad
  | o => o
def tXs (a : Addr) (cls : Value) (d : Option Addr) (C : Addr) (n : Nat) : List Str → TA
  | [] => tNil
  | f :: r => tCons (tXf a cls d C f (tVar n)) (tXs a cls d C n r)
theorem pick_ok {K : KF} {H : Hp} {ffs : List (Str × V)} {fs : Fields} (h : ∀ p ∈ fs, imm p.2 = true ∧ ∃ v, ffs.lookup p.1 = some v ∧ Rp K H (fun _ => False) v p.2) : ∀ {fl : List Str} {ds : List D}, pickF fs fl = some ds →
    imms ds = true ∧ ∃ vs, (∀ (a : Addr) (cls : Value) (dd C : Addr) (n : Nat) (σ : L2.St) (Q : List V → Hp → Prop), cls = .ref C → σ[n]? = some (some (.ref a)) → H dd = some (.xd ffs) → Q vs H → tXs a cls (some dd) C n fl σ H Q) ∧ Rps K H (fun _ => False) vs ds
  | [], ds, e => by cases e; exact ⟨rfl, [], fun a cls dd C n σ Q _ _ _ q => q, .nil⟩
  | f :: r, ds, e => by
    unfold pickF at e
    cases e1 : fs.find? (fun p => decide (p.1 = f)) with
    | none => rw [e1] at e; cases e
    | some p =>
      cases e2 : pickF fs r with
      | none => rw [e1, e2] at e; cases e
      | some ds' =>
        rw [e1, e2] at e
        cases e
        obtain ⟨i1, vs, g, rp⟩ := pick_ok h e2
        have hp := h p (List.mem_of_find?_eq_some e1)
        have hn : p.1 = f := by simpa using List.find?_some e1
        obtain ⟨i2, v, lk, rv⟩ := hp
        refine ⟨by unfold imms; rw [i2, i1]; rfl, v :: vs, fun a cls dd C n σ Q hc hs hd q => ?_, .cons rv rp⟩
        exact ⟨_, hs, rfl, hc, dd, ffs, v, rfl, hd, by rw [← hn]; exact lk, g a cls dd C n σ _ hc hs hd q⟩
theorem vs_tryE {E : ExEnt} {k i n : Nat} {x nm : Str} {px np pos' spos : Pos} {body : List Stmt} {f : DS} {tp : Bool} {fl : List Str} {te : Addr → Addr → Value → Option Addr → TE} (hs : X.stack = X.env :: X.outer) (hf : X.env.frame = some X.env.locals) (hN : X.N.Nodup)
    (hn : X.N[n]? = some nm) (hln : X.env.scope.names.lookup nm = some .local) (hi : X.N[i]? = some x) (hxl : L2.Loc X.env.scope x) (hfx : X.fn x = true ∨ X.env.scope.names.lookup x = some .local) (hni : n ≠ i)
    (hE : ExAt X k E) (hg : Gl X E.name) (hdb : (E.name == ("__debug__" : Str)) = false) (tk : Takes X W)
    (hb : ∀ (W' : WX) (pn : List (Addr × Obj)) (xe : Value → Shared → Prop), Takes (X.tr pn xe) W' → PassesOwn (model X.prog X.w) X.A X.env xe → VSs (X.tr pn xe) W' md fr body f)
    (hpe : ∀ (C a : Addr) (oe : Obj) (cls : Value) (d : Option Addr) (pn : List (Addr × Obj)), XfC X.K C → (∀ f ∈ E.ps, PySem.W.findIn X.K (.ref C) f = some none) → Zc cls d oe → (∃ vs, oe.data = .fields vs) → PE (X.suite a ((a, oe) :: pn)) e (te C a cls d))
    (hrd : ∀ (C a : Addr) (cls : Value) (dd : Addr) (σ : L2.St) (H : Hp) (ffs : List (Str × V)) (fs : Fields) (d : D) (Q : VK), cls = .ref C → σ[n]? = some (some (.ref a)) → H dd = some (.xd ffs) → (∀ p ∈ fs, imm p.2 = true ∧ ∃ v, ffs.lookup p.1 = some v ∧ Rp ⟨X.KM, []⟩ H (fun _ => False) v p.2) →
      (pickF fs fl).bind (mkF tp) = some d → (∀ v H', Same H H' → imm d = true → (∀ A, Rp ⟨X.KM, []⟩ H' A v d) → Q v H') → te C a cls (some dd) σ H Q)
    (hsw : ∀ env, swapsWith e (some (.Name x px)) spos.line env = pure false)
    (on : (mdAt md n).own = false) (pi : (mdAt md i).dp = 0) :
    VS X W md fr (.Try body [.ExceptHandler (some (.Name E.name np)) (some nm) [.Assign [.Name x px] e spos] pos'] [] [] pos) (dTryE E f n i tp fl) := by
  obtain ⟨C, fI, fd, self, hm, T, iC, tI, F1, hbb, xf, hno, hex⟩ := hE.ex
  refine ⟨(ps_try_as (i := n) (c := .ref C) (tb := fun W' => tS X.KM W' md fr f) (ts := fun a cls d D σ H => te C a cls d σ H fun v H' => D.nx (σ.set i (some v)) H') (Wout := W) hs hf hN hn hln ⟨hg, hdb, .inl hm⟩ tk (fun W' pn xe tk' po => (hb W' pn xe tk' po).run)
    (fun a oe cls d pn hz hfd => pss_one (ps_set hN hi hxl (hpe C a oe cls d pn xf hno hz hfd) (hsw _) hfx))).imp fun D σ H ⟨T0, T', H0, B, env, t0, R, p⟩ => ⟨T0, T', H0, B, env, t0, R, ?_⟩⟩
  unfold dTryE at p
  cases ef : f env with
  | nx e => rw [ef] at p; exact p
  | rt d => rw [ef] at p; exact p
  | bk e => rw [ef] at p; exact p
  | ct e => rw [ef] at p; exact p
  | bad => rw [ef] at p; exact p
  | exc c fs env1 =>
    rw [ef] at p
    have p2 : SP0 X.KM W md fr T0 H0 B (if c = E.name ∧ n < env1.length then (match (pickF fs fl).bind (mkF tp) with
      | some d => Out.nx (((env1.set n none).set i (some d)).set n none)
      | none => .bad) else .bad) D := p
    clear p
    by_cases hc : c = E.name ∧ n < env1.length
    case neg => rw [if_neg hc] at p2; exact p2.elim
    rw [if_pos hc] at p2
    obtain ⟨hc, hnl⟩ := hc
    subst hc
    cases hk : (pickF fs fl).bind (mkF tp) with
    | none => rw [hk] at p2; exact p2.elim
    | some d =>
      rw [hk] at p2
      intro T1 cls dd σ1 H1 t1 R1 xa
      obtain ⟨hm1, d1, ffs, rfl, ed, hfs⟩ := xa
      have hm1 : X.mg E.name = some cls := hm1
      rw [hm] at hm1
      cases hm1
      refine ⟨true, hex, fun _ a na => ?_, fun z => Bool.noConfusion z⟩
      have R2 : Rel X.KM md T1 H0 B H1 (σ1.set n (some (.ref a))) (env1.set n none) := R1.kill on
      have ln : n < σ1.length := by
        rw [R1.len]
        exact hnl
      refine hrd C a _ d1 _ H1 ffs fs d _ rfl (List.getElem?_set_self ln) ed hfs hk fun v H' s im rv => ?_
      exact p2 T1 _ H' t1 (((R2.same s).setI pi im fun A => Rp.grow (K := ⟨X.KM, []⟩) (K' := X.KM.at T1) rfl (fun n a h => by cases h) d v (rv A)).kill on)
end
/-! ### the outcome of a def that works on the store -/
inductive RW where
  | ok (d cs : D) | exc (c : Str) (fs : Fields) (cs : D) | bad
abbrev DFw := D → List D → RW
/-- a value handed back by such a def -/
def VWr (fresh : Bool) (K : KF) (H0 H : Hp) (T : Pred) (v : V) (d : D) : Prop := match fresh with
  | true => Rpf K H (fun a => T a ∨ ∃ o, H0 a = some o) v d
  | false => Rp K H T v d
def spW (K : KM) (ar : Nat) (fresh : Bool) (g : DFw) : Sp := fun vs H Q E => ∃ (P : Pred) (T : TL) (B : Hp) (ds : List D) (cs : D), TIn true ⟨P, T.l⟩ B T ∧ Same B H ∧ StoW K T T.p B B H cs ∧ Rps (K.at T) H T.p vs ds ∧ ds.length = ar ∧
  match g cs ds with
  | .ok d cs' => ∀ T' v H', TIn true ⟨P, T.l⟩ B T' → Same B H' → StoW K T' (fun a => T'.p a ∨ (fresh = true ∧ isLD d = true ∧ v = .ref a)) B B H' cs' → VWr fresh (K.at T') B H' T'.p v d → Q v H'
  | .exc c fs cs' => ∀ T' cls dd H', TIn true ⟨P, T.l⟩ B T' → Same B H' → StoW K T' T'.p B B H' cs' → ExcAt K H' c fs cls dd → E cls dd H'
  | .bad => False
structure WEnt where
  name : Str
  ar : Nat
  fresh : Bool
  den : DFw
structure WAt (X : Cx) (k : Nat) (e : WEnt) : Prop where
  ex : ∃ f fd ps, FnOk X.prog X.w X.K X.mg X.base (L2.CX X.prog X.w) k f fd ps (spW X.KM e.ar e.fresh e.den) ∧ X.mg e.name = some (.ref f) ∧ PySem.W.keepIn X.K (.ref f) = true ∧ Binds X.K fd ps []
end Dl
/-! Dl8c: what a def promises that tells a tuple of new lists, each reached once. -/
namespace Dl
open PySem PySem.Spec PyProof.Rows L2
/-- lists that are new since H, each at a place of its own, their items without lists -/
def AlVs (K : KF) (H H' : Hp) (vs : List V) (ds : List D) : Prop := ∃ (bs : List Addr) (ws : List (List D)), vs = bs.map V.ref ∧ ds = ws.map D.lst ∧ bs.Nodup ∧ bs.length = ws.length ∧
  ∀ (j : Nat) (b : Addr) (w : List D), bs[j]? = some b → ws[j]? = some w → H b = none ∧ imms w = true ∧ ∃ us, H' b = some (.lst us) ∧ Rps K H' (fun _ => False) us w
def AloneT (K : KF) (H H' : Hp) (v : V) (d : D) : Prop := ∃ (a : Addr) (vs : List V) (ds : List D), v = .ref a ∧ d = .tup ds ∧ H' a = some (.tup vs) ∧ AlVs K H H' vs ds
def spA (K : KM) (ar : Nat) (g : DF') : Sp := fun vs H Q E => ∃ (T : TL) (ds : List D), (∀ a, T a → ∃ o, H a = some o) ∧ Rps (K.at T) H T vs ds ∧ ds.length = ar ∧
  match g ds with
  | .ok d => ∀ v H', Same H H' → AloneT (K.at T) H H' v d → Q v H'
  | .exc c fs => ∀ cls dd H', Same H H' → ExcAt K H' c fs cls dd → E cls dd H'
  | .bad => False
structure AEnt where
  name : Str
  ar : Nat
  den : DF'
structure AAt (X : Cx) (k : Nat) (e : AEnt) : Prop where
  ex : ∃ f fd ps, FnOk X.prog X.w X.K X.mg X.base (L2.CX X.prog X.w) k f fd ps (spA X.KM e.ar e.den) ∧ X.mg e.name = some (.ref f) ∧ PySem.W.keepIn X.K (.ref f) = true ∧ Binds X.K fd ps []
end Dl
/-! Dl9: a def's text read off into its meaning, with the proof that it keeps it. -/
namespace Dl
open PySem PySem.Spec PyProof.Rows L2 RZ RT
structure Cfg where
  N : List Str
  sc : Scope
  fn : Str → Bool
  dt : Bool
  pl : Nat → Bool
  kl : Nat → List Nat
  k : Nat
  blts : List Str
  fns : List FEnt
  cons : List (Str × D)
  md : Mds
  exs : List ExEnt := []
  tr : Bool := false
  /-- > of tuples too -/
  gt : Bool := false
  /-- own slots that hold dicts: a comprehension over one locks it -/
  dk : List Nat := []
  /-- the store's slot; the slots that hold numbered things; the defs that work on the store -/
  sw : Option Nat := none
  bx : List Nat := []
  wfns : List WEnt := []
  /-- defs that tell a tuple of new lists, each reached once -/
  afns : List AEnt := []
structure COk (C : Cfg) (X : Cx) (W : WX) : Prop where
  n : X.N = C.N
  nd : C.N.Nodup
  sc : X.env.scope = C.sc
  calm : X.calm = true
  room : Room C.k X.A
  blt : ∀ x, x ∈ C.blts → X.mg x = none
  fns : ∀ F, F ∈ C.fns → FnAt X C.k F
  cons : ∀ p, p ∈ C.cons → ConAt X p.1 p.2
  tk : Takes X W
  po : PassesOwn (model X.prog X.w) X.A X.env X.xe
  fn : ∀ x, C.fn x = true → X.fn x = true
  kd : C.sc.kind = .function
  exs : ∀ E, E ∈ C.exs → ∃ j, j + 1 ≤ C.k ∧ ExAt X j E
  tr : C.tr = true → X.stack = X.env :: X.outer ∧ X.env.frame = some X.env.locals
  wf : ∀ F, F ∈ C.wfns → WAt X C.k F
  af : ∀ F, F ∈ C.afns → AAt X C.k F
/-! ### looks -/
def slotGo (x : Str) : List Str → Nat → Option Nat
  | [], _ => none
  | y :: r, n => if y = x then some n else slotGo x r (n + 1)
theorem slotGo_ok {x : Str} : ∀ {l : List Str} {n i : Nat}, slotGo x l n = some i → n ≤ i ∧ l[i - n]? = some x
  | [], n, i, h => by cases h
  | y :: r, n, i, h => by
    unfold slotGo at h
    split at h
    · next e => cases h; subst e; exact ⟨Nat.le_refl _, by simp⟩
    · obtain ⟨h1, h2⟩ := slotGo_ok h
      refine ⟨by omega, ?_⟩
      rw [show i - n = (i - (n + 1)) + 1 by omega]
      simpa using h2
def slot (C : Cfg) (x : Str) : Option Nat := slotGo x C.N 0
theorem slot_ok {C : Cfg} {x : Str} {i : Nat} (h : slot C x = some i) : C.N[i]? = some x := by simpa using (slotGo_ok h).2
def lk (C : Cfg) (x : Str) : Option NameKind := C.sc.names.lookup x
def isVis : Option NameKind → Bool
  | some .local => true
  | some .cell => true
  | some .free => true
  | _ => false
def isLoc : Option NameKind → Bool
  | some .local => true
  | some .cell => true
  | _ => false
def isGl : Option NameKind → Bool
  | some .globalImplicit => true
  | _ => false
def isLocal : Option NameKind → Bool
  | some .local => true
  | _ => false
def okNm (x : Str) : Bool := !(x == ("__debug__" : Str)) && !(x == ("__classdict__" : Str))
section
variable {C : Cfg} {X : Cx} {W : WX} {x : Str} {i : Nat}
theorem COk.vis (h : COk C X W) (v : isVis (lk C x) = true) : Vis X.env.scope x := by
  unfold Vis
  rw [h.sc]
  unfold lk at v
  revert v
  cases C.sc.names.lookup x with
  | none => intro v; cases v
  | some k => cases k <;> intro v <;> first | exact .inl rfl | exact .inr (.inl rfl) | exact .inr (.inr rfl) | cases v
theorem COk.loc (h : COk C X W) (v : isLoc (lk C x) = true) : L2.Loc X.env.scope x := by
  unfold L2.Loc
  rw [h.sc]
  unfold lk at v
  revert v
  cases C.sc.names.lookup x with
  | none => intro v; cases v
  | some k => cases k <;> intro v <;> first | exact .inl rfl | exact .inr rfl | cases v
theorem COk.local (h : COk C X W) (v : isLocal (lk C x) = true) : X.env.scope.names.lookup x = some .local := by
  rw [h.sc]
  unfold lk at v
  revert v
  cases C.sc.names.lookup x with
  | none => intro v; cases v
  | some k => cases k <;> intro v <;> first | rfl | cases v
theorem COk.gl (h : COk C X W) (v : isGl (lk C x) = true) : Gl X x := by
  show X.env.scope.names.lookup x = _
  rw [h.sc]
  unfold lk at v
  revert v
  cases C.sc.names.lookup x with
  | none => intro v; cases v
  | some k => cases k <;> intro v <;> first | rfl | cases v
theorem COk.slot (h : COk C X W) (e : slot C x = some i) : X.N[i]? = some x := by rw [h.n]; exact slot_ok e
theorem COk.nodup (h : COk C X W) : X.N.Nodup := by rw [h.n]; exact h.nd
theorem COk.stores (h : COk C X W) (v : (C.fn x || isLocal (lk C x)) = true) : X.fn x = true ∨ X.env.scope.names.lookup x = some .local := by
  rw [Bool.or_eq_true] at v
  rcases v with v | v
  · exact .inl (h.fn x v)
  · exact .inr (h.local v)
theorem okNm1 (h : okNm x = true) : (x == ("__debug__" : Str)) = false := by
  unfold okNm at h
  rw [Bool.and_eq_true] at h
  simpa using h.1
theorem okNm2 (h : okNm x = true) : (x == ("__classdict__" : Str)) = false := by
  unfold okNm at h
  rw [Bool.and_eq_true] at h
  simpa using h.2
def bltOk (C : Cfg) (x : Str) : Bool := isGl (lk C x) && (C.blts.contains x && (okNm x && !(decide (x = ("__name__" : Str)))))
theorem COk.bltAt (h : COk C X W) {v : Value} (hb : bltOk C x = true) (ht : bootBuiltins x = some v) : BltAt X x v := by
  unfold bltOk at hb
  simp only [Bool.and_eq_true] at hb
  obtain ⟨h1, h2, h3, h4⟩ := hb
  exact ⟨h.gl h1, h.blt x (by simpa using h2), ht, by simpa using h4, okNm1 h3⟩
end
/-! ### what stands in a text -/
def notComp : Expr → Bool
  | .ListComp _ _ _ _ => false
  | .SetComp _ _ _ _ => false
  | .DictComp _ _ _ _ _ => false
  | _ => true
theorem swap_none {e : Expr} {t : Option Expr} {l : Nat} {env : Env} (h : notComp e = true) : swapsWith e t l env = pure false := by
  cases e <;> first | rfl | cases h
def notSet : Expr → Bool
  | .Set _ _ _ => false
  | _ => true
theorem fold_none {e : Expr} {env : Env} (h : notSet e = true) : ∀ x, foldedSetIterable e env x = pure x := by
  intro x
  cases e <;> first | rfl | cases h
theorem marks_none {op : CmpOp} {e : Expr} (h : notSet e = true) : behindInMarks op e = false := by
  cases e <;> first | rfl | cases h
def plainIx : Expr → Bool
  | .Slice _ _ _ _ => false
  | _ => true
theorem plainIx_ok {e : Expr} (h : plainIx e = true) : PlainIx e := by
  intro o i
  cases e <;> first | rfl | cases h
/-- by its truth alone -/
def isVal : Expr → Bool
  | .UnaryOp .Not _ _ => false
  | .BoolOp _ _ _ => false
  | .IfExp _ _ _ _ => false
  | .Compare _ _ _ _ => false
  | _ => true
theorem isVal_ok {e : Expr} {env : Env} (h : isVal e = true) : ∀ whole, isTrue e env whole = (do let v ← whole; standAt e.pos; holding [v] (truthy v)) := by
  intro w
  cases e <;> try rfl
  · cases h
  · next op x p => cases op <;> first | rfl | cases h
  · cases h
  · cases h
def isTupE : Expr → Bool
  | .Tuple _ _ _ => true
  | _ => false
theorem sws_none {tg e : Expr} {env : Env} (h : (isTupE tg && isTupE e) = false) (hl : (match tg with | .List _ _ => false | _ => true) = true) : swappedStores [tg] e env = pure none := by
  cases tg <;> first | rfl | (cases hl; done) | (cases e <;> first | rfl | cases h)
/-! ### results -/
structure RE (C : Cfg) (e : Expr) where
  st : Bool
  nw : Bool
  f : DX
  ok : ∀ X W, COk C X W → VE X W C.md st nw e f
structure RF (C : Cfg) (e : Expr) where
  nw : Bool
  f : DX
  ok : ∀ X W, COk C X W → VF X W C.md nw e f
structure RT (C : Cfg) (e : Expr) where
  f : DX
  ok : ∀ X W, COk C X W → VT X W C.md e f
structure RA (C : Cfg) (es : List Expr) where
  st : Bool
  nw : Bool
  f : DXs
  len : ∀ env ds, f env = .ok ds → ds.length = es.length
  ok : ∀ X W, COk C X W → VA X W C.md st nw es f
structure RGt (C : Cfg) (nw : Bool) (tg : Expr) where
  sl : List Nat
  gd : D → DEnv → Option DEnv
  ok : ∀ X W, COk C X W → VG X C.md nw tg gd sl
structure RGs (C : Cfg) (nw : Bool) (tg : List Expr) where
  sl : List Nat
  gd : List D → DEnv → Option DEnv
  ok : ∀ X W, COk C X W → VGs X C.md nw tg gd sl
def RF.re {C : Cfg} {e : Expr} (r : RF C e) : RE C e := ⟨true, r.nw, r.f, fun X W h => (r.ok X W h).ve⟩
theorem VA.to {X : Cx} {W : WX} {md : Mds} {st nw s2 n2 : Bool} {es : List Expr} {f : DXs} (h : VA X W md st nw es f) (h1 : (s2 && !st) = false) (h2 : (n2 && !nw) = false) : VA X W md s2 n2 es f :=
  ⟨h.run.imp fun σ H Q ⟨T, H0, B, env, R, p⟩ => ⟨T, H0, B, env, R, p.mono fun ds vs H' _ _ q r => q (by
    have : ∀ {vs ds}, Rks st (X.KM.at T) H' (Avd md σ env T H0 nw) vs ds → Rks s2 (X.KM.at T) H' (Avd md σ env T H0 n2) vs ds := by
      intro vs ds r
      induction r with
      | nil => exact .nil
      | cons qq _ ih =>
        refine .cons ?_ ih
        have q2 := qq.weak (A' := Avd md σ env T H0 n2) fun a z => Avd.mono (fun e => by rw [e] at h2; simpa using h2) z
        cases s2 with
        | false => exact q2.loose
        | true => cases st with
          | true => exact q2
          | false => cases h1
    exact this r)⟩⟩
theorem and_l {a b : Bool} : ((a && b) && !a) = false := by cases a <;> cases b <;> rfl
theorem and_r {a b : Bool} : ((a && b) && !b) = false := by cases a <;> cases b <;> rfl
/-- what the step before gives -/
structure Rec where
  e : ∀ (C : Cfg) (e : Expr), Option (RE C e)
  f : ∀ (C : Cfg) (n : Bool) (e : Expr), Option (RF C e)
  t : ∀ (C : Cfg) (e : Expr), Option (RT C e)
section
variable (r : Rec) (C : Cfg)
theorem dCons_len {f : DX} {fs : DXs} {n : Nat} (h : ∀ env ds, fs env = .ok ds → ds.length = n) : ∀ env ds, dCons f fs env = .ok ds → ds.length = n + 1 := fun env ds q => by
  unfold dCons at q
  cases h1 : f env with
  | exc c fs => rw [h1] at q; cases q
  | bad => rw [h1] at q; cases q
  | ok x =>
    rw [h1] at q
    have q : (fs env).bind (fun xs => RG.ok (x :: xs)) = .ok ds := q
    cases h2 : fs env with
    | exc c fs => rw [h2] at q; cases q
    | bad => rw [h2] at q; cases q
    | ok xs => rw [h2] at q; cases q; simp [h env xs h2]
theorem dNil_len : ∀ env ds, dNil env = .ok ds → ds.length = ([] : List Expr).length := fun env ds h => by
  cases h
  rfl
def cArgs : (es : List Expr) → Option (RA C es)
  | [] => some ⟨true, true, dNil, dNil_len, fun X W h => va_nil⟩
  | e :: es => match r.e C e, cArgs es with
    | some a, some b => if hs : starless e = true then some ⟨a.st && b.st, a.nw && b.nw, dCons a.f b.f, dCons_len b.len, fun X W h => va_cons ((a.ok X W h).to and_l and_l) ((b.ok X W h).to and_r and_r) (notStar hs)⟩ else none
    | _, _ => none
theorem find_con {x : Str} {p : Str × D} (hc : C.cons.find? (fun p => decide (p.1 = x)) = some p) {X : Cx} {W : WX} (h : COk C X W) : ConAt X x p.2 := by
  have hm := List.mem_of_find?_eq_some hc
  have he : p.1 = x := by simpa using List.find?_some hc
  have := h.cons p hm
  rw [he] at this
  exact this
def cName (x : Str) (pos : Pos) : Option (RE C (.Name x pos)) :=
  match hs : slot C x with
  | some i => if hv : isVis (lk C x) = true ∧ okNm x = true then
      (if ho : (mdAt C.md i).own = true then some ⟨false, (mdAt C.md i).nw, dVar i, fun X W h => ve_varOwn (h.slot hs) (h.vis hv.1) (okNm1 hv.2) (okNm2 hv.2) ho⟩
      else if hp : (mdAt C.md i).dp = 0 then some ⟨true, (mdAt C.md i).nw, dVar i, fun X W h => ve_var (h.slot hs) (h.vis hv.1) (okNm1 hv.2) (okNm2 hv.2) (by simpa using ho) hp⟩ else none)
    else none
  | none => match hc : C.cons.find? (fun p => decide (p.1 = x)) with
    | some p => if hg : isGl (lk C x) = true ∧ okNm x = true ∧ isDct p.2 = false then some ⟨true, true, dC p.2, fun X W h => ve_con (find_con C hc h) hg.2.2 (h.gl hg.1) (okNm1 hg.2.1)⟩ else none
    | none => none
def cConst (c : Const) (j : Nat) (pos : Pos) : Option (RE C (.Constant c j pos)) := match c with
  | .int i => some ⟨true, true, dC (.int i), fun X W h => ve_int⟩
  | .bool i => some ⟨true, true, dC (.bl i), fun X W h => ve_bl⟩
  | .str i => some ⟨true, true, dC (.str i), fun X W h => ve_str⟩
  | .none => some ⟨true, true, dC .non, fun X W h => ve_non⟩
  | _ => none
theorem hu65 {X : Cx} {k : Nat} (h : Room k X.A) : X.A.units + 65 < cLine := by have := h.un; omega
def cBin (a : Expr) (op : Operator) (b : Expr) (pos : Pos) : Option (RE C (.BinOp a op b pos)) := match r.e C a, r.e C b with
  | some x, some y => match op with
    | .Add => some ⟨true, x.nw && y.nw, dBin gAdd x.f y.f, fun X W h => ve_bin opr_add op_gAdd (x.ok X W h) (y.ok X W h)⟩
    | .Sub => some ⟨true, true, dBin gSubI x.f y.f, fun X W h => ve_binS op_sub op_gSubI sc_gSubI (x.ok X W h) (y.ok X W h)⟩
    | .Mult => some ⟨true, true, dBin gMulI x.f y.f, fun X W h => ve_binS op_mul op_gMulI sc_gMulI (x.ok X W h) (y.ok X W h)⟩
    | .FloorDiv => some ⟨true, true, dBin gFdivI x.f y.f, fun X W h => ve_binS op_fdiv op_gFdivI sc_gFdivI (x.ok X W h) (y.ok X W h)⟩
    | .Mod => some ⟨true, true, dBin gModI x.f y.f, fun X W h => ve_binS op_mod op_gModI sc_gModI (x.ok X W h) (y.ok X W h)⟩
    | .Pow => some ⟨true, true, dBin gPowI x.f y.f, fun X W h => ve_binS op_pow op_gPowI sc_gPowI (x.ok X W h) (y.ok X W h)⟩
    | _ => none
  | _, _ => none
def cUn (op : UnaryOp) (a : Expr) (pos : Pos) : Option (RE C (.UnaryOp op a pos)) := match r.e C a with
  | some x => match op with
    | .USub => some ⟨true, true, dUn gNeg x.f, fun X W h => ve_un un_neg op_gNeg sc_gNeg (x.ok X W h)⟩
    | .Not => some ⟨true, true, dNot x.f, fun X W h => ve_not (x.ok X W h)⟩
    | _ => none
  | _ => none
def cCmp (a : Expr) (op : CmpOp) (b : Expr) (pos : Pos) : Option (RE C (.Compare a [op] [b] pos)) := if hb : notSet b = true then (match r.e C a, r.e C b with
  | some x, some y => match op with
    | .Eq => some ⟨true, true, dBin gEq x.f y.f, fun X W h => ve_cmp (op_eqD h.room.units) op_gEq sc_gEq (x.ok X W h) (y.ok X W h) (marks_none hb)⟩
    | .NotEq => some ⟨true, true, dBin gNe x.f y.f, fun X W h => ve_cmp (op_neD h.room.units) op_gNe sc_gNe (x.ok X W h) (y.ok X W h) (marks_none hb)⟩
    | .Lt => some ⟨true, true, dBin gLt x.f y.f, fun X W h => ve_cmp (opr_lt h.room.units0) op_gLt sc_gLt (x.ok X W h) (y.ok X W h) (marks_none hb)⟩
    | .LtE => some ⟨true, true, dBin (gCmpI fun i j => decide (i ≤ j)) x.f y.f, fun X W h => ve_cmp op_le op_gCmpI sc_gCmpI (x.ok X W h) (y.ok X W h) (marks_none hb)⟩
    | .Gt => if C.gt then some ⟨true, true, dBin gGt x.f y.f, fun X W h => ve_cmp (opr_gt h.room.units0) op_gGt sc_gGt (x.ok X W h) (y.ok X W h) (marks_none hb)⟩ else some ⟨true, true, dBin (gCmpI fun i j => decide (j < i)) x.f y.f, fun X W h => ve_cmp op_gt op_gCmpI sc_gCmpI (x.ok X W h) (y.ok X W h) (marks_none hb)⟩
    | .GtE => some ⟨true, true, dBin (gCmpI fun i j => decide (j ≤ i)) x.f y.f, fun X W h => ve_cmp op_ge op_gCmpI sc_gCmpI (x.ok X W h) (y.ok X W h) (marks_none hb)⟩
    | .Is => some ⟨true, true, dBin gIsN x.f y.f, fun X W h => ve_cmp op_isN op_gIsN sc_gIsN (x.ok X W h) (y.ok X W h) (marks_none hb)⟩
    | .IsNot => some ⟨true, true, dBin gNotN x.f y.f, fun X W h => ve_cmp op_notN op_gNotN sc_gNotN (x.ok X W h) (y.ok X W h) (marks_none hb)⟩
    | .In => some ⟨true, true, dBin gIn x.f y.f, fun X W h => ve_cmp (opr_in (hu65 h.room)) op_gIn sc_gIn (x.ok X W h) (y.ok X W h) (marks_none hb)⟩
    | .NotIn => some ⟨true, true, dBin gNotIn x.f y.f, fun X W h => ve_cmp (opr_notIn (hu65 h.room)) op_gNotIn sc_gNotIn (x.ok X W h) (y.ok X W h) (marks_none hb)⟩
  | _, _ => none) else none
def tCmp' (a : Expr) (op : CmpOp) (b : Expr) (pos : Pos) : Option (RT C (.Compare a [op] [b] pos)) := if hb : notSet b = true then (match r.e C a, r.e C b with
  | some x, some y => match op with
    | .Eq => some ⟨dBin gEq x.f y.f, fun X W h => vt_cmp (op_eqD h.room.units) op_gEq sc_gEq (x.ok X W h) (y.ok X W h) (marks_none hb)⟩
    | .NotEq => some ⟨dBin gNe x.f y.f, fun X W h => vt_cmp (op_neD h.room.units) op_gNe sc_gNe (x.ok X W h) (y.ok X W h) (marks_none hb)⟩
    | .Lt => some ⟨dBin gLt x.f y.f, fun X W h => vt_cmp (opr_lt h.room.units0) op_gLt sc_gLt (x.ok X W h) (y.ok X W h) (marks_none hb)⟩
    | .LtE => some ⟨dBin (gCmpI fun i j => decide (i ≤ j)) x.f y.f, fun X W h => vt_cmp op_le op_gCmpI sc_gCmpI (x.ok X W h) (y.ok X W h) (marks_none hb)⟩
    | .Gt => if C.gt then some ⟨dBin gGt x.f y.f, fun X W h => vt_cmp (opr_gt h.room.units0) op_gGt sc_gGt (x.ok X W h) (y.ok X W h) (marks_none hb)⟩ else some ⟨dBin (gCmpI fun i j => decide (j < i)) x.f y.f, fun X W h => vt_cmp op_gt op_gCmpI sc_gCmpI (x.ok X W h) (y.ok X W h) (marks_none hb)⟩
    | .GtE => some ⟨dBin (gCmpI fun i j => decide (j ≤ i)) x.f y.f, fun X W h => vt_cmp op_ge op_gCmpI sc_gCmpI (x.ok X W h) (y.ok X W h) (marks_none hb)⟩
    | .Is => some ⟨dBin gIsN x.f y.f, fun X W h => vt_cmp op_isN op_gIsN sc_gIsN (x.ok X W h) (y.ok X W h) (marks_none hb)⟩
    | .IsNot => some ⟨dBin gNotN x.f y.f, fun X W h => vt_cmp op_notN op_gNotN sc_gNotN (x.ok X W h) (y.ok X W h) (marks_none hb)⟩
    | .In => some ⟨dBin gIn x.f y.f, fun X W h => vt_cmp (opr_in (hu65 h.room)) op_gIn sc_gIn (x.ok X W h) (y.ok X W h) (marks_none hb)⟩
    | .NotIn => some ⟨dBin gNotIn x.f y.f, fun X W h => vt_cmp (opr_notIn (hu65 h.room)) op_gNotIn sc_gNotIn (x.ok X W h) (y.ok X W h) (marks_none hb)⟩
  | _, _ => none) else none
def cAnd (pos : Pos) : (es : List Expr) → Option (RE C (.BoolOp .And es pos))
  | [] => none
  | [a] => match r.e C a with
    | some x => some ⟨x.st, x.nw, x.f, fun X W h => ve_one (x.ok X W h)⟩
    | none => none
  | a :: b :: es => match r.e C a, cAnd pos (b :: es) with
    | some x, some y => some ⟨y.st, y.nw, dAnd x.f y.f, fun X W h => ve_and (x.ok X W h) (y.ok X W h)⟩
    | _, _ => none
def cOr (pos : Pos) : (es : List Expr) → Option (RE C (.BoolOp .Or es pos))
  | [] => none
  | [a] => match r.e C a with
    | some x => some ⟨x.st, x.nw, x.f, fun X W h => ve_one (x.ok X W h)⟩
    | none => none
  | a :: b :: es => match r.e C a, cOr pos (b :: es) with
    | some x, some y => some ⟨y.st, y.nw, dOr x.f y.f, fun X W h => ve_or (x.ok X W h) (y.ok X W h)⟩
    | _, _ => none
structure RW' (C : Cfg) (e : Expr) where
  f : DX
  ok : ∀ X W, COk C X W → VW X W C.md e f
def wAnd (pos : Pos) : (es : List Expr) → Option (RW' C (.BoolOp .And es pos))
  | [] => none
  | [a] => match r.t C a with
    | some x => some ⟨x.f, fun X W h => vw_and1 (x.ok X W h)⟩
    | none => none
  | a :: b :: es => match r.t C a, wAnd pos (b :: es) with
    | some x, some y => some ⟨dAnd x.f y.f, fun X W h => vw_and (x.ok X W h) (y.ok X W h)⟩
    | _, _ => none
def wOr (pos : Pos) : (es : List Expr) → Option (RW' C (.BoolOp .Or es pos))
  | [] => none
  | [a] => match r.t C a with
    | some x => some ⟨x.f, fun X W h => vw_or1 (x.ok X W h)⟩
    | none => none
  | a :: b :: es => match r.t C a, wOr pos (b :: es) with
    | some x, some y => some ⟨dOr x.f y.f, fun X W h => vw_or (x.ok X W h) (y.ok X W h)⟩
    | _, _ => none
/-- a test -/
def stepT (e : Expr) : Option (RT C e) := match e with
  | .UnaryOp .Not a pos => match r.t C a with
    | some x => some ⟨dNot x.f, fun X W h => vt_not (x.ok X W h)⟩
    | none => none
  | .BoolOp .And es pos => match wAnd r C pos es with
    | some x => some ⟨x.f, fun X W h => (x.ok X W h).vt⟩
    | none => none
  | .BoolOp .Or es pos => match wOr r C pos es with
    | some x => some ⟨x.f, fun X W h => (x.ok X W h).vt⟩
    | none => none
  | .Compare a [op] [b] pos => tCmp' r C a op b pos
  | e => if hv : isVal e = true then (match r.e C e with
    | some x => some ⟨x.f, fun X W h => vt_val' (x.ok X W h) (isVal_ok hv)⟩
    | none => none) else none
def cPart (o : Option Expr) : Option {f : DEnv → RG (Option Int) // ∀ X W, COk C X W → VO X W C.md o f} := match o with
  | none => some ⟨dNo, fun X W h => vo_none⟩
  | some e => match r.e C e with
    | some x => some ⟨dPart x.f, fun X W h => vo_some (x.ok X W h)⟩
    | none => none
def cSub (a b : Expr) (pos : Pos) : Option (RE C (.Subscript a b pos)) := match b with
  | .Slice lo hi none p2 => match r.e C a, cPart r C lo, cPart r C hi with
    | some x, some l, some h => some ⟨true, x.nw, dSl x.f l.1 h.1, fun X W k => ve_slice (x.ok X W k) (l.2 X W k) (h.2 X W k)⟩
    | _, _, _ => none
  | b => if hp : plainIx b = true then (match r.e C a, r.e C b with
    | some x, some y => some ⟨true, x.nw && y.nw, dBin gIx x.f y.f, fun X W h => ve_ix (by have := h.room.un; omega) (x.ok X W h) (y.ok X W h) (plainIx_ok hp)⟩
    | _, _ => none) else none
def findF (x : Str) : Option {F : FEnt // F ∈ C.fns ∧ F.name = x} := match h : C.fns.find? (fun F => decide (F.name = x)) with
  | some F => some ⟨F, List.mem_of_find?_eq_some h, by simpa using List.find?_some h⟩
  | none => none
/-- a call that is a value -/
def cCall (x : Str) (p : Pos) (es : List Expr) (pos : Pos) : Option (RE C (.Call (.Name x p) es [] pos)) := match es with
  | [] => none
  | e :: es => match cArgs r C (e :: es) with
    | none => none
    | some a => if hs : (e :: es).all starless = true then
      (match findF C x with
      | some ⟨F, hm, hn⟩ => if hg : isGl (lk C x) = true ∧ okNm x = true ∧ F.ar = (e :: es).length then
          (if hf : F.fresh = true then some ⟨true, true, dCall F.den a.f, fun X W h => by subst hn; exact ve_call hf (h.fns F hm) h.room (h.gl hg.1) h.tk (a.ok X W h) (fun env ds q => by rw [hg.2.2]; exact a.len env ds q) (okNm1 hg.2.1) hs⟩
          else if ha : a.st = true then some ⟨true, a.nw, dCall F.den a.f, fun X W h => by subst hn; exact ve_callA (by simpa using hf) (h.fns F hm) h.room (h.gl hg.1) h.tk (by have := a.ok X W h; rw [ha] at this; exact this) (fun env ds q => by rw [hg.2.2]; exact a.len env ds q) (okNm1 hg.2.1) hs⟩
          else none)
        else none
      | none => if hb : bltOk C x = true then
          (if h1 : x = ("len" : Str) then some ⟨true, true, dCallO gLen a.f, fun X W h => by subst h1; exact ve_bltS call_len cd_len sc_len (h.bltAt hb PySem.boot_len) (a.ok X W h) hs⟩
          else if h1 : x = ("max" : Str) then some ⟨true, true, dCallO gMax a.f, fun X W h => by subst h1; exact ve_bltS ((cr_max h.calm).or (call_max2 h.calm)) cd_max sc_max (h.bltAt hb (by decide +kernel)) (a.ok X W h) hs⟩
          else if h1 : x = ("min" : Str) then some ⟨true, true, dCallO gMin a.f, fun X W h => by subst h1; exact ve_bltS ((cr_min h.calm).or (call_min2 h.calm)) cd_min sc_min (h.bltAt hb (by decide +kernel)) (a.ok X W h) hs⟩
          else if h1 : x = ("all" : Str) then some ⟨true, true, dCallO gAll a.f, fun X W h => by subst h1; exact ve_bltS (cr_all h.calm) cd_all sc_all (h.bltAt hb (by decide +kernel)) (a.ok X W h) hs⟩
          else if h1 : x = ("any" : Str) then some ⟨true, true, dCallO gAny a.f, fun X W h => by subst h1; exact ve_bltS (cr_any h.calm) cd_any sc_any (h.bltAt hb (by decide +kernel)) (a.ok X W h) hs⟩
          else if h1 : x = ("sum" : Str) then some ⟨true, true, dCallO gSum a.f, fun X W h => by subst h1; exact ve_bltS (cr_sum h.calm) cd_sum sc_sum (h.bltAt hb (by decide +kernel)) (a.ok X W h) hs⟩
          else if h1 : x = ("abs" : Str) then some ⟨true, true, dCallO gAbs a.f, fun X W h => by subst h1; exact ve_bltS call_abs cd_abs sc_abs (h.bltAt hb (by decide +kernel)) (a.ok X W h) hs⟩
          else if h1 : x = ("tuple" : Str) then some ⟨true, a.nw, dCallO gTuple a.f, fun X W h => by subst h1; exact ve_bty call_tuple_of cd_tuple (h.bltAt hb (by decide +kernel)) (a.ok X W h) hs⟩
          else none) else none)
      else none
/-- isinstance(e, T) -/
def tyOf (x : Str) : Option {t : TyN // x = Str.ofString t.nm} :=
  if h : x = Str.ofString TyN.list.nm then some ⟨.list, h⟩
  else if h : x = Str.ofString TyN.tuple.nm then some ⟨.tuple, h⟩
  else if h : x = Str.ofString TyN.bool.nm then some ⟨.bool, h⟩
  else if h : x = Str.ofString TyN.int.nm then some ⟨.int, h⟩
  else if h : x = Str.ofString TyN.str.nm then some ⟨.str, h⟩
  else none
theorem tyBoot (t : TyN) : bootBuiltins (Str.ofString t.nm) = some (.type t.nm) := by cases t <;> decide +kernel
def cInst (p : Pos) (e : Expr) (y : Str) (p2 : Pos) (pos : Pos) : Option (RE C (.Call (.Name "isinstance" p) [e, .Name y p2] [] pos)) := match tyOf y, r.e C e with
  | some ⟨t, ht⟩, some x => if hb : bltOk C "isinstance" = true ∧ bltOk C y = true ∧ starless e = true then some ⟨true, true, dIsT t x.f, fun X W h => by
      subst ht
      exact ve_isinst (h.bltAt hb.1 (by decide +kernel)) (h.bltAt hb.2.1 (tyBoot t)) (x.ok X W h) hb.2.2⟩ else none
  | _, _ => none
end
end Dl
/-! Dl10: new lists by + and slices, dicts made, what stands free of the entry, the reader's steps. -/
namespace Dl
open PySem PySem.Spec PyProof.Rows L2 RZ RT
section
variable {X : Cx} {W : WX} {md : Mds} {fr st nw sa na sb nb bo : Bool} {e a b tg : Expr} {f fa fb : DX} {pos : Pos} {es : List Expr} {fs : DXs} {g h : DS}
/-! ### new lists -/
theorem vf_cat (ha : VE X W md sa na a fa) (hb : VE X W md sb nb b fb) : VF X W md (na && nb) (.BinOp a .Add b pos) (dBin gCatL fa fb) :=
  ⟨(pe_op opr_add ha.run hb.run).imp fun σ H Q ⟨T, H0, B, env, R, p⟩ => ⟨T, H0, B, env, R, p.bind.mono fun dx x H1 s1 _ p1 rx => ⟨T, H0, B, env, R.same s1, p1.bind.mono fun dy y H2 s2 _ p2 ry => by
    have rx' := (rx.same s2).weak fun a z => Avd.mono (nw := na && nb) (fun e => (Bool.and_eq_true_iff.mp e).1) z
    have ry' := ry.weak fun a z => Avd.mono (nw := na && nb) (fun e => (Bool.and_eq_true_iff.mp e).2) z
    cases dx with
    | lst xs => cases dy with
      | lst ys =>
        have p2 : EP0 X.KM W σ H2 (RG.ofO (if xs.length + ys.length ≤ sizeLine then some (D.lst (xs ++ ys)) else none)) _ := p2
        by_cases hz : xs.length + ys.length ≤ sizeLine
        · rw [if_pos hz] at p2
          obtain ⟨a, vs, rfl, h, r⟩ := rx'.lst
          obtain ⟨b, ws, rfl, h2, r2⟩ := ry'.lst
          refine .inl (.inl (.inr ⟨a, b, vs, ws, rfl, rfl, h, h2, by rw [r.length, r2.length]; exact hz, fun q nq => ?_⟩))
          exact p2 _ _ (same_new nq) ⟨q, rfl, Same.free (s1.trans s2) nq, vs ++ ws, upd_same, (r.append r2).new nq⟩
        · rw [if_neg hz] at p2
          exact p2.elim
      | _ => exact p2.elim
    | _ => exact p2.elim⟩⟩⟩
def gSlL : D → Option Int → Option Int → Option D
  | .lst ds, l, h => some (.lst (cutD ds l h))
  | .frl ds, l, h => some (.lst (cutD ds l h))
  | _, _, _ => none
def dSlL (f : DX) (l h : DEnv → RG (Option Int)) : DX := fun env => (f env).bind fun x => (l env).bind fun i => (h env).bind fun j => .ofO (gSlL x i j)
theorem vf_slice {lo hi : Option Expr} {fl fh : DEnv → RG (Option Int)} {p2 : Pos} (he : VE X W md st nw e f) (hl : VO X W md lo fl) (hh : VO X W md hi fh) : VF X W md nw (.Subscript e (.Slice lo hi none p2) pos) (dSlL f fl fh) :=
  ⟨(pe_slice sl_all he.run hl.run hh.run).imp fun σ H Q ⟨T, H0, B, env, R, p⟩ => ⟨T, H0, B, env, R, p.bind.mono fun dx x H1 s1 _ p1 r1 =>
    ⟨T, H0, B, env, R.same s1, p1.bind.mono fun l _ H2 s2 _ p2 =>
      ⟨T, H0, B, env, (R.same s1).same s2, p2.bind.mono fun h _ H3 s3 _ p3 => by
        have r3 := (r1.same s2).same s3
        have fin : ∀ {vs : List V} {ds : List D}, Rps (X.KM.at T) H3 (Avd md σ env T H0 nw) vs ds → EP0 X.KM W σ H3 (RG.ok (D.lst (cutD ds l h))) (fun d v H' => (∃ p, v = V.ref p ∧ H p = none ∧ Top (X.KM.at T) H' (fun a => Avd md σ env T H0 nw a ∨ a = p) p d) → Q v H') → ∀ q, H3 q = none → Q (.ref q) (upd H3 q (.lst (cutV vs l h))) := fun r p q nq =>
          p _ _ (same_new nq) ⟨q, rfl, Same.free ((s1.trans s2).trans s3) nq, _, upd_same, (r.cut l h).new nq⟩
        cases dx with
        | lst ds =>
          obtain ⟨a, vs, rfl, hh, r⟩ := r3.lst
          exact .inl ⟨a, vs, rfl, SqL.of hh, fin r p3⟩
        | frl ds =>
          obtain ⟨a, vs, rfl, hh, r⟩ := r3.frl
          exact .inl ⟨a, vs, rfl, hh.sq, fin r p3⟩
        | _ => exact p3.elim⟩⟩⟩⟩
/-- {} -/
theorem vf_dnew (t : Bool) : VF X W md true (.Dict [] [] pos) (dC (.dic t [] [])) := by
  cases t with
  | false => exact ⟨pe_dnewK.imp fun σ H Q ⟨T, H0, B, env, R, p⟩ => fun q nq => p _ _ (same_new nq) ⟨q, rfl, nq, [], ⟨[], upd_same, rfl, rfl⟩, .nil⟩⟩
  | true => exact ⟨pe_dnewT.imp fun σ H Q ⟨T, H0, B, env, R, p⟩ => fun q nq => p _ _ (same_new nq) ⟨q, rfl, nq, [], ⟨[], upd_same, rfl, rfl⟩, .nil⟩⟩
/-! ### free of the entry -/
def tDQ (K : KM) (W : WX) (md : Mds) (f : DX) : TE := fun σ H Q => ∃ (T : TL) (H0 B : Hp) (env : DEnv), Rel K md T H0 B H σ env ∧
  EP0 K W σ H (f env) fun d v H' => Rp (K.at T) H' (fun a => ∃ o, H0 a = some o) v d → Q v H'
def tDQs (K : KM) (W : WX) (md : Mds) (f : DXs) : TA := fun σ H Q => ∃ (T : TL) (H0 B : Hp) (env : DEnv), Rel K md T H0 B H σ env ∧
  EP0 K W σ H (f env) fun ds vs H' => Rps (K.at T) H' (fun a => ∃ o, H0 a = some o) vs ds → Q vs H'
structure VQ (X : Cx) (W : WX) (md : Mds) (e : Expr) (f : DX) : Prop where
  run : PE X e (tDQ X.KM W md f)
structure VQs (X : Cx) (W : WX) (md : Mds) (es : List Expr) (f : DXs) : Prop where
  run : PA X es (tDQs X.KM W md f)
theorem VE.vq (h : VE X W md true true e f) : VQ X W md e f := ⟨h.run.imp fun σ H Q ⟨T, H0, B, env, R, p⟩ => ⟨T, H0, B, env, R, p.mono fun d v H' _ _ q r => q (r.strict.weak fun a z => .inr (.inr ⟨rfl, z⟩))⟩⟩
theorem vq_own {i : Nat} {x : Str} (hN : X.N[i]? = some x) (hv : Vis X.env.scope x) (hd : (x == ("__debug__" : Str)) = false) (hcd : (x == ("__classdict__" : Str)) = false) (ho : (mdAt md i).own = true) (hw : (mdAt md i).nw = true) :
    VQ X W md (.Name x pos) (dVar i) := ⟨(pe_var hN hv hd hcd).imp fun σ H Q ⟨T, H0, B, env, R, p⟩ => by
  unfold dVar at p
  split at p
  · next d e =>
    cases hl : isLD d with
    | false =>
      obtain ⟨v, ev, i, r⟩ := R.ownedI e ho hl
      exact ⟨_, ev, p _ H (Same.refl _) (Rp.imm _ _ r i)⟩
    | true =>
    obtain ⟨a, ev, oa, t⟩ := R.owned e ho hl
    have nA : ¬ ∃ o, H0 a = some o := fun ⟨o, z⟩ => by
      obtain ⟨u, z⟩ := R.s0 _ _ z
      rw [R.out i a oa] at z
      cases z
    refine ⟨_, ev, p _ H (Same.refl _) ?_⟩
    have w : ∀ b, (∃ o, H0 b = some o) → Avd md σ env T H0 (mdAt md i).nw b := fun b z => .inr (.inr ⟨hw, z⟩)
    cases d with
    | lst ds => obtain ⟨vs, e, r⟩ := t; exact Rp.lst.mpr ⟨a, vs, rfl, nA, e, r.weak w⟩
    | dic b ks ws => obtain ⟨vs, e, r⟩ := t; exact Rp.dic.mpr ⟨a, vs, rfl, nA, e.mono fun _ z => .inl z, r.weak w⟩
    | non => exact t.elim
    | bl _ => exact t.elim
    | int _ => exact t.elim
    | str _ => exact t.elim
    | tup _ => exact t.elim
    | frl _ => exact t.elim
    | ktp _ => exact t.elim
    | obj _ => exact t.elim
  · exact p.elim⟩
/-- a new list or dict whose items are free of lists -/
def immL : D → Bool
  | .lst ds => imms ds
  | .dic _ ks ws => imms ks && imms ws
  | _ => false
def dImmL (f : DX) : DX := fun env => (f env).bind fun d => if immL d then .ok d else .bad
theorem Top.imm {K : KF} {H : Hp} {A A' : Pred} {p : Addr} {d : D} (t : Top K H A p d) (h : immL d = true) : Top K H A' p d := by
  cases d with
  | lst ds => obtain ⟨vs, e, r⟩ := t; exact ⟨vs, e, Rps.imm _ _ r h⟩
  | dic b ks ws =>
    have h : (imms ks && imms ws) = true := h
    rw [Bool.and_eq_true] at h
    obtain ⟨vs, e, r⟩ := t
    exact ⟨vs, e, Rps.imm _ _ r h.2⟩
  | non => exact t.elim
  | bl _ => exact t.elim
  | int _ => exact t.elim
  | str _ => exact t.elim
  | tup _ => exact t.elim
  | frl _ => exact t.elim
  | ktp _ => exact t.elim
  | obj _ => exact t.elim
theorem Top.weakA {K : KF} {H : Hp} {A A' : Pred} {p : Addr} {d : D} (t : Top K H A p d) (w : ∀ b, A' b → A b) : Top K H A' p d := by
  cases d with
  | lst ds => obtain ⟨vs, e, r⟩ := t; exact ⟨vs, e, r.weak w⟩
  | dic b ks ws => obtain ⟨vs, e, r⟩ := t; exact ⟨vs, e, r.weak w⟩
  | non => exact t.elim
  | bl _ => exact t.elim
  | int _ => exact t.elim
  | str _ => exact t.elim
  | tup _ => exact t.elim
  | frl _ => exact t.elim
  | ktp _ => exact t.elim
  | obj _ => exact t.elim
theorem VF.immL (h : VF X W md nw e f) : VF X W md true e (dImmL f) := ⟨h.run.imp fun σ H Q ⟨T, H0, B, env, R, p⟩ => ⟨T, H0, B, env, R, by
  unfold dImmL at p
  exact p.bind.mono fun d v H' s _ q t => by
    obtain ⟨a, rfl, np, t⟩ := t
    by_cases ok : Dl.immL d = true
    · rw [if_pos ok] at q
      exact q _ _ (Same.refl _) ⟨a, rfl, np, t.imm ok⟩
    · rw [if_neg ok] at q
      exact q.elim⟩⟩
theorem VF.vq (h : VF X W md true e f) : VQ X W md e f := ⟨h.run.imp fun σ H Q ⟨T, H0, B, env, R, p⟩ => ⟨T, H0, B, env, R, p.mono fun d v H' s _ q t => by
    obtain ⟨a, rfl, np, t⟩ := t
    refine q (Top.rpA (A := fun a => ∃ o, H0 a = some o) ?_ ?_)
    · exact t.weakA fun b z => z.elim (fun z => .inl (.inr (.inr ⟨rfl, z⟩))) .inr
    · rintro ⟨o, z⟩
      obtain ⟨u, z⟩ := R.s0 _ _ z
      rw [R.sB _ _ z] at np
      cases np⟩⟩
theorem vqs_nil : VQs X W md [] dNil := ⟨pa_nil.imp fun σ H Q ⟨T, H0, B, env, R, p⟩ => p [] H (Same.refl _) .nil⟩
theorem vqs_cons (h : VQ X W md e f) (hr : VQs X W md es fs) (hs : starEach (e :: es) X.env = (false, eval e X.env) :: starEach es X.env) : VQs X W md (e :: es) (dCons f fs) :=
  ⟨(pa_cons h.run hr.run hs).imp fun σ H Q ⟨T, H0, B, env, R, p⟩ => ⟨T, H0, B, env, R, p.bind.mono fun d v H1 s1 _ p1 r1 =>
    ⟨T, H0, B, env, R.same s1, p1.bind.mono fun ds vs H2 s2 _ p2 r2 => p2 (v :: vs) H2 (Same.refl _) (.cons (r1.same s2) r2)⟩⟩⟩
theorem vq_tup {k : Nat} (h : VQs X W md es fs) : VQ X W md (.Tuple es k pos) (dTup fs) :=
  ⟨(pe_tup h.run).imp fun σ H Q ⟨T, H0, B, env, R, p⟩ => ⟨T, H0, B, env, R, p.bind.mono fun ds vs H1 s1 _ p1 r => by
    by_cases z : ds.length ≤ sizeLine
    · rw [if_pos z] at p1
      refine ⟨by rw [r.length]; exact z, fun q nq => ?_⟩
      exact p1 _ _ (same_new nq) (Rp.tup.mpr ⟨q, vs, rfl, upd_same, (r.same (same_new nq))⟩)
    · rw [if_neg z] at p1
      exact p1.elim⟩⟩
theorem vs_retQ (hw : hasW md = false) (he : VQ X W md e f) : VS X W md true (.Return (some e) pos) (dRetV f) :=
  ⟨(ps_ret he.run).imp fun D σ H ⟨T0, T, H0, B, env, t0, R, p⟩ => ⟨T, H0, B, env, R, (out_of t0 R p).mono fun d v H' s _ q r => by
    cases hl : isLD d with
    | true => rw [hl, if_pos rfl] at q; exact q.elim
    | false =>
      rw [hl, if_neg Bool.false_ne_true] at q
      exact q T v H' t0 (R.sB.trans s) (frm t0 hw (show Rpf (X.KM.at T) H' (fun a => ∃ o, H0 a = some o) v d from Rp.rpf r hl))⟩⟩
/-- a statement that is never reached -/
def dNever : DS := fun _ => .bad
theorem vs_never {s : Stmt} : VS X W md fr s dNever := ⟨ps_never.imp fun D σ H ⟨T0, T, H0, B, env, t0, R, p⟩ => p⟩
/-- x = y of an owned y that is not asked again: it goes over -/
def dMove (i j : Nat) : DS := fun env => match env[j]? with
  | some (some d) => if isLD d = true then .nx ((env.set j none).set i (some d)) else .bad
  | _ => .bad
theorem Rel.move {K : KM} {T : TL} {H0 B H : Hp} {σ : L2.St} {env : DEnv} (R : Rel K md T H0 B H σ env) {i j : Nat} {d : D} {a : Addr} (hij : i ≠ j) (ej : env[j]? = some (some d)) (oa : OwnAt md σ env j a) (hp : (mdAt md i).dp = 0) (hw : ((mdAt md i).nw && !(mdAt md j).nw) = false) (t : Top (K.at T) H (Avd md σ env T H0 (mdAt md j).nw) a d) :
    Rel K md T H0 B H (σ.set i (some (.ref a))) ((env.set j none).set i (some d)) := by
  have own : ∀ {k b}, OwnAt md (σ.set i (some (.ref a))) ((env.set j none).set i (some d)) k b → (k ≠ i ∧ k ≠ j ∧ OwnAt md σ env k b) ∨ (k = i ∧ (mdAt md i).own = true ∧ b = a) := fun {k b} o => by
    obtain ⟨h1, ⟨d', h2, hl'⟩, h3⟩ := o
    by_cases z : k = i
    · subst z
      refine .inr ⟨rfl, h1, ?_⟩
      by_cases hl : k < σ.length
      · rw [List.getElem?_set_self hl] at h3
        cases h3
        rfl
      · rw [List.getElem?_eq_none (by simpa using hl)] at h3
        cases h3
    · rw [List.getElem?_set_ne (Ne.symm z)] at h2 h3
      obtain ⟨hk, h2⟩ := kill_lookup h2
      exact .inl ⟨z, hk, h1, ⟨d', h2, hl'⟩, h3⟩
  have av : ∀ {m b}, Avd md (σ.set i (some (.ref a))) ((env.set j none).set i (some d)) T H0 m b → Avd md σ env T H0 m b := fun {m b} h => by
    rcases h with ⟨k, o⟩ | h
    · rcases own o with ⟨_, _, o⟩ | ⟨_, _, e⟩
      · exact .inl ⟨k, o⟩
      · subst e; exact .inl ⟨j, oa⟩
    · exact .inr h
  have nA : ∀ m, (∀ k b, OwnAt md (σ.set i (some (.ref a))) ((env.set j none).set i (some d)) k b → k ≠ i) → ¬ Avd md (σ.set i (some (.ref a))) ((env.set j none).set i (some d)) T H0 m a := fun m no z => by
    rcases z with ⟨k, o⟩ | z | ⟨_, u, z⟩
    · rcases own o with ⟨_, hj, o'⟩ | ⟨e, _, _⟩
      · exact hj (R.sep k j a o' oa)
      · exact no k a o e
    · exact R.tO j a oa z
    · obtain ⟨w, z⟩ := R.s0 _ _ z
      rw [R.out j a oa] at z
      cases z
  refine ⟨R.s0, R.sB, R.tB, by simp [R.len], fun k d2 e hd => ?_, fun k b o => ?_, fun k l b o o' => ?_, fun k b o => ?_, R.st, R.tM, fun k d2 e hd => by
    have hk : k ≠ i := fun z => by subst z; exact hd hp
    rw [List.getElem?_set_ne (Ne.symm hk)] at e
    rw [List.getElem?_set_ne (Ne.symm hk)]
    exact R.deep k d2 (kill_lookup e).2 hd, fun k d2 e hd => by
    have hk : k ≠ i := fun z => by subst z; rw [hp] at hd; exact absurd hd (by decide)
    rw [List.getElem?_set_ne (Ne.symm hk)] at e
    exact (R.sto k d2 (kill_lookup e).2 hd).weak fun _ => av⟩
  · by_cases z : k = i
    · subst z
      by_cases hl : k < env.length
      · rw [List.getElem?_set_self (by simpa using hl)] at e
        cases e
        refine ⟨_, List.getElem?_set_self (by rw [R.len]; exact hl), ?_⟩
        have wk : ∀ b, Avd md (σ.set k (some (.ref a))) ((env.set j none).set k (some d)) T H0 (mdAt md k).nw b → Avd md σ env T H0 (mdAt md j).nw b := fun b z => Avd.mono (fun e => by rw [e] at hw; simpa using hw) (av z)
        unfold SlotOk
        by_cases ho : (mdAt md k).own = true
        · rw [if_pos ho]
          exact .ofTop (t.carry (.weak wk) fun _ u => u)
        · rw [if_neg ho]
          have nA' := nA (mdAt md k).nw fun k' b o e => by subst e; exact ho o.1
          cases d with
          | lst ds => obtain ⟨vs, e, r⟩ := t; exact Rp.lst.mpr ⟨a, vs, rfl, nA', e, r.weak wk⟩
          | dic b ks ws => obtain ⟨vs, e, r⟩ := t; exact Rp.dic.mpr ⟨a, vs, rfl, nA', e.mono fun _ z => .inl z, r.weak wk⟩
          | non => exact t.elim
          | bl _ => exact t.elim
          | int _ => exact t.elim
          | str _ => exact t.elim
          | tup _ => exact t.elim
          | frl _ => exact t.elim
          | ktp _ => exact t.elim
          | obj _ => exact t.elim
      · rw [List.getElem?_eq_none (by simpa using hl)] at e
        cases e
    · rw [List.getElem?_set_ne (Ne.symm z)] at e
      obtain ⟨hk, e⟩ := kill_lookup e
      obtain ⟨v, ev, q⟩ := R.slot k d2 e hd
      refine ⟨v, by rw [List.getElem?_set_ne (Ne.symm z)]; exact ev, ?_⟩
      unfold SlotOk at *
      split at q
      · next h => rw [if_pos h]; exact q.carry (.weak fun _ => av) fun _ _ _ _ u => u
      · next h => rw [if_neg h]; exact q.weak fun _ => av
  · rcases own o with ⟨_, _, o⟩ | ⟨_, _, e⟩
    · exact R.out k b o
    · subst e; exact R.out j _ oa
  · rcases own o with ⟨hi, hj, o1⟩ | ⟨hi, _, e⟩ <;> rcases own o' with ⟨hk, hl, o2⟩ | ⟨hk, _, e'⟩
    · exact R.sep k l b o1 o2
    · subst e'; exact absurd (R.sep k j _ o1 oa) hj
    · subst e; exact absurd (R.sep l j _ o2 oa) hl
    · rw [hi, hk]
  · rcases own o with ⟨_, _, o⟩ | ⟨_, _, e⟩
    · exact R.tO k b o
    · subst e; exact R.tO j _ oa
theorem vs_move {i j : Nat} {x y : Str} {p1 p2 : Pos} (hij : i ≠ j) (hnd : X.N.Nodup) (hi : X.N[i]? = some x) (hx : L2.Loc X.env.scope x) (hf : X.fn x = true ∨ X.env.scope.names.lookup x = some .local) (hN : X.N[j]? = some y) (hv : Vis X.env.scope y) (hd : (y == ("__debug__" : Str)) = false) (hcd : (y == ("__classdict__" : Str)) = false)
    (ho : (mdAt md j).own = true) (hp : (mdAt md i).dp = 0) (hw : ((mdAt md i).nw && !(mdAt md j).nw) = false) : VS X W md fr (.Assign [.Name x p1] (.Name y p2) pos) (dMove i j) :=
  ⟨(ps_set hnd hi hx (pe_var hN hv hd hcd) rfl hf).imp fun D σ H ⟨T0, T, H0, B, env, t0, R, p⟩ => by
    unfold dMove at p
    cases ee : env[j]? with
    | none => rw [ee] at p; exact p.elim
    | some o =>
      cases o with
      | none => rw [ee] at p; exact p.elim
      | some d =>
        rw [ee] at p
        have p2 : SP0 X.KM W md fr T0 H0 B (if isLD d = true then .nx ((env.set j none).set i (some d)) else .bad) D := p
        clear p
        cases hl : isLD d with
        | false => rw [hl, if_neg Bool.false_ne_true] at p2; exact p2.elim
        | true =>
        rw [if_pos hl] at p2
        obtain ⟨a, ev, oa, t⟩ := R.owned ee ho hl
        exact ⟨_, ev, p2 T _ H t0 (R.move hij ee oa hp hw t)⟩⟩
end
end Dl
/-! Dl10b: int(x), x, y = a, b, sorted, max and min of data. -/
namespace Dl
open PySem PySem.Spec PyProof.Rows L2 RZ RT
section
variable {X : Cx} {W : WX} {md : Mds} {fr st nw sa na sb nb bo : Bool} {e a b tg : Expr} {f fa fb : DX} {pos : Pos} {es : List Expr} {fs : DXs} {g h : DS}
/-! ### int(x) of a number, a truth -/
def gInt : List D → Option D
  | [.int i] => some (.int i)
  | [.bl k] => some (.int (if k then 1 else 0))
  | _ => none
theorem cd_int : CallD X (fun xs H Q => (∃ i, xs = [.int i] ∧ Q (.int i) H) ∨ ∃ k, xs = [.bl k] ∧ Q (.int (if k then 1 else 0)) H) gInt := by
  intro l H A xs ds Q _ r p
  unfold gInt at p
  split at p
  · obtain ⟨v, rfl, q⟩ := r.one
    exact .inl ⟨_, by rw [q.int], gp_scalar p (Rp.int.mpr rfl)⟩
  · obtain ⟨v, rfl, q⟩ := r.one
    exact .inr ⟨_, by rw [q.bl], gp_scalar p (Rp.int.mpr rfl)⟩
  · exact p.elim
theorem sc_int : ScalarN gInt := by
  intro ds d e
  unfold gInt at e
  split at e <;> cases e <;> rfl
theorem ve_btyS {x : Str} {id : String} {p : Pos} {r : List V → Hp → VK → Prop} {g : List D → Option D} (hc : CallR X (.type id) r) (hg : CallD X r g) (hsc : ScalarN g) (hb : BltAt X x (.type id)) (ha : VA X W md st nw (e :: es) fs)
    (hs : (e :: es).all starless = true) : VE X W md true true (.Call (.Name x p) (e :: es) [] pos) (dCallO g fs) := by
  rw [List.all_cons, Bool.and_eq_true] at hs
  exact ⟨(pe_callTy hc hb.gl hb.mg hb.bt ha.run hb.nm hb.db (notStar hs.1) (backTo_any hs.2)).imp fun _ _ _ h => blt_readingS hg hsc h⟩
/-! ### x, y = a, b -/
def dParL (is : List Nat) (fs : DXs) : DS := fun env => (fs env).out env fun ds => if ds.length = is.length then .nx ((is.zip ds).foldl (fun e p => e.set p.1 (some p.2)) env) else .bad
theorem vs_par2 {i j : Nat} {x y : Str} {px py pt pt2 : Pos} {kt k2 : Nat} (hc : X.calm = true) (hN : X.N.Nodup) (hi : X.N[i]? = some x) (hj : X.N[j]? = some y) (hij : i ≠ j)
    (hx : X.env.scope.names.lookup x = some .local) (hy : X.env.scope.names.lookup y = some .local) (ha : VA X W md true nw [a, b] fs)
    (hw : swappedStores [.Tuple [.Name x px, .Name y py] kt pt] (.Tuple [a, b] k2 pt2) X.env = pure (some [x, y]))
    (hs : swapsWithSole [.Tuple [.Name x px, .Name y py] kt pt] (.Tuple [a, b] k2 pt2) pos.line X.env = pure false)
    (oi : (mdAt md i).own = false) (oj : (mdAt md j).own = false) (pi : (mdAt md i).dp = 0) (pj : (mdAt md j).dp = 0) (wi : ((mdAt md i).nw && !nw) = false) (wj : ((mdAt md j).nw && !nw) = false) :
    VS X W md fr (.Assign [.Tuple [.Name x px, .Name y py] kt pt] (.Tuple [a, b] k2 pt2) pos) (dParL [i, j] fs) :=
  ⟨(ps_par hc hN hi hj hij hx hy ha.run hw hs).imp fun D σ H ⟨T0, T, H0, B, env, t0, R, p⟩ => ⟨T, H0, B, env, R, (out_of t0 R p).mono fun ds vs H1 s _ q r => by
    cases r with
    | nil => exact q.elim
    | cons r1 t =>
      cases t with
      | nil => exact q.elim
      | cons r2 t =>
        cases t with
        | cons _ _ =>
          exact (show False from by
            have q : SP0 X.KM W md fr T0 H0 B (if _ then _ else Out.bad) D := q
            rw [if_neg (by simp)] at q
            exact q.elim).elim
        | nil =>
          have q : ∀ T σ' H', TIn (hasW md) T0 B T → Rel X.KM md T H0 B H' σ' ((env.set i (some _)).set j (some _)) → D.nx σ' H' := q
          have R1 := R.same s
          have a1 := R1.setShared (i := i) oi pi (r1.strict.weak fun a z => Avd.mono (fun e => by rw [e] at wi; simpa using wi) z)
          refine ⟨_, _, rfl, q T _ H1 t0 (a1.setShared (i := j) oj pj ?_)⟩
          rw [avd_set oi]
          exact r2.strict.weak fun a z => Avd.mono (fun e => by rw [e] at wj; simpa using wj) z⟩⟩
theorem vs_par3 {i j l : Nat} {x y z : Str} {c : Expr} {px py pz pt pt2 : Pos} {kt k2 : Nat} (hc : X.calm = true) (hN : X.N.Nodup) (hi : X.N[i]? = some x) (hj : X.N[j]? = some y) (hl : X.N[l]? = some z) (hij : i ≠ j) (hil : i ≠ l) (hjl : j ≠ l)
    (hx : X.env.scope.names.lookup x = some .local) (hy : X.env.scope.names.lookup y = some .local) (hz : X.env.scope.names.lookup z = some .local) (ha : VA X W md true nw [a, b, c] fs)
    (hw : swappedStores [.Tuple [.Name x px, .Name y py, .Name z pz] kt pt] (.Tuple [a, b, c] k2 pt2) X.env = pure (some [x, y, z]))
    (hs : swapsWithSole [.Tuple [.Name x px, .Name y py, .Name z pz] kt pt] (.Tuple [a, b, c] k2 pt2) pos.line X.env = pure false)
    (oi : (mdAt md i).own = false) (oj : (mdAt md j).own = false) (ol : (mdAt md l).own = false) (pi : (mdAt md i).dp = 0) (pj : (mdAt md j).dp = 0) (pl : (mdAt md l).dp = 0) (wi : ((mdAt md i).nw && !nw) = false) (wj : ((mdAt md j).nw && !nw) = false) (wl : ((mdAt md l).nw && !nw) = false) :
    VS X W md fr (.Assign [.Tuple [.Name x px, .Name y py, .Name z pz] kt pt] (.Tuple [a, b, c] k2 pt2) pos) (dParL [i, j, l] fs) :=
  ⟨(ps_par3 hc hN hi hj hl hij hil hjl hx hy hz ha.run hw hs).imp fun D σ H ⟨T0, T, H0, B, env, t0, R, p⟩ => ⟨T, H0, B, env, R, (out_of t0 R p).mono fun ds vs H1 s _ q r => by
    cases r with
    | nil => exact q.elim
    | cons r1 t =>
      cases t with
      | nil => exact q.elim
      | cons r2 t =>
        cases t with
        | nil => exact q.elim
        | cons r3 t =>
          cases t with
          | cons _ _ =>
            exact (show False from by
              have q : SP0 X.KM W md fr T0 H0 B (if _ then _ else Out.bad) D := q
              rw [if_neg (by simp)] at q
              exact q.elim).elim
          | nil =>
            have q : ∀ T σ' H', TIn (hasW md) T0 B T → Rel X.KM md T H0 B H' σ' (((env.set i (some _)).set j (some _)).set l (some _)) → D.nx σ' H' := q
            have R1 := R.same s
            have a1 := R1.setShared (i := i) oi pi (r1.strict.weak fun a z => Avd.mono (fun e => by rw [e] at wi; simpa using wi) z)
            have a2 := a1.setShared (i := j) oj pj (by
              rw [avd_set oi]
              exact r2.strict.weak fun a z => Avd.mono (fun e => by rw [e] at wj; simpa using wj) z)
            refine ⟨_, _, _, rfl, q T _ H1 t0 (a2.setShared (i := l) ol pl ?_)⟩
            rw [avd_set oj, avd_set oi]
            exact r3.strict.weak fun a z => Avd.mono (fun e => by rw [e] at wl; simpa using wl) z⟩⟩
end
/-! ### data in order -/
def leD : D → D → Bool := PySem.W.dataLe false toPy
def srtD (ds : List D) : List D := ds.mergeSort leD
def isTupP : PyData → Bool
  | .tuple (_ :: _) => true
  | _ => false
def noTupP : PyData → Bool
  | .tuple _ => false
  | .none => false
  | _ => true
/-- data that are sorted: all of one kind -/
def srtOk (ds : List D) : Bool := ds.all (fun d => noDic d && (toPy d).canLay0 && decide ((toPy d).depth ≤ 50) && ds.all fun e => PySem.W.alike (toPy d) (toPy e)) && (ds.all (fun d => isTupP (toPy d)) || ds.all fun d => noTupP (toPy d)) && decide (ds.length ≤ sizeLine)
theorem isTupP_ok {d : PyData} (h : isTupP d = true) : ∃ x r, d = .tuple (x :: r) := by
  unfold isTupP at h
  split at h
  · exact ⟨_, _, rfl⟩
  · cases h
theorem noTupP_ok {d : PyData} (h : noTupP d = true) : d ≠ .none ∧ ∀ xs, d ≠ .tuple xs := by
  unfold noTupP at h
  split at h
  · cases h
  · cases h
  · next h1 h2 => exact ⟨fun e => h2 e, fun xs e => h1 xs e⟩
section
variable {X : Cx} {pins : List (Addr × Obj)} {σ : L2.St} {H : Hp} {s : Shared}
/-- values, as they stand in the machine, beside their data -/
theorem each_rel {K : KF} : ∀ {vs : List V} {us : List Value} {ds : List D}, Vals vs us → Rps K H (fun _ => False) vs ds → PySem.W.EachIs (fun u (p : V × D) => RelV p.1 u) us (vs.zip ds)
  | [], _, [], .nil, _ => .nil
  | [], _, _ :: _, .nil, r => by have := r.length; cases this
  | v :: vs, _, [], .cons _ _, r => by have := r.length; cases this
  | v :: vs, _, d :: ds, .cons h t, r => by
    obtain ⟨v', r', e, q, rt⟩ := r.uncons
    cases e
    exact .cons h (each_rel t rt)
theorem each_reads {l : List Addr} (I : Inv X pins σ H s) : ∀ {vs : List V} {us : List Value} {ds : List D}, Vals vs us → Rps ⟨X.KM, l⟩ H (fun _ => False) vs ds → (∀ d ∈ ds, noDic d = true) → PySem.W.EachIs (fun u (p : V × D) => ∃ as, Reads s.heap u (toPy p.2) as) us (vs.zip ds)
  | [], _, [], .nil, _, _ => .nil
  | [], _, _ :: _, .nil, r, _ => by have := r.length; cases this
  | v :: vs, _, [], .cons _ _, r, _ => by have := r.length; cases this
  | v :: vs, _, d :: ds, .cons h t, r, n => by
    obtain ⟨v', r', e, q, rt⟩ := r.uncons
    cases e
    exact .cons (Dp.reads I _ _ _ (dp_of d _ q (n d (by simp))) h) (each_reads I t rt fun d hd => n d (by simp [hd]))
theorem each_vals : ∀ {us : List Value} {l : List (V × D)}, PySem.W.EachIs (fun u (p : V × D) => RelV p.1 u) us l → Vals (l.map (·.1)) us
  | _, _, .nil => .nil
  | _, _, .cons h t => .cons h (each_vals t)
theorem zip_snd {α β : Type} : ∀ {xs : List α} {ys : List β}, xs.length = ys.length → (xs.zip ys).map (·.2) = ys
  | [], [], _ => rfl
  | [], _ :: _, h => by cases h
  | _ :: _, [], h => by cases h
  | x :: xs, y :: ys, h => by
    rw [List.zip_cons_cons, List.map_cons, zip_snd (by simpa using h)]
theorem Rps.zip {K : KF} {A : Pred} : ∀ {vs : List V} {ds : List D}, Rps K H A vs ds → ∀ p ∈ vs.zip ds, Rp K H A p.1 p.2
  | _, [], h => by rw [h.nil_eq]; intro p hp; cases hp
  | _, d :: ds, h => by
    obtain ⟨v, r, rfl, q, t⟩ := h.uncons
    intro p hp
    rw [List.zip_cons_cons] at hp
    rcases List.mem_cons.mp hp with e | hp
    · rw [e]; exact q
    · exact Rps.zip t p hp
theorem Rps.ofPairs {K : KF} {A : Pred} : ∀ {l : List (V × D)}, (∀ p ∈ l, Rp K H A p.1 p.2) → Rps K H A (l.map (·.1)) (l.map (·.2))
  | [], _ => .nil
  | p :: l, h => .cons (h p (by simp)) (Rps.ofPairs fun q hq => h q (by simp [hq]))
def rSrtD (K : KM) : List V → Hp → VK → Prop := fun vs H Q => ∃ (a : Addr) (xs : List V) (ds : List D), vs = [V.ref a] ∧ SqL K.k H a xs ∧ (∃ l, Rps ⟨K, l⟩ H (fun _ => False) xs ds) ∧ srtOk ds = true ∧
  ∀ (l : List (V × D)) (p : Addr), l.Perm (xs.zip ds) → l.map (·.2) = srtD ds → H p = none → Q (.ref p) (upd H p (.lst (l.map (·.1))))
theorem cr_srtD (hu : X.A.units + 100 < cLine) : CallR X (.builtin "sorted") (rSrtD X.KM) := by
  intro pins s σ H vs us Q I r h
  obtain ⟨a, xs, ds, rfl, hs, ⟨l0, rp⟩, ok, q⟩ := h
  unfold srtOk at ok
  simp only [Bool.and_eq_true, List.all_eq_true, decide_eq_true_eq, Bool.or_eq_true] at ok
  obtain ⟨⟨ok1, ok2⟩, ok3⟩ := ok
  obtain ⟨its, rv, hl, hz⟩ := I.list hs
  rw [Vals.ref1 r]
  have hlen : xs.length = ds.length := rp.length
  have mem : ∀ p ∈ xs.zip ds, p.2 ∈ ds := fun p hp => (List.of_mem_zip hp).2
  refine PySem.W.sorted_data (β := V × D) (vs := its) (bs := xs.zip ds) (enc := fun p => toPy p.2) (R := fun u p => RelV p.1 u) hl.isList (each_rel rv rp) (each_reads I rv rp fun d hd => (ok1 d hd).1.1.1) ?_ ?_ ?_ ?_ ?_
  · intro d hd d' hd'
    obtain ⟨p, hp, rfl⟩ := List.mem_map.mp hd
    obtain ⟨p', hp', rfl⟩ := List.mem_map.mp hd'
    exact (ok1 _ (mem p hp)).2 _ (mem p' hp')
  · rcases ok2 with ok2 | ok2
    · exact .inl fun d hd => by
        obtain ⟨p, hp, rfl⟩ := List.mem_map.mp hd
        exact isTupP_ok (ok2 _ (mem p hp))
    · exact .inr fun d hd => by
        obtain ⟨p, hp, rfl⟩ := List.mem_map.mp hd
        exact noTupP_ok (ok2 _ (mem p hp))
  · rw [List.length_zip]; omega
  · intro p hp
    have := (ok1 _ (mem p hp)).1.2
    omega
  · intro out ho he
    have hz2 : ((xs.zip ds).mergeSort (PySem.W.dataLe false fun p : V × D => toPy p.2)).length ≤ sizeLine := by
      rw [List.length_mergeSort, List.length_zip]
      omega
    have hd : s.heap.objs.size ≤ s.heap.objs.size + 1 := Nat.le_succ _
    obtain ⟨n, hn⟩ := sortedAll_at s.heap its out.toArray
    refine ⟨.ref (s.heap.objs.size + 1), _, I.laid (a := s.heap.objs.size + 1) (o := .lst (((xs.zip ds).mergeSort (PySem.W.dataLe false fun p : V × D => toPy p.2)).map (·.1))) (t' := s.toks) (fun b o e => sortedAll_old e) hd ⟨by rw [List.length_map]; exact hz2, out, n, each_vals he, hn⟩, rfl, q _ _ (List.mergeSort_perm _ _) ?_ (I.hok.fresh hd)⟩
    have e1 : ((xs.zip ds).mergeSort (PySem.W.dataLe false fun p : V × D => toPy p.2)).map (·.2) = ((xs.zip ds).map (·.2)).mergeSort leD := by
      rw [List.map_mergeSort]
      intro a _ b _
      rfl
    rw [e1, zip_snd hlen]
    rfl
end
section
variable {X : Cx} {W : WX} {md : Mds} {st nw : Bool} {e : Expr} {es : List Expr} {fs : DXs} {pos : Pos}
def sortedO (d : D) : Option D := match d with
  | .lst ds => if srtOk ds then some (.lst (srtD ds)) else none
  | _ => none
def oneO (g : D → Option D) (ds : List D) : RG D := match ds with
  | [d] => .ofO (g d)
  | _ => .bad
def dSorted (fs : DXs) : DX := fun env => (fs env).bind (oneO sortedO)
theorem vf_sorted {p : Pos} (hu : X.A.units + 100 < cLine) (hb : BltAt X "sorted" (.builtin "sorted")) (ha : VA X W md st nw (e :: es) fs) (hs : (e :: es).all starless = true) : VF X W md nw (.Call (.Name "sorted" p) (e :: es) [] pos) (dSorted fs) := by
  rw [List.all_cons, Bool.and_eq_true] at hs
  refine ⟨(pe_callB (cr_srtD hu) hb.gl hb.mg hb.bt ha.run hb.nm hb.db (notStar hs.1) (backTo_any hs.2)).imp fun σ H Q ⟨T, H0, B, env, R, q⟩ => ⟨T, H0, B, env, R, q.bind.mono fun ds xs H1 s1 _ q1 r => ?_⟩⟩
  match ds, r, q1 with
  | [d], r, q1 =>
    obtain ⟨v, rfl, rd⟩ := r.one
    cases d with
    | lst ds =>
      have q1 : EP0 X.KM W σ H1 (RG.ofO (if srtOk ds then some (D.lst (srtD ds)) else none)) _ := q1
      by_cases ok : srtOk ds = true
      · rw [if_pos ok] at q1
        obtain ⟨a, vs, rfl, h, t⟩ := rd.lst
        refine ⟨a, vs, ds, rfl, SqL.of h, ⟨_, t.weak (fun _ z => z.elim)⟩, ok, fun l p hp he np => q1 _ _ (same_new np) ⟨p, rfl, Same.free s1 np, _, upd_same, ?_⟩⟩
        rw [← he]
        refine Rps.ofPairs fun x hx => ?_
        exact Rp.carry (Carry.new np) _ _ (Rps.zip t x (hp.mem_iff.mp hx))
      · rw [if_neg ok] at q1
        exact q1.elim
    | _ => exact q1.elim
  | [], r, q1 => exact q1.elim
  | _ :: _ :: _, r, q1 => exact q1.elim
end
/-! ### max, min of data -/
mutual
theorem toPy_inj : ∀ (a b : D), noDic a = true → noDic b = true → toPy a = toPy b → a = b
  | .non, b, _, hb, e => by
    cases b <;> first | (unfold noDic at hb; cases hb; done) | rfl | (unfold toPy at e; cases e)
  | .bl x, b, _, hb, e => by
    cases b <;> first | (unfold toPy at e; cases e; rfl) | (unfold toPy at e; cases e) | (unfold noDic at hb; cases hb)
  | .int x, b, _, hb, e => by
    cases b <;> first | (unfold toPy at e; cases e; rfl) | (unfold toPy at e; cases e) | (unfold noDic at hb; cases hb)
  | .str x, b, _, hb, e => by
    cases b <;> first | (unfold toPy at e; cases e; rfl) | (unfold toPy at e; cases e) | (unfold noDic at hb; cases hb)
  | .tup xs, b, ha, hb, e => by
    cases b with
    | tup ys =>
      unfold toPy at e
      unfold noDic at ha hb
      rw [toPys_inj xs ys ha hb (PyData.tuple.inj e)]
    | _ => first | (unfold noDic at hb; cases hb; done) | (unfold toPy at e; cases e)
  | .lst xs, b, ha, hb, e => by
    cases b with
    | lst ys =>
      unfold toPy at e
      unfold noDic at ha hb
      rw [toPys_inj xs ys ha hb (PyData.list.inj e)]
    | _ => first | (unfold noDic at hb; cases hb; done) | (unfold toPy at e; cases e)
  | .frl _, b, ha, _, _ => by unfold noDic at ha; cases ha
  | .ktp _, b, ha, _, _ => by unfold noDic at ha; cases ha
  | .dic _ _ _, b, ha, _, _ => by unfold noDic at ha; cases ha
theorem toPys_inj : ∀ (as bs : List D), noDics as = true → noDics bs = true → toPys as = toPys bs → as = bs
  | [], [], _, _, _ => rfl
  | [], _ :: _, _, _, e => by unfold toPys at e; cases e
  | _ :: _, [], _, _, e => by unfold toPys at e; cases e
  | a :: as, b :: bs, ha, hb, e => by
    unfold toPys at e
    unfold noDics at ha hb
    rw [Bool.and_eq_true] at ha hb
    injection e with e1 e2
    rw [toPy_inj a b ha.1 hb.1 e1, toPys_inj as bs ha.2 hb.2 e2]
end
theorem toPys_map : ∀ ds : List D, toPys ds = ds.map toPy
  | [] => by unfold toPys; rfl
  | d :: ds => by unfold toPys; rw [toPys_map ds]; rfl
/-- the first of the greatest (least) -/
def maxOfD (d : D) (ds : List D) : D := ds.foldl (fun a y => if PySem.W.dataLt (toPy a) (toPy y) then y else a) d
def minOfD (d : D) (ds : List D) : D := ds.foldl (fun a y => if PySem.W.dataLt (toPy y) (toPy a) then y else a) d
theorem maxOfD_toPy : ∀ (ds : List D) (d : D), toPy (maxOfD d ds) = PySem.W.maxD (toPy d) (ds.map toPy)
  | [], d => rfl
  | y :: ds, d => by
    show toPy (maxOfD (if PySem.W.dataLt (toPy d) (toPy y) then y else d) ds) = _
    rw [maxOfD_toPy ds]
    show _ = PySem.W.maxD (if PySem.W.dataLt (toPy d) (toPy y) then toPy y else toPy d) (ds.map toPy)
    split <;> rfl
theorem minOfD_toPy : ∀ (ds : List D) (d : D), toPy (minOfD d ds) = PySem.W.minD (toPy d) (ds.map toPy)
  | [], d => rfl
  | y :: ds, d => by
    show toPy (minOfD (if PySem.W.dataLt (toPy y) (toPy d) then y else d) ds) = _
    rw [minOfD_toPy ds]
    show _ = PySem.W.minD (if PySem.W.dataLt (toPy y) (toPy d) then toPy y else toPy d) (ds.map toPy)
    split <;> rfl
theorem maxOfD_mem : ∀ (ds : List D) (d : D), maxOfD d ds ∈ d :: ds
  | [], d => by simp [maxOfD]
  | y :: ds, d => by
    have := maxOfD_mem ds (if PySem.W.dataLt (toPy d) (toPy y) then y else d)
    show maxOfD (if PySem.W.dataLt (toPy d) (toPy y) then y else d) ds ∈ _
    rcases List.mem_cons.mp this with e | e
    · rw [e]; split <;> simp
    · simp [e]
theorem minOfD_mem : ∀ (ds : List D) (d : D), minOfD d ds ∈ d :: ds
  | [], d => by simp [minOfD]
  | y :: ds, d => by
    have := minOfD_mem ds (if PySem.W.dataLt (toPy y) (toPy d) then y else d)
    show minOfD (if PySem.W.dataLt (toPy y) (toPy d) then y else d) ds ∈ _
    rcases List.mem_cons.mp this with e | e
    · rw [e]; split <;> simp
    · simp [e]
def mmOk (ds : List D) : Bool := ds.all (fun d => noDic d && (toPy d).canLay0 && !isNon d && decide ((toPy d).depth ≤ 50) && ds.all fun e => PySem.W.alike (toPy d) (toPy e))
section
variable {X : Cx}
/-- the item whose data is that -/
def rOneD (K : KM) (pick : D → List D → D) : List V → Hp → VK → Prop := fun vs H Q => ∃ (l : List Addr) (a : Addr) (xs : List V) (d : D) (ds : List D), vs = [V.ref a] ∧ (SqL K.k H a xs ∨ SqT K.k H a xs) ∧ Rps ⟨K, l⟩ H (fun _ => False) xs (d :: ds) ∧ mmOk (d :: ds) = true ∧ imm (pick d ds) = true ∧
  ∀ v, Rp ⟨K, l⟩ H (fun _ => False) v (pick d ds) → Q v H
theorem depthAll_le : ∀ (ds : List PyData) (n : Nat), (∀ d ∈ ds, d.depth ≤ n) → PyData.depthAll ds ≤ n
  | [], n, _ => by rw [PyData.depthAll]; omega
  | d :: ds, n, h => by
    rw [PyData.depthAll]
    have h1 := h d (by simp)
    have h2 := depthAll_le ds n fun e he => h e (by simp [he])
    omega
theorem vals_at {us : List Value} {vs : List V} (r : Vals vs us) {i : Nat} {u : Value} (h : us[i]? = some u) : ∃ v, vs[i]? = some v ∧ RelV v u := by
  induction r generalizing i with
  | nil => simp at h
  | cons r1 _ ih =>
    cases i with
    | zero => simp at h; subst h; exact ⟨_, rfl, r1⟩
    | succ i => exact ih (by simpa using h)
theorem one_core {l : List Addr} {pins : List (Addr × Obj)} {s : Shared} {σ : L2.St} {H : Hp} {Q : VK} (I : Inv X pins σ H s) {xs : List V} {its : List Value} {ds : List D} {w : D} (rv : Vals xs its) (rp : Rps ⟨X.KM, l⟩ H (fun _ => False) xs ds) (ok : mmOk ds = true) (hw : w ∈ ds)
    (q : ∀ v, Rp ⟨X.KM, l⟩ H (fun _ => False) v w → Q v H) {i : Nat} {v : Value} {h' : Heap} {tk : Tok} {bs : List Addr} (hi : its.toArray[i]? = some v) (hr : Reads h' v (toPy w) bs) (hk : ∀ b o, s.heap.get? b = some o → h'.get? b = some o) :
    ∃ x H', Inv X pins σ H' { s with heap := h', toks := tk } ∧ RelV x v ∧ Q x H' := by
  unfold mmOk at ok
  simp only [Bool.and_eq_true, List.all_eq_true, decide_eq_true_eq] at ok
  obtain ⟨x, hx, rx⟩ := vals_at rv (by simpa using hi)
  have hil : i < ds.length := by
    rw [← rp.length]
    exact (List.getElem?_eq_some_iff.mp hx).1
  obtain ⟨x', hx', rd⟩ := rp.get (List.getElem?_eq_getElem hil)
  rw [hx] at hx'
  cases hx'
  have hd : ds[i] ∈ ds := List.getElem_mem hil
  obtain ⟨as, r1⟩ := Dp.reads I _ _ _ (dp_of _ _ rd (ok _ hd).1.1.1.1) rx
  have r2 : Reads h' v (toPy ds[i]) as := PyProof.Rows.Reads.keeps hk r1
  have e := (Reads.unique r2 _ _ hr).1
  have e2 := toPy_inj _ _ (ok _ hd).1.1.1.1 (ok _ hw).1.1.1.1 e
  rw [e2] at rd
  exact ⟨x, H, I.kept hk, rx, q x rd⟩
theorem mm_pre {d : D} {ds : List D} (ok : mmOk (d :: ds) = true) : PySem.W.AlikeAll (toPy d :: ds.map toPy) ∧ PyData.depthAll (toPy d :: ds.map toPy) ≤ 50 := by
  unfold mmOk at ok
  simp only [Bool.and_eq_true, List.all_eq_true, decide_eq_true_eq] at ok
  rw [show toPy d :: ds.map toPy = (d :: ds).map toPy from rfl]
  refine ⟨⟨fun x hx y hy => ?_, fun x hx => ?_⟩, depthAll_le _ _ fun x hx => ?_⟩
  · obtain ⟨p, hp, rfl⟩ := List.mem_map.mp hx
    obtain ⟨p', hp', rfl⟩ := List.mem_map.mp hy
    exact (ok p hp).2 p' hp'
  · obtain ⟨p, hp, rfl⟩ := List.mem_map.mp hx
    have := (ok p hp).1.1
    intro e
    have hn := this.2
    cases p <;> first | (unfold toPy at e; cases e; done) | (have h0 := this.1.1; unfold noDic at h0; cases h0; done) | (simp [isNon] at hn)
  · obtain ⟨p, hp, rfl⟩ := List.mem_map.mp hx
    exact (ok p hp).1.2
theorem cr_maxD (hc : X.calm = true) (hu : X.A.units + 100 < cLine) : CallR X (.builtin "max") (rOneD X.KM maxOfD) := by
  intro pins s σ H vs us Q I r h
  obtain ⟨l0, a, xs, d, ds, rfl, hs, rp, ok, _, q⟩ := h
  rw [Vals.ref1 r]
  obtain ⟨al, dp⟩ := mm_pre ok
  have nd : noDics (d :: ds) = true := by
    unfold mmOk at ok
    simp only [Bool.and_eq_true, List.all_eq_true, decide_eq_true_eq] at ok
    have : ∀ l : List D, (∀ x ∈ l, noDic x = true) → noDics l = true := by
      intro l
      induction l with
      | nil => intro _; rfl
      | cons y l ih => intro hh; unfold noDics; rw [Bool.and_eq_true]; exact ⟨hh y (by simp), ih fun z hz => hh z (by simp [hz])⟩
    exact this _ fun x hx => (ok x hx).1.1.1.1
  rcases hs with hs | hs
  · obtain ⟨its, rv, hl, hz⟩ := I.list hs
    obtain ⟨as, hr⟩ := Dp.readsAll I _ xs its (dps_of (d :: ds) xs rp nd) rv
    rw [toPys_map] at hr
    refine PySem.W.max_list_data (I.ok.hd hc) hl.isList hr al (by omega) fun i v h' tk bs hi hrd hk => ?_
    rw [← maxOfD_toPy] at hrd
    exact one_core I rv rp ok (maxOfD_mem ds d) q hi hrd hk
  · obtain ⟨its, rv, hl, hz⟩ := I.tuple hs
    obtain ⟨as, hr⟩ := Dp.readsAll I _ xs its (dps_of (d :: ds) xs rp nd) rv
    rw [toPys_map] at hr
    refine PySem.W.max_tuple_data (I.ok.hd hc) hl hr al (by omega) fun i v h' tk bs hi hrd hk => ?_
    rw [← maxOfD_toPy] at hrd
    exact one_core I rv rp ok (maxOfD_mem ds d) q hi hrd hk
theorem cr_minD (hc : X.calm = true) (hu : X.A.units + 100 < cLine) : CallR X (.builtin "min") (rOneD X.KM minOfD) := by
  intro pins s σ H vs us Q I r h
  obtain ⟨l0, a, xs, d, ds, rfl, hs, rp, ok, _, q⟩ := h
  rw [Vals.ref1 r]
  obtain ⟨al, dp⟩ := mm_pre ok
  have nd : noDics (d :: ds) = true := by
    unfold mmOk at ok
    simp only [Bool.and_eq_true, List.all_eq_true, decide_eq_true_eq] at ok
    have : ∀ l : List D, (∀ x ∈ l, noDic x = true) → noDics l = true := by
      intro l
      induction l with
      | nil => intro _; rfl
      | cons y l ih => intro hh; unfold noDics; rw [Bool.and_eq_true]; exact ⟨hh y (by simp), ih fun z hz => hh z (by simp [hz])⟩
    exact this _ fun x hx => (ok x hx).1.1.1.1
  rcases hs with hs | hs
  · obtain ⟨its, rv, hl, hz⟩ := I.list hs
    obtain ⟨as, hr⟩ := Dp.readsAll I _ xs its (dps_of (d :: ds) xs rp nd) rv
    rw [toPys_map] at hr
    refine PySem.W.min_list_data (I.ok.hd hc) hl.isList hr al (by omega) fun i v h' tk bs hi hrd hk => ?_
    rw [← minOfD_toPy] at hrd
    exact one_core I rv rp ok (minOfD_mem ds d) q hi hrd hk
  · obtain ⟨its, rv, hl, hz⟩ := I.tuple hs
    obtain ⟨as, hr⟩ := Dp.readsAll I _ xs its (dps_of (d :: ds) xs rp nd) rv
    rw [toPys_map] at hr
    refine PySem.W.min_tuple_data (I.ok.hd hc) hl hr al (by omega) fun i v h' tk bs hi hrd hk => ?_
    rw [← minOfD_toPy] at hrd
    exact one_core I rv rp ok (minOfD_mem ds d) q hi hrd hk
def gOneD (pick : D → List D → D) : List D → Option D
  | [.lst (d :: ds)] => if mmOk (d :: ds) && imm (pick d ds) then some (pick d ds) else none
  | [.tup (d :: ds)] => if mmOk (d :: ds) && imm (pick d ds) then some (pick d ds) else none
  | _ => none
theorem cd_oneD {pick : D → List D → D} : CallD X (rOneD X.KM pick) (gOneD pick) := by
  intro l H A xs ds Q _ r p
  unfold gOneD at p
  split at p
  · next d ds =>
    split at p
    · next ok =>
      rw [Bool.and_eq_true] at ok
      obtain ⟨v, rfl, q⟩ := r.one
      obtain ⟨a, vs, rfl, h, t⟩ := q.lst
      exact ⟨_, a, vs, d, ds, rfl, .inl (SqL.of h), t.weak (fun _ z => z.elim), ok.1, ok.2, fun v rv => gp_scalar p (Rp.imm _ _ rv ok.2)⟩
    · exact p.elim
  · next d ds =>
    split at p
    · next ok =>
      rw [Bool.and_eq_true] at ok
      obtain ⟨v, rfl, q⟩ := r.one
      obtain ⟨a, vs, rfl, h, t⟩ := q.tup
      exact ⟨_, a, vs, d, ds, rfl, .inr (SqT.of h), t.weak (fun _ z => z.elim), ok.1, ok.2, fun v rv => gp_scalar p (Rp.imm _ _ rv ok.2)⟩
    · exact p.elim
  · exact p.elim
theorem sc_oneD {pick : D → List D → D} : ScalarN (gOneD pick) := by
  intro ds d e
  unfold gOneD at e
  split at e
  · split at e
    · next ok =>
      rw [Bool.and_eq_true] at ok
      cases e
      exact ok.2
    · cases e
  · split at e
    · next ok =>
      rw [Bool.and_eq_true] at ok
      cases e
      exact ok.2
    · cases e
  · cases e
/-- max(l), min(l), of numbers or of data of one kind -/
def gMaxA : List D → Option D := fun ds => match gMaxL ds with
  | some d => some d
  | none => gOneD maxOfD ds
def gMinA : List D → Option D := fun ds => match gMinL ds with
  | some d => some d
  | none => gOneD minOfD ds
theorem cd_maxA : CallD X (fun xs H Q => rMax X.K xs H Q ∨ rOneD X.KM maxOfD xs H Q) gMaxA := cd_or cd_maxL cd_oneD fun ds => by
  unfold gMaxA
  cases h : gMaxL ds with
  | none => exact .inr rfl
  | some d => exact .inl rfl
theorem cd_minA : CallD X (fun xs H Q => rMin X.K xs H Q ∨ rOneD X.KM minOfD xs H Q) gMinA := cd_or cd_minL cd_oneD fun ds => by
  unfold gMinA
  cases h : gMinL ds with
  | none => exact .inr rfl
  | some d => exact .inl rfl
theorem sc_maxA : ScalarN gMaxA := by
  intro ds d e
  unfold gMaxA at e
  cases h : gMaxL ds with
  | none => rw [h] at e; exact sc_oneD _ _ e
  | some z => rw [h] at e; cases e; exact sc_maxL _ _ h
theorem sc_minA : ScalarN gMinA := by
  intro ds d e
  unfold gMinA at e
  cases h : gMinL ds with
  | none => rw [h] at e; exact sc_oneD _ _ e
  | some z => rw [h] at e; cases e; exact sc_minL _ _ h
end
/-! ### {"a": 1, ..} -/
section
variable {X : Cx} {W : WX} {md : Mds} {st nw : Bool} {pos : Pos}
def isIntD : D → Bool
  | .int _ => true
  | _ => false
def dDict (ks : List Str) (fs : DXs) : DX := fun env => (fs env).bind fun ws => if ws.all isIntD && decide (ws.length = ks.length) then .ok (.dic false (ks.map D.str) ws) else .bad
def tDPs (K : KM) (W : WX) (md : Mds) (nw : Bool) (ks : List Str) (fs : DXs) : L2.St → Hp → (List (V × V) → Hp → Prop) → Prop := fun σ H Q => ∃ (T : TL) (H0 B : Hp) (env : DEnv), Rel K md T H0 B H σ env ∧
  EP0 K W σ H (fs env) fun ds vs H' => Rks true (K.at T) H' (Avd md σ env T H0 nw) vs ds → Q ((ks.map V.str).zip vs) H'
structure VPs (X : Cx) (W : WX) (md : Mds) (nw : Bool) (pos : Pos) (keys : List (Option Expr)) (vals : List Expr) (ks : List Str) (fs : DXs) : Prop where
  run : ∃ trs, PPs X pos keys vals trs ∧ ∀ σ H Q, tDPs X.KM W md nw ks fs σ H Q → tPairs trs σ H Q
theorem vps_nil : VPs X W md nw pos [] [] [] dNil := ⟨[], pps_nil, fun σ H Q ⟨T, H0, B, env, R, p⟩ => p [] H (Same.refl _) .nil⟩
theorem vps_cons {x : Str} {j : _} {kp : Pos} {keys : List (Option Expr)} {e : Expr} {vals : List Expr} {ks : List Str} {f : DX} {fs : DXs} (h : VE X W md true nw e f) (hr : VPs X W md nw pos keys vals ks fs) :
    VPs X W md nw pos (some (.Constant (.str x) j kp) :: keys) (e :: vals) (x :: ks) (dCons f fs) := by
  obtain ⟨trs, hp, ih⟩ := hr.run
  refine ⟨_, pps_cons pe_str h.run hp, fun σ H Q ⟨T, H0, B, env, R, p⟩ => ?_⟩
  exact ⟨T, H0, B, env, R, p.bind.mono fun d v H1 s1 _ p1 r1 => ih _ _ _ ⟨T, H0, B, env, R.same s1, p1.bind.mono fun ds vs H2 s2 _ p2 r2 => p2 (v :: vs) H2 (Same.refl _) (.cons (r1.same s2) r2)⟩⟩
theorem ints_of {K : KF} {H : Hp} {A : Pred} : ∀ {vs : List V} {ds : List D}, Rks true K H A vs ds → ds.all isIntD = true → ∀ (H' : Hp) (A' : Pred), Rps K H' A' vs ds
  | _, _, .nil, _, _, _ => .nil
  | _, _, .cons (d := d) r t, h, H', A' => by
    rw [List.all_cons, Bool.and_eq_true] at h
    cases d with
    | int i =>
      have r : Rp K H A _ (.int i) := r
      exact .cons (Rp.int.mpr (Rp.int.mp r)) (ints_of t h.2 H' A')
    | _ => cases h.1
theorem mergeK_new : ∀ (more acc : List (Key × V)), (acc ++ more).map (·.1) |>.Nodup → mergeK acc more = acc ++ more
  | [], acc, _ => by simp [mergeK]
  | p :: more, acc, h => by
    have hn : valV acc p.1 = none := by
      unfold valV
      have : acc.find? (fun kv => decide (kv.1 = p.1)) = none := by
        rw [List.find?_eq_none]
        intro q hq
        rw [List.map_append, List.nodup_append] at h
        simpa using h.2.2 q.1 (List.mem_map.mpr ⟨q, hq, rfl⟩) p.1 (by simp)
      rw [this]
      rfl
    show mergeK (putK acc p.1 p.2) more = _
    rw [putK_new p.2 hn, mergeK_new more (acc ++ [(p.1, p.2)]) (by simpa using h)]
    simp
theorem vf_dict {keys : List (Option Expr)} {vals : List Expr} {ks : List Str} {fs : DXs} (h : VPs X W md nw pos keys vals ks fs) (hall : keys.all (·.isSome) = true) (hl : keys.length = vals.length) (h0 : keys ≠ []) (h15 : keys.length ≤ 15) (hk : ks.Nodup) (hkl : ks.length = keys.length) : VF X W md nw (.Dict keys vals pos) (dDict ks fs) := by
  obtain ⟨trs, hp, ih⟩ := h.run
  refine ⟨(pe_disp hp hall hl h0 h15).imp fun σ H Q ⟨T, H0, B, env, R, p⟩ => fun q nq => ih _ _ _ ⟨T, H0, B, env, R.same (same_new nq), ?_⟩⟩
  unfold dDict at p
  cases hf : fs env with
  | bad => rw [hf] at p; exact p.elim
  | exc c f => rw [hf] at p; exact EP0.same (show EP0 X.KM W σ H (RG.exc c f : RG (List D)) _ from p) (same_new nq)
  | ok ds =>
    rw [hf] at p
    have p : EP0 X.KM W σ H (if ds.all isIntD && decide (ds.length = ks.length) then RG.ok (D.dic false (ks.map D.str) ds) else RG.bad) _ := p
    by_cases ok : (ds.all isIntD && decide (ds.length = ks.length)) = true
    case neg => rw [if_neg ok] at p; exact p.elim
    rw [if_pos ok] at p
    rw [Bool.and_eq_true, decide_eq_true_eq] at ok
    intro vs H2 s2 r
    have ev : vs.length = ks.length := r.length.trans ok.2
    have e2 : H2 q = some (.dK []) := s2 _ _ upd_same
    have zl : ((ks.map Sum.inr).zip vs : List (Key × V)).map (·.1) = ks.map Sum.inr := List.map_fst_zip (by simp [ev])
    have mk : mergeK [] ((ks.map Sum.inr).zip vs : List (Key × V)) = (ks.map Sum.inr).zip vs := by
      rw [mergeK_new _ [] (by
        rw [List.nil_append, zl]
        exact List.Pairwise.map _ (fun a b hab e => hab (by cases e; rfl)) hk)]
      rfl
    refine ⟨e2, (ks.map Sum.inr).zip vs, ?_, by simp; omega, ?_⟩
    · have : ∀ (ks : List Str) (vs : List V), (ks.map V.str).zip vs = ((ks.map Sum.inr).zip vs : List (Key × V)).map fun kv => (kV kv.1, kv.2) := by
        intro ks
        induction ks with
        | nil => intro vs; rfl
        | cons k ks ih => intro vs; cases vs with
          | nil => rfl
          | cons v vs => simp only [List.map_cons, List.zip_cons_cons, ih]; rfl
      exact this ks vs
    · rw [mk]
      refine p _ _ (fun b x e => ?_) ⟨q, rfl, nq, vs, ⟨_, upd_same, ?_, ?_⟩, ints_of r ok.1 _ _⟩
      · have hb : b ≠ q := fun z => by subst z; rw [nq] at e; cases e
        rw [upd_ne hb]
        exact s2 _ _ (same_new nq _ _ e)
      · have : ∀ (ks : List Str) (vs : List V), vs.length = ks.length → ((ks.map Sum.inr).zip vs : List (Key × V)).map (fun p => keyD p.1) = ks.map D.str := by
          intro ks
          induction ks with
          | nil => intro vs _; rfl
          | cons k ks ih => intro vs hl; cases vs with
            | nil => cases hl
            | cons v vs => simp only [List.map_cons, List.zip_cons_cons, ih vs (by simpa using hl)]; rfl
        exact this ks vs ev
      · exact List.map_snd_zip (by simp [ev])
end
end Dl
/-! Dl10c: dict(l) of a list of pairs whose keys are tuples. -/
namespace Dl
open PySem PySem.Spec PyProof.Rows L2
section
variable {X : Cx}
def mergeT (kvs : List (List Key × Addr × V)) (acc : List (List Key × V)) : List (List Key × V) := kvs.foldl (fun acc kv => putK acc kv.1 kv.2.2) acc
theorem length_mergeT : ∀ (kvs : List (List Key × Addr × V)) (acc : List (List Key × V)), (mergeT kvs acc).length ≤ acc.length + kvs.length
  | [], acc => Nat.le_refl _
  | kv :: kvs, acc => by
    have h := length_mergeT kvs (putK acc kv.1 kv.2.2)
    have h2 : (putK acc kv.1 kv.2.2).length ≤ acc.length + 1 := by
      unfold putK
      split <;> simp
    show (mergeT kvs (putK acc kv.1 kv.2.2)).length ≤ _
    rw [List.length_cons]
    omega
theorem KT.merge {H : Hp} : ∀ {kvs : List (List Key × Addr × V)} {prs : List (List Key × Addr × Value)} {acc : List (List Key × V)} {xs : List (List Key × Addr × Value)},
    Paired (fun kv (q : List Key × Addr × Value) => kv.1 = q.1 ∧ kv.2.1 = q.2.1 ∧ RelV kv.2.2 q.2.2 ∧ H kv.2.1 = some (.tup (kv.1.map kV))) kvs prs → KT H acc xs → KT H (mergeT kvs acc) (storedAllH xs prs)
  | _, _, _, _, .nil, r => r
  | _, _, acc, xs, .cons (a := kv) (b := q) h t, r => by
    have r2 : KT H (putK acc kv.1 kv.2.2) (storedH xs q.1 q.2.1 q.2.2) := by
      rw [← h.1, ← h.2.1]
      exact r.put kv.1 h.2.2.2 h.2.2.1
    have z := KT.merge t r2
    exact z
theorem pairsT_of {pins : List (Addr × Obj)} {σ : L2.St} {H : Hp} {s : Shared} (I : Inv X pins σ H s) : ∀ {ts : List Addr} {kvs : List (List Key × Addr × V)}, Paired (fun t kv => H t = some (.tup [.ref kv.2.1, kv.2.2]) ∧ H kv.2.1 = some (.tup (kv.1.map kV))) ts kvs →
    ∃ prs : List (List Key × Addr × Value), Paired (fun kv (q : List Key × Addr × Value) => kv.1 = q.1 ∧ kv.2.1 = q.2.1 ∧ RelV kv.2.2 q.2.2 ∧ H kv.2.1 = some (.tup (kv.1.map kV))) kvs prs ∧ prs.length = ts.length ∧ ∀ (j : Nat) q, prs[j]? = some q → ∃ b : Addr, ts[j]? = some b ∧ IsTup s.heap b #[.ref q.2.1, q.2.2] ∧ H q.2.1 = some (.tup (q.1.map kV))
  | _, _, .nil => ⟨[], .nil, rfl, fun j q e => by simp at e⟩
  | _, _, .cons (a := p) (b := kv) h t => by
    obtain ⟨prs, r, hl, hp⟩ := pairsT_of I t
    obtain ⟨its, rv, ht, _⟩ := I.tuple (SqT.of h.1)
    obtain ⟨u, y, ei, ru, ry⟩ := vals2 rv
    subst ei
    cases ru
    refine ⟨(kv.1, kv.2.1, y) :: prs, .cons ⟨rfl, rfl, ry, h.2⟩ r, by rw [List.length_cons, List.length_cons, hl], fun j q e => ?_⟩
    cases j with
    | zero =>
      have e' : (kv.1, kv.2.1, y) = q := Option.some.inj e
      subst e'
      exact ⟨p, rfl, ht, h.2⟩
    | succ j =>
      obtain ⟨b, e1, e2, e3⟩ := hp j q (by simpa using e)
      exact ⟨b, by simpa using e1, e2, e3⟩
theorem call_dictT (hcalm : X.calm = true) (hu : X.A.units + 3 < cLine) : CallR X (.type "dict") (fun xs H Q => ∃ (a : Addr) (ts : List Addr) (kvs : List (List Key × Addr × V)), xs = [.ref a] ∧ H a = some (.lst (ts.map V.ref)) ∧ Paired (fun t kv => H t = some (.tup [.ref kv.2.1, kv.2.2]) ∧ H kv.2.1 = some (.tup (kv.1.map kV))) ts kvs ∧
    ∀ p, H p = none → Q (.ref p) (upd H p (.dT (mergeT kvs [])))) := by
  intro pins s σ H xs us Q I r q
  obtain ⟨a, ts, kvs, ex, hq, hp, q⟩ := q
  subst ex
  obtain ⟨u, eu, rx⟩ := vals1 r
  subst eu
  cases rx
  obtain ⟨its, rv, pl, hz⟩ := I.list (SqL.of hq)
  have ei := refs_at rv
  subst ei
  rw [List.length_map] at hz
  obtain ⟨prs, rel, hl, hpr⟩ := pairsT_of I hp
  obtain ⟨o, n, ho, hc, hd, hdat⟩ := pl
  have key : ∀ x ∈ prs, (tupleKind (mixKind X.prog X.w)).is s.heap x.1 x.2.1 := fun x hx => by
    obtain ⟨j, hj⟩ := List.getElem?_of_mem hx
    obtain ⟨b, _, _, e3⟩ := hpr j x hj
    exact key_of I.hok e3
  have PA := PairArg.list (prog := X.prog) (w := X.w) a (ts.map Value.ref).toArray (fun j => ts.getD j 0) (prs.map fun x => (Value.ref x.2.1, x.2.2))
  refine PySem.call_dict_pairsH (knd := tupleKind (mixKind X.prog X.w)) (ps := prs) PA (I.ok.hd hcalm) (show _ < cLine from ?_) ⟨⟨o, n, ho, hc, hd, hdat⟩, by simp [hl], fun j k v e => ?_⟩ ⟨by simp, fun i k v e => ?_⟩ (fun h' hk x hx => ?_) (by rw [List.length_map, hl]; exact hz) fun h' tk hd' k => ?_
  · show X.A.in1.in1.units < cLine
    have : X.A.in1.in1.units ≤ X.A.units + 2 := Nat.le_refl _
    omega
  · rw [List.getElem?_map] at e
    cases ej : prs[j]? with
    | none => rw [ej] at e; cases e
    | some x =>
      rw [ej] at e
      cases e
      obtain ⟨b, e1, e2, _⟩ := hpr j x ej
      refine ⟨by simp [e1], .inl ?_⟩
      show Heap.IsTuple s.heap (ts.getD j 0) _
      rw [show ts.getD j 0 = b by simp [List.getD, e1]]
      exact e2
  · have e : (prs.map fun x => (Value.ref x.2.1, x.2.2))[i]? = some (k, v) := e
    rw [List.getElem?_map] at e
    cases ej : prs[i]? with
    | none => rw [ej] at e; cases e
    | some x =>
      rw [ej] at e
      cases e
      exact ⟨x.1, x.2.1, rfl, rfl⟩
  · exact tupleKind_stays.stays (fun b ob vs m e _ => hk b ob (Nat.ne_of_lt (Heap.lt_size e)) (fun z => nomatch z) e) (key x hx)
  · have hm : (s.heap.objs.size == sysModules) = false := beq_eq_false_iff_ne.mpr (Nat.ne_of_gt I.big)
    have hlen : (mergeT kvs []).length ≤ sizeLine := by
      refine Nat.le_trans (length_mergeT kvs []) ?_
      rw [List.length_nil, Nat.zero_add, rel.length, hl]
      exact hz
    have np : H s.heap.objs.size = none := I.hok.fresh (Nat.le_refl _)
    have kt : KT (upd H s.heap.objs.size (.dT (mergeT kvs []))) (mergeT kvs []) (storedAllH [] prs) := (KT.merge rel .nil).keeps fun b ys e => by
      rw [upd_ne (ne_of_none e np)]
      exact e
    obtain ⟨od, es, ep, h1, h2, h3, h4, _, h5⟩ := hd'
    exact ⟨.ref s.heap.objs.size, upd H s.heap.objs.size (.dT (mergeT kvs [])), I.laid (t' := tk) (fun b ob e => k b ob (fun z => nomatch z) e) (Nat.le_refl _) (show ObjOk X.prog X.w _ _ _ (.dT (mergeT kvs [])) from ⟨hlen, hm, _, kt, od, es, ep, h1, h2, h3, h4, h5⟩), rfl, q _ np⟩
end
/-! ### its meaning -/
def pairK : D → Option (D × D)
  | .tup [k, v] => if keyFits true k then some (k, v) else none
  | _ => none
def pairsK : List D → Option (List (D × D))
  | [] => some []
  | d :: ds => match pairK d, pairsK ds with
    | some p, some ps => some (p :: ps)
    | _, _ => none
def dictK (ps : List (D × D)) (acc : List D × List D) : List D × List D := ps.foldl (fun acc p => (putKs acc.1 p.1, putWs acc.1 acc.2 p.1 p.2)) acc
def gDictL : D → Option D
  | .lst ds => (pairsK ds).map fun ps => .dic true (dictK ps ([], [])).1 (dictK ps ([], [])).2
  | _ => none
def dDictOf (fs : DXs) : DX := fun env => (fs env).bind (oneO gDictL)
section
variable {K : KF} {H : Hp} {A : Pred}
theorem pairK_of {v : V} {d : D} {p : D × D} (r : Rp K H A v d) (h : pairK d = some p) : ∃ (t : Addr) (kv : List Key × Addr × V), v = .ref t ∧ H t = some (.tup [.ref kv.2.1, kv.2.2]) ∧ H kv.2.1 = some (.tup (kv.1.map kV)) ∧ p.1 = .tup (kv.1.map keyD) ∧ Rp K H A kv.2.2 p.2 := by
  unfold pairK at h
  split at h
  · next k w =>
    split at h
    · next hk =>
      cases h
      obtain ⟨t, vs, rfl, ht, rs⟩ := Rp.tup.mp r
      obtain ⟨x, vs', e, q, rs2⟩ := rs.uncons
      subst e
      obtain ⟨y, vs'', e, q2, rs3⟩ := rs2.uncons
      subst e
      have e := rs3.nil_eq
      subst e
      obtain ⟨xs, rfl, hks⟩ : ∃ xs, k = .tup xs ∧ (keysOf xs).isSome = true := by
        cases k with
        | tup t => exact ⟨t, rfl, hk⟩
        | _ => cases hk
      obtain ⟨ks, hks⟩ := Option.isSome_iff_exists.mp hks
      have et := keysOf_eq hks
      subst et
      obtain ⟨b, us, rfl, sq, rt⟩ := Rp.tup.mp q
      have ev := kVs_of rt
      subst ev
      exact ⟨t, (ks, b, y), rfl, ht, sq, rfl, q2⟩
    · cases h
  · cases h
theorem pairsK_of : ∀ {ds : List D} {vs : List V} {ps : List (D × D)}, Rps K H A vs ds → pairsK ds = some ps → ∃ (ts : List Addr) (kvs : List (List Key × Addr × V)), vs = ts.map V.ref ∧
    Paired (fun t kv => H t = some (.tup [.ref kv.2.1, kv.2.2]) ∧ H kv.2.1 = some (.tup (kv.1.map kV))) ts kvs ∧ Paired (fun (kv : List Key × Addr × V) (p : D × D) => p.1 = .tup (kv.1.map keyD) ∧ Rp K H A kv.2.2 p.2) kvs ps
  | [], vs, ps, r, h => by
    have e := r.nil_eq
    subst e
    cases h
    exact ⟨[], [], rfl, .nil, .nil⟩
  | d :: ds, vs, ps, r, h => by
    obtain ⟨v, vs', e, q, t⟩ := r.uncons
    subst e
    unfold pairsK at h
    cases e1 : pairK d with
    | none => rw [e1] at h; cases h
    | some p =>
      cases e2 : pairsK ds with
      | none => rw [e1, e2] at h; cases h
      | some ps' =>
        rw [e1, e2] at h
        cases h
        obtain ⟨a, kv, rfl, h1, h2, h3, h4⟩ := pairK_of q e1
        obtain ⟨ts, kvs, rfl, P1, P2⟩ := pairsK_of t e2
        exact ⟨a :: ts, kv :: kvs, rfl, .cons ⟨h1, h2⟩ P1, .cons ⟨h3, h4⟩ P2⟩
theorem dictK_of : ∀ {kvs : List (List Key × Addr × V)} {ps : List (D × D)}, Paired (fun (kv : List Key × Addr × V) (p : D × D) => p.1 = .tup (kv.1.map keyD) ∧ Rp K H A kv.2.2 p.2) kvs ps → ∀ (acc : List (List Key × V)) (ws : List D), Rps K H A (acc.map (·.2)) ws →
    (mergeT kvs acc).map (fun p => D.tup (p.1.map keyD)) = (dictK ps (acc.map (fun p => D.tup (p.1.map keyD)), ws)).1 ∧ Rps K H A ((mergeT kvs acc).map (·.2)) (dictK ps (acc.map (fun p => D.tup (p.1.map keyD)), ws)).2
  | _, _, .nil, acc, ws, r => ⟨rfl, r⟩
  | _, _, .cons (a := kv) (b := p) h t, acc, ws, r => by
    have he : ∀ j : List Key, keyEq (.tup (j.map keyD)) (.tup (kv.1.map keyD)) = decide (j = kv.1) := fun j => keyEq_keys j kv.1
    have r2 := putWs_of (g := fun k : List Key => D.tup (k.map keyD)) (y := p.1) (by rw [h.1]; exact he) h.2 r
    have ih := dictK_of t (putK acc kv.1 kv.2.2) _ r2
    rw [putKs_of (g := fun k : List Key => D.tup (k.map keyD)) (y := p.1) (by rw [h.1]; exact he) h.1 acc kv.2.2] at ih
    exact ih
end
section
variable {X : Cx} {W : WX} {md : Mds} {st nw : Bool} {e : Expr} {es : List Expr} {fs : DXs} {pos : Pos}
theorem vf_dictOf {p : Pos} (hc : X.calm = true) (hu : X.A.units + 100 < cLine) (hb : BltAt X "dict" (.type "dict")) (ha : VA X W md st nw (e :: es) fs) (hs : (e :: es).all starless = true) : VF X W md nw (.Call (.Name "dict" p) (e :: es) [] pos) (dDictOf fs) := by
  rw [List.all_cons, Bool.and_eq_true] at hs
  refine ⟨(pe_callTy (call_dictT hc (by omega)) hb.gl hb.mg hb.bt ha.run hb.nm hb.db (notStar hs.1) (backTo_any hs.2)).imp fun σ H Q ⟨T, H0, B, env, R, q⟩ => ⟨T, H0, B, env, R, q.bind.mono fun ds xs H1 s1 _ q1 r => ?_⟩⟩
  match ds, r, q1 with
  | [d], r, q1 =>
    obtain ⟨v, rfl, rd⟩ := r.one
    cases d with
    | lst ds =>
      have q1 : EP0 X.KM W σ H1 (RG.ofO ((pairsK ds).map fun ps => D.dic true (dictK ps ([], [])).1 (dictK ps ([], [])).2)) _ := q1
      cases e1 : pairsK ds with
      | none => rw [e1] at q1; exact q1.elim
      | some ps =>
        rw [e1] at q1
        obtain ⟨a, vs, rfl, h, t⟩ := rd.lst
        obtain ⟨ts, kvs, rfl, P1, P2⟩ := pairsK_of t e1
        refine ⟨a, ts, kvs, rfl, h, P1, fun l nl => ?_⟩
        obtain ⟨k1, k2⟩ := dictK_of P2 [] [] .nil
        exact q1 _ _ (same_new nl) ⟨l, rfl, Same.free s1 nl, (mergeT kvs []).map (·.2), ⟨mergeT kvs [], upd_same, k1, rfl⟩, k2.new nl⟩
    | _ => exact q1.elim
  | [], r, q1 => exact q1.elim
  | _ :: _ :: _, r, q1 => exact q1.elim
/-! ### l[::-1] -/
theorem Rps.rev {K : KF} {H : Hp} {A : Pred} : ∀ {vs : List V} {ds : List D}, Rps K H A vs ds → Rps K H A vs.reverse ds.reverse
  | vs, [], r => by
    rw [r.nil_eq]
    exact .nil
  | vs, d :: ds, r => by
    obtain ⟨v, vs', e, q, t⟩ := r.uncons
    subst e
    rw [List.reverse_cons, List.reverse_cons]
    exact (Rps.rev t).append (.one q)
def gRevL : D → Option D
  | .lst ds => some (.lst ds.reverse)
  | .frl ds => some (.lst ds.reverse)
  | _ => none
def dRevL (f : DX) : DX := fun env => (f env).bind fun x => .ofO (gRevL x)
theorem vf_revL {f : DX} {k : Nat} {p1 p2 p3 : Pos} (he : VE X W md st nw e f) : VF X W md nw (.Subscript e (.Slice none none (some (.UnaryOp .USub (.Constant (.int 1) k p1) p2)) p3) pos) (dRevL f) :=
  ⟨(pe_revL he.run).imp fun σ H Q ⟨T, H0, B, env, R, p⟩ => ⟨T, H0, B, env, R, p.bind.mono fun d v H1 s1 _ p1 r1 => by
    cases d with
    | lst ds =>
      obtain ⟨a, vs, rfl, hh, r⟩ := r1.lst
      exact ⟨a, vs, rfl, SqL.of hh, fun q nq => p1 _ _ (same_new nq) ⟨q, rfl, Same.free s1 nq, _, upd_same, r.rev.new nq⟩⟩
    | frl ds =>
      obtain ⟨a, vs, rfl, hh, r⟩ := r1.frl
      exact ⟨a, vs, rfl, hh.sq, fun q nq => p1 _ _ (same_new nq) ⟨q, rfl, Same.free s1 nq, _, upd_same, r.rev.new nq⟩⟩
    | _ => exact p1.elim⟩⟩
end
end Dl
/-! Dl10d: own exceptions: made, raised, caught. -/
namespace Dl
open PySem PySem.Spec PyProof.Rows L2
/-! ### __init__ of an own exception: stores of parameters and texts -/
inductive IPart where
  | txt (x : Str) | par (j : Nat)
inductive ISrc where
  | one (p : IPart) | join (ps : List IPart)
section
variable {X : Cx}
/-! the text read -/
abbrev ILine := Str × ISrc
def srcIs (σ : L2.St) (q : ISrc) (v : V) : Prop := match q with | .one (.txt x) => v = .str x | .one (.par j) => σ[j]? = some (some v) | .join _ => True
/-- the fields at the end: each line's value under its name, the last one first -/
inductive Flds (σ : L2.St) : List ILine → List (Str × V) → Prop
  | nil : Flds σ [] []
  | snoc {l : List ILine} {fs : List (Str × V)} {p : ILine} {v : V} : Flds σ l fs → srcIs σ p.2 v → Flds σ (l ++ [p]) ((p.1, v) :: fs)
theorem Flds.length {σ : L2.St} {l : List ILine} {fs : List (Str × V)} (h : Flds σ l fs) : fs.length = l.length := by
  induction h with
  | nil => rfl
  | snoc _ _ ih => simp [ih]
theorem Flds.names {σ : L2.St} {l : List ILine} {fs : List (Str × V)} (h : Flds σ l fs) : fs.map (·.1) = (l.map (·.1)).reverse := by
  induction h with
  | nil => rfl
  | snoc _ _ ih => simp [ih]
theorem Flds.get {σ : L2.St} {l : List ILine} {fs : List (Str × V)} (h : Flds σ l fs) (nd : (l.map (·.1)).Nodup) {p : ILine} (hp : p ∈ l) : ∃ v, fs.lookup p.1 = some v ∧ srcIs σ p.2 v := by
  induction h with
  | nil => cases hp
  | @snoc l fs q v h hv ih =>
    rw [List.map_append, List.nodup_append] at nd
    rcases List.mem_append.mp hp with hp | hp
    · obtain ⟨w, e, k⟩ := ih nd.1 hp
      have ne : (p.1 == q.1) = false := by
        have := nd.2.2 p.1 (List.mem_map.mpr ⟨p, hp, rfl⟩) q.1 (by simp)
        simpa using this
      exact ⟨w, by rw [List.lookup, ne]; exact e, k⟩
    · rw [List.mem_singleton.mp hp]
      exact ⟨v, by simp [List.lookup], hv⟩
end
/-! ### the reader of such a body -/
end Dl
/-! Dl10e: x.insert(i, e), d.get(k, e), loops over dicts. -/
namespace Dl
open PySem PySem.Spec PyProof.Rows L2
section
variable {X : Cx} {W : WX} {md : Mds} {fr st nw so no sk nk nd : Bool} {e a b o : Expr} {f fo fk fd : DX} {pos : Pos} {es : List Expr} {fs : DXs}
/-! ### x.insert(i, e) of an owned x -/
def dIns (i : Nat) (fs : DXs) : DS := fun env => match env[i]? with
  | some (some (.lst ds)) => (fs env).out env fun as => match as with
    | [.int j, d] => if decide (ds.length < sizeLine) && (decide (0 ≤ j) && lim62 j) then .nx (env.set i (some (.lst (ds.take j.toNat ++ [d] ++ ds.drop j.toNat)))) else .bad
    | _ => .bad
  | _ => .bad
theorem vs_ins {i : Nat} {x : Str} {p2 apos cpos : Pos} (hN : X.N[i]? = some x) (hv : Vis X.env.scope x) (hd : (x == ("__debug__" : Str)) = false) (hcd : (x == ("__classdict__" : Str)) = false) (ho : (mdAt md i).own = true) (hw : ((mdAt md i).nw && !nw) = false)
    (ha : VA X W md true nw [a, b] fs) (hs : starless a = true) (hs2 : starless b = true) (hbase : attributeBase (.Name x p2) "insert" X.env (eval (.Name x p2) X.env) = eval (.Name x p2) X.env) (hline : (apos.endLine == cpos.line) = true) :
    VS X W md fr (.Expr (.Call (.Attribute (.Name x p2) "insert" apos) [a, b] [] cpos) pos) (dIns i fs) := by
  refine ⟨(ps_expr (pe_bm PySem.F.plainAttrs_list PySem.F.slot_list_insert PySem.F.type_list_insert mt_insert (pe_var hN hv hd hcd) ha.run hbase (by rw [notStar hs, notStar hs2]; rfl) hline (notStar hs) (backTo_any (by rw [List.all_cons, hs2]; rfl))) rfl).imp fun D σ H ⟨T0, T, H0, B, env, t0, R, p⟩ => ?_⟩
  unfold dIns at p
  cases e : env[i]? with
  | none => rw [e] at p; exact p.elim
  | some o =>
    cases o with
    | none => rw [e] at p; exact p.elim
    | some d =>
      rw [e] at p
      cases d with
      | lst ds =>
        obtain ⟨l, ev, oa, vs, el, rs⟩ := R.owned e ho rfl
        refine ⟨_, ev, .inl ⟨rfl, vs, SqL.of el⟩, T, H0, B, env, R, (out_of t0 R p).mono fun as us H1 s _ q r => ?_⟩
        match as, r, q with
        | [.int j, dv], r, q =>
          obtain ⟨u, v, rfl, r1, r2⟩ := r.two
          rw [r1.int]
          have q : SP0 X.KM W md fr T0 H0 B (if decide (ds.length < sizeLine) && (decide (0 ≤ j) && lim62 j) then .nx (env.set i (some (.lst (ds.take j.toNat ++ [dv] ++ ds.drop j.toNat)))) else .bad) D := q
          by_cases hz : (decide (ds.length < sizeLine) && (decide (0 ≤ j) && lim62 j)) = true
          case neg => rw [if_neg hz] at q; exact q.elim
          rw [if_pos hz] at q
          rw [Bool.and_eq_true, Bool.and_eq_true, decide_eq_true_eq, decide_eq_true_eq] at hz
          obtain ⟨z1, z2, z3⟩ := hz
          have R1 := R.same s
          have el1 : H1 l = some (.lst vs) := s _ _ el
          have z4 := (lim62_of z3).2
          refine ⟨l, vs, j, v, rfl, rfl, el1, by rw [rs.length]; exact z1, z2, by omega, q T σ _ t0 (R1.upd e oa ⟨_, upd_same, ?_⟩)⟩
          have c := carry_upd (K := X.KM.at T) (o := .lst (vs.take j.toNat ++ [v] ++ vs.drop j.toNat)) el1 rfl (show Avd md σ env T H0 (mdAt md i).nw l from .inl ⟨i, oa⟩)
          have rs1 := Rps.carry c _ _ (rs.same s)
          refine ((rs1.take _).append (.one (Rp.carry c _ _ (r2.strict.weak fun b z => Avd.mono (fun e => ?_) z)))).append (rs1.drop _)
          rw [e] at hw
          simpa using hw
        | [], r, q => exact q.elim
        | [d0], r, q => cases d0 <;> exact q.elim
        | .non :: _ :: _, r, q => exact q.elim
        | .bl _ :: _ :: _, r, q => exact q.elim
        | .str _ :: _ :: _, r, q => exact q.elim
        | .tup _ :: _ :: _, r, q => exact q.elim
        | .lst _ :: _ :: _, r, q => exact q.elim
        | .frl _ :: _ :: _, r, q => exact q.elim
        | .ktp _ :: _ :: _, r, q => exact q.elim
        | .dic _ _ _ :: _ :: _, r, q => exact q.elim
        | .int _ :: _ :: _ :: _, r, q => exact q.elim
      | _ => exact p.elim
/-! ### d.get(k, e) -/
def gGet : D → D → D → Option D
  | .dic t ks ws, k, z => if keyFits t k then some ((lookD ks ws k).getD z) else none
  | _, _, _ => none
def isDicD : D → Bool
  | .dic _ _ _ => true
  | _ => false
theorem keysOf_imm {xs : List D} {ks : List Key} (h : keysOf xs = some ks) : imms xs = true := by
  rw [keysOf_eq h]
  have : ∀ l : List Key, imms (l.map keyD) = true := by
    intro l
    induction l with
    | nil => rfl
    | cons a r ih => unfold imms List.map; rw [Bool.and_eq_true]; exact ⟨by cases a <;> rfl, ih⟩
  exact this ks
theorem keyFits_imm {t : Bool} {k : D} (h : keyFits t k = true) : imm k = true := by
  cases k with
  | tup xs =>
    have hk : (keysOf xs).isSome = true := by
      cases t with
      | true => exact h
      | false => cases h
    obtain ⟨ks, e⟩ := Option.isSome_iff_exists.mp hk
    unfold imm
    exact keysOf_imm e
  | int _ => rfl
  | str _ => rfl
  | _ => cases t <;> cases h
def dGet (fo fk fd : DX) : DX := fun env => (fo env).bind fun d => if isDicD d = false then .bad else (fk env).bind fun k => (fd env).bind fun z => .ofO (gGet d k z)
theorem ve_get {apos cpos : Pos} (hu : X.A.units + 1 < cLine) (ho : VE X W md so no o fo) (hk : VE X W md sk nk a fk) (hd : VE X W md true nd b fd) (hs : starless a = true) (hs2 : starless b = true) (hbase : attributeBase o "get" X.env (eval o X.env) = eval o X.env) (hline : (apos.endLine == cpos.line) = true) :
    VE X W md true (no && nd) (.Call (.Attribute o "get" apos) [a, b] [] cpos) (dGet fo fk fd) := by
  have es : starEach [a, b] X.env = [(false, eval a X.env), (false, eval b X.env)] := by rw [notStar hs, notStar hs2]; rfl
  refine ⟨(pe_dget2 hu ho.run hk.run hd.run ⟨hbase, by rw [es]; rfl, hline, by rw [es]; rfl⟩).imp fun σ H Q ⟨T, H0, B, env, R, p⟩ => ⟨T, H0, B, env, R, p.bind.mono fun d v H1 s1 _ p1 r1 => ?_⟩⟩
  cases d with
  | dic t ks ws =>
    obtain ⟨l, vs, rfl, h, r⟩ := r1.dic
    refine ⟨l, rfl, ?_, T, H0, B, env, R.same s1, p1.bind.mono fun dk k H2 s2 _ p2 r2 => ⟨T, H0, B, env, (R.same s1).same s2, p2.bind.mono fun dz z H3 s3 _ p3 r3 => ?_⟩⟩
    · cases t with
      | false => obtain ⟨kvs, e, _⟩ := h; exact .inl ⟨kvs, e⟩
      | true => obtain ⟨kvs, e, _⟩ := h; exact .inr ⟨kvs, e⟩
    have p3 : EP0 X.KM W σ H3 (RG.ofO (if keyFits t dk then some ((lookD ks ws dk).getD dz) else none)) fun d v H' => Rk true (X.KM.at T) H' (Avd md σ env T H0 (no && nd)) v d → Q v H' := p3
    by_cases hf : keyFits t dk = true
    case neg => rw [if_neg hf] at p3; exact p3.elim
    rw [if_pos hf] at p3
    have h3 : DicH (Rd H3 l) t ks vs := h.mono fun u z => Rd.same s3 (Rd.same s2 z)
    obtain ⟨o, g, q⟩ := h3.dget (st := true) ((r.same s2).same s3) (.of (Rp.imm _ _ (r2.same s3).free (keyFits_imm hf))) hf
    refine ⟨o, g, ?_⟩
    cases el : lookD ks ws dk with
    | none =>
      rw [el] at q p3
      subst q
      exact p3 _ _ (Same.refl _) (.of (r3.strict.weak fun a z => Avd.mono (fun e => (Bool.and_eq_true_iff.mp e).2) z))
    | some w =>
      rw [el] at q p3
      obtain ⟨v, rfl, rw'⟩ := q
      exact p3 _ _ (Same.refl _) (.of (rw'.weak fun a z => Avd.mono (fun e => (Bool.and_eq_true_iff.mp e).1) z))
  | _ => exact p1.elim
end
/-! ### own slot := a call whose answer is new, or without lists -/
def anyL : D → RG D
  | .lst ds => .ok (.lst ds)
  | .dic t ks ws => .ok (.dic t ks ws)
  | d => if imm d then .ok d else .bad
theorem anyL_cases (d : D) : (∃ ds, d = .lst ds) ∨ (∃ b ks ws, d = .dic b ks ws) ∨ (anyL d = .ok d ∧ imm d = true) ∨ anyL d = .bad := by
  have f : ∀ d : D, anyL d = (if imm d then RG.ok d else .bad) → (∃ ds, d = .lst ds) ∨ (∃ b ks ws, d = .dic b ks ws) ∨ (anyL d = .ok d ∧ imm d = true) ∨ anyL d = .bad := fun d e => by
    by_cases h : imm d = true
    · rw [if_pos h] at e; exact .inr (.inr (.inl ⟨e, h⟩))
    · rw [if_neg h] at e; exact .inr (.inr (.inr e))
  cases d with
  | lst ds => exact .inl ⟨_, rfl⟩
  | dic b ks ws => exact .inr (.inl ⟨_, _, _, rfl⟩)
  | _ => exact f _ rfl
def dCallA (g : DF') (fs : DXs) : DX := fun env => (fs env).bind fun ds => (g ds).bind anyL
section
variable {X : Cx} {W : WX} {md : Mds} {fr st nw : Bool} {e : Expr} {pos spos : Pos} {es : List Expr} {fs : DXs}
theorem setCall_reading {i ar : Nat} {g : DF'} {D : Ends} {σ : L2.St} {H : Hp} (hl : ∀ env ds, fs env = .ok ds → ds.length = ar) (ho : (mdAt md i).own = true) (hp : (mdAt md i).dp = 0) (w : tS X.KM W md fr (dSet i (dCallA g fs)) D σ H) :
    tCallS (spD X.KM ar true g) (WE W) (tDs X.KM W md st nw fs) σ H fun v H' => gName i v σ H' D.nx := by
  obtain ⟨T0, T, H0, B, env, t0, R, p⟩ := w
  have p : EP0 (β := V) X.KM W σ H ((fs env).bind fun ds => (g ds).bind anyL) fun d _ H' => SP0 X.KM W md fr T0 H0 B (Out.nx (List.set env i (some d))) D := out_of t0 R p
  refine ⟨T, H0, B, env, R, p.bind.mono fun ds vs H1 s1 eq p1 r => ⟨⟨fun _ => False, T.l⟩, ds, fun _ z => z.elim, r.free, hl env ds eq, ?_⟩⟩
  have R1 := R.same s1
  have fin : ∀ {v : V} {H' : Hp} {d : Dl.D} {q : Addr}, Same H1 H' → v = .ref q → (¬ ∃ o, H1 q = some o) → Top (X.KM.at T) H' (fun a => (∃ o, H1 a = some o) ∨ a = q) q d → Rel X.KM md T H0 B H' (σ.set i (some v)) (env.set i (some d)) := fun {v H' d q} s ev n t => by
    subst ev
    refine R1.setOwn s ho (nw := true) (by cases (mdAt md i).nw <;> rfl) ?_ (t.carry (.weak fun a z => z.elim (fun y => .inl (R1.avdThere y)) .inr) fun _ u => u)
    cases hq : H1 q with
    | none => rfl
    | some o => exact absurd ⟨o, hq⟩ n
  cases e : g ds with
  | ok d =>
    rw [e] at p1
    intro v H' s q
    have p1 : EP0 (β := V) X.KM W σ H1 (anyL d) fun d _ H' => SP0 X.KM W md fr T0 H0 B (Out.nx (List.set env i (some d))) D := p1
    rcases anyL_cases d with ⟨ds, rfl⟩ | ⟨b, ks, ws, rfl⟩ | ⟨e2, im⟩ | e2
    · obtain ⟨q, ev, n, t⟩ := q
      exact p1 v H' s T _ H' t0 (fin s ev n t)
    · obtain ⟨q, ev, n, t⟩ := q
      exact p1 v H' s T _ H' t0 (fin s ev n t)
    · rw [e2] at p1
      exact p1 v H' s T _ H' t0 ((R1.same s).setI hp im fun A => Rp.imm _ _ (Rpf.rp q) im)
    · rw [e2] at p1
      exact p1.elim
  | exc c fs => rw [e] at p1; exact p1
  | bad => rw [e] at p1; exact p1
theorem vs_setCall {i k : Nat} {x : Str} {pos' : Pos} {F : FEnt} {p : Pos} (hN : X.N.Nodup) (hi : X.N[i]? = some x) (hx : Loc X.env.scope x) (hfn : X.fn x = true ∨ X.env.scope.names.lookup x = some .local)
    (hf : F.fresh = true) (hF : FnAt X k F) (hr : Room k X.A) (hg : Gl X F.name) (tk : Takes X W) (ha : VA X W md st nw (e :: es) fs) (hl : ∀ env ds, fs env = .ok ds → ds.length = F.ar)
    (hdb : (F.name == ("__debug__" : Str)) = false) (hs : (e :: es).all starless = true) (hsw : swapsWith (.Call (.Name F.name p) (e :: es) [] pos) (some (.Name x pos')) spos.line X.env = pure false)
    (ho : (mdAt md i).own = true) (hp : (mdAt md i).dp = 0) : VS X W md fr (.Assign [.Name x pos'] (.Call (.Name F.name p) (e :: es) [] pos) spos) (dSet i (dCallA F.den fs)) := by
  obtain ⟨f, fd, ps, ok, hm, hk, hb⟩ := hF.ex
  rw [hf] at ok
  rw [List.all_cons, Bool.and_eq_true] at hs
  exact ⟨(ps_set hN hi hx (pe_callS ok hr hg hm hk hb (fun σ => passAt tk σ) ha.run hdb (notStar hs.1) (backTo_any hs.2)) hsw hfn).imp fun D σ H w => setCall_reading hl ho hp w⟩
end
end Dl
/-! Dl10f: loops over a dict: locked while the loop runs, read by its body, gone behind it. -/
namespace Dl
open PySem PySem.Spec PyProof.Rows L2
def isDicO : HO → Bool
  | .dK _ => true
  | .dT _ => true
  | _ => false
theorem isDicO_mut {u : HO} (h : isDicO u = true) : isMutO u = true := by cases u <;> first | rfl | cases h
theorem isDicO_Mut {u : HO} (h : isDicO u = true) : Mut (some u) := by cases u <;> first | trivial | cases h
section
variable {K : KF} {md : Mds} {T : TL} {H0 B H H' : Hp} {σ : L2.St} {env : DEnv} {p : Addr} {od : Obj} {u : HO}
theorem frz_ne (e : H p = some (.frz od u)) {a : Addr} {w : HO} (ea : H a = some w) (n : ∀ o x, w ≠ .frz o x) : a ≠ p := fun z => by
  subst z
  rw [e] at ea
  cases ea
  exact n _ _ rfl
theorem rd_thaw (e : H p = some (.frz od u)) {a : Addr} {w : HO} (n : ∀ o x, w ≠ .frz o x) (h : Rd H a w) : Rd (upd H p u) a w := by
  by_cases z : a = p
  · subst z
    rcases h with h | ⟨o, h⟩
    · rw [e] at h; cases h; exact absurd rfl (n _ _)
    · rw [e] at h; cases h; exact .inl upd_same
  · rcases h with h | ⟨o, h⟩
    · exact .inl (by rw [upd_ne z]; exact h)
    · exact .inr ⟨o, by rw [upd_ne z]; exact h⟩
theorem dicH_thaw (e : H p = some (.frz od u)) {a : Addr} {t : Bool} {ks : List D} {vs : List V} (h : DicH (Rd H a) t ks vs) : DicH (Rd (upd H p u) a) t ks vs := by
  cases t with
  | false => obtain ⟨kvs, h, g⟩ := h; exact ⟨kvs, rd_thaw e (fun _ _ z => by cases z) h, g⟩
  | true => obtain ⟨kvs, h, g⟩ := h; exact ⟨kvs, rd_thaw e (fun _ _ z => by cases z) h, g⟩
mutual
theorem Rp.thaw {A : Pred} (e : H p = some (.frz od u)) (m : isDicO u = true) : ∀ (d : D) (v : V), Rp K H A v d → Rp K (upd H p u) A v d
  | .non, v, h => by unfold Rp at *; exact h
  | .bl _, v, h => by unfold Rp at *; exact h
  | .int _, v, h => by unfold Rp at *; exact h
  | .str _, v, h => by unfold Rp at *; exact h
  | .obj _, v, h => by unfold Rp at *; exact h
  | .tup ds, v, h => by
    unfold Rp at *
    obtain ⟨a, vs, ev, s, t⟩ := h
    exact ⟨a, vs, ev, by rw [upd_ne (frz_ne e s fun _ _ z => by cases z)]; exact s, Rps.thaw e m ds vs t⟩
  | .lst ds, v, h => by
    unfold Rp at *
    obtain ⟨a, vs, ev, n, r, t⟩ := h
    exact ⟨a, vs, ev, n, by rw [upd_ne (frz_ne e r fun _ _ z => by cases z)]; exact r, Rps.thaw e m ds vs t⟩
  | .frl ds, v, h => by
    unfold Rp at *
    obtain ⟨a, vs, ev, s, t⟩ := h
    refine ⟨a, vs, ev, ?_, Rps.thaw e m ds vs t⟩
    rcases s with ⟨o, s⟩ | s
    · refine .inl ⟨o, ?_⟩
      have : a ≠ p := fun z => by
        subst z
        rw [e] at s
        cases s
        cases m
      rw [upd_ne this]
      exact s
    · exact .inr s
  | .ktp ds, v, h => by
    unfold Rp at *
    obtain ⟨a, vs, ev, s, t⟩ := h
    refine ⟨a, vs, ev, ?_, Rps.thaw e m ds vs t⟩
    rcases s with s | s
    · exact .inl (rd_thaw e (fun _ _ z => by cases z) s)
    · exact .inr s
  | .dic t ks ws, v, h => by
    unfold Rp at *
    obtain ⟨a, vs, ev, n, h, r⟩ := h
    exact ⟨a, vs, ev, n, dicH_thaw e h, Rps.thaw e m ws vs r⟩
theorem Rps.thaw {A : Pred} (e : H p = some (.frz od u)) (m : isDicO u = true) : ∀ (ds : List D) (vs : List V), Rps K H A vs ds → Rps K (upd H p u) A vs ds
  | [], vs, h => by unfold Rps at *; exact h
  | d :: ds, vs, h => by
    unfold Rps at *
    obtain ⟨v, r, ev, q, t⟩ := h
    exact ⟨v, r, ev, Rp.thaw e m d v q, Rps.thaw e m ds r t⟩
end
theorem Top.thaw {A : Pred} {a : Addr} {d : D} (e : H p = some (.frz od u)) (m : isDicO u = true) (t : Top K H A a d) : Top K (upd H p u) A a d := by
  have ne : a ≠ p := by
    cases d with
    | lst ds => obtain ⟨vs, h, _⟩ := t; exact frz_ne e h fun o x z => by cases z
    | dic t' ks ws =>
      obtain ⟨vs, h, _⟩ := t
      cases t' with
      | false => obtain ⟨kvs, h, _⟩ := h; exact frz_ne e h fun o x z => by cases z
      | true => obtain ⟨kvs, h, _⟩ := h; exact frz_ne e h fun o x z => by cases z
    | _ => exact t.elim
  cases d with
  | lst ds => obtain ⟨vs, h, r⟩ := t; exact ⟨vs, by rw [upd_ne ne]; exact h, Rps.thaw e m _ _ r⟩
  | dic t ks ws => obtain ⟨vs, h, r⟩ := t; exact ⟨vs, h.mono fun w ew => by rw [upd_ne ne]; exact ew, Rps.thaw e m _ _ r⟩
  | _ => exact t.elim
theorem Rpf.thaw {A : Pred} {v : V} {d : D} (e : H p = some (.frz od u)) (m : isDicO u = true) (h : Rpf K H A v d) : Rpf K (upd H p u) A v d := by
  cases d with
  | lst ds => obtain ⟨q, ev, n, t⟩ := h; exact ⟨q, ev, n, t.thaw e m⟩
  | dic b ks ws => obtain ⟨q, ev, n, t⟩ := h; exact ⟨q, ev, n, t.thaw e m⟩
  | _ => exact Rp.thaw e m _ _ h
theorem FR.thaw {fr : Bool} {T0 : Pred} {v : V} {d : D} (e : H p = some (.frz od u)) (m : isDicO u = true) (h : FR fr K H0 H T0 v d) : FR fr K H0 (upd H p u) T0 v d := by
  cases fr with
  | true => exact Rpf.thaw e m h
  | false => exact Rp.thaw e m _ _ h
theorem DpOk.thaw {S : Pred} {k : Nat} {v : V} {d : D} (e : H p = some (.frz od u)) (m : isDicO u = true) (h : DpOk K H S k v d) : DpOk K (upd H p u) S k v d := by
  unfold DpOk at *
  split at h
  · rcases h with h | ⟨n, a, vs, e1, e2, e3, e4, e5⟩
    · exact .inl (Rp.thaw e m _ _ h)
    · exact .inr ⟨n, a, vs, e1, e2, e3, by rw [upd_ne (frz_ne e e4 fun _ _ z => by cases z)]; exact e4, e5⟩
  · obtain ⟨a, kvs, bs, ws, e1, e2, e3, e4, e5, e6, e7, e8⟩ := h
    refine ⟨a, kvs, bs, ws, e1, e2, by rw [upd_ne (frz_ne e e3 fun _ _ z => by cases z)]; exact e3, e4, e5, e6, e7, fun j b w hb hw => ?_⟩
    obtain ⟨g1, g2, us, g3, g4⟩ := e8 j b w hb hw
    exact ⟨g1, g2, us, by rw [upd_ne (frz_ne e g3 fun _ _ z => by cases z)]; exact g3, Rps.thaw e m _ _ g4⟩
theorem CellOk.isMut {A : Pred} {a : Addr} {d : D} (h : CellOk K H A a d) : ∃ w, H a = some w ∧ isMutO w = true := by
  unfold CellOk at h
  split at h
  · obtain ⟨vs, e, _⟩ := h; exact ⟨_, e, rfl⟩
  · next t ks ws =>
    obtain ⟨vs, e, _⟩ := h
    cases t with
    | false => obtain ⟨kvs, e, _⟩ := e; exact ⟨_, e, rfl⟩
    | true => obtain ⟨kvs, e, _⟩ := e; exact ⟨_, e, rfl⟩
  · next t ks ws =>
    obtain ⟨od, u, vs, e, q, _⟩ := h
    cases t with
    | false => obtain ⟨kvs, e2, _⟩ := q; subst e2; exact ⟨_, e, rfl⟩
    | true => obtain ⟨kvs, e2, _⟩ := q; subst e2; exact ⟨_, e, rfl⟩
  · obtain ⟨C, dx, fs, vs, _, e, _⟩ := h; exact ⟨_, e, rfl⟩
  · exact h.elim
theorem CellOk.thaw {A : Pred} {a : Addr} {d : D} (e : H p = some (.frz od u)) (m : isDicO u = true) (ne : a ≠ p) (h : CellOk K H A a d) : CellOk K (upd H p u) A a d := by
  unfold CellOk at *
  split at h
  · obtain ⟨vs, h, r⟩ := h; exact ⟨vs, by rw [upd_ne ne]; exact h, Rps.thaw e m _ _ r⟩
  · obtain ⟨vs, h, r⟩ := h; exact ⟨vs, h.mono fun w ew => by rw [upd_ne ne]; exact ew, Rps.thaw e m _ _ r⟩
  · obtain ⟨od, u', vs, e1, e2, r⟩ := h; exact ⟨od, u', vs, by rw [upd_ne ne]; exact e1, e2, Rps.thaw e m _ _ r⟩
  · obtain ⟨C, dx, fs, vs, e1, e2, r, e3⟩ := h; exact ⟨C, dx, fs, vs, e1, by rw [upd_ne ne]; exact e2, Rps.thaw e m _ _ r, e3⟩
  · exact h
theorem Sto.thaw {K : KM} {T : TL} {w : Bool} {A : Pred} {B : Hp} {d : D} (e : H p = some (.frz od u)) (m : isDicO u = true) (nS : ∀ a, SC w T H0 B a → a ≠ p) (S : Sto K T w A H0 B H d) : Sto K T w A H0 B (upd H p u) d := by
  obtain ⟨cs, e1, e2, e3, e4⟩ := S.ex
  exact ⟨cs, e1, e2, e3, fun n a c ha hc => let ⟨x, y⟩ := e4 n a c ha hc; ⟨x, y.thaw e m (nS a x)⟩⟩
theorem FRm.thaw {K : KM} {w fr : Bool} {B : Hp} {T0 T : TL} {v : V} {d : D} (e : H p = some (.frz od u)) (m : isDicO u = true) (nT : ¬ T p) (h : FRm K w fr H0 B H T0 T v d) : FRm K w fr H0 B (upd H p u) T0 T v d := by
  cases w with
  | false => exact FR.thaw e m h
  | true =>
    obtain ⟨dv, cs, e1, S, q⟩ := h
    refine ⟨dv, cs, e1, ⟨S.sto.thaw e m (fun a z y => by subst y; exact nT z.1), fun a ha => ?_, fun a ha hb => ?_⟩, ?_⟩
    · by_cases z : a = p
      · subst z; exact ⟨u, upd_same⟩
      · obtain ⟨o, eo⟩ := S.tB a ha; exact ⟨o, by rw [upd_ne z]; exact eo⟩
    · by_cases z : a = p
      · subst z; exact ⟨u, upd_same, isDicO_mut m⟩
      · obtain ⟨o, eo, mo⟩ := S.tM a ha hb; exact ⟨o, by rw [upd_ne z]; exact eo, mo⟩
    cases fr with
    | true => exact Rpf.thaw e m q
    | false => exact Rp.thaw e m _ _ q
theorem Rel.thaw {K : KM} (R : Rel K md T H0 B H σ env) (e : H p = some (.frz od u)) (m : isDicO u = true) (nB : B p = none) (nT : ¬ T p) : Rel K md T H0 B (L2.upd H p u) σ env := by
  refine ⟨R.s0, fun a o eo => ?_, fun a ha => ?_, R.len, fun i d ei hd => ?_, R.out, R.sep, R.tO, R.st, fun a ha hn => ?_, fun i d ei hd h3 => ?_, fun i d ei hd => (R.sto i d ei hd).thaw e m fun a => (by
    cases ((mdAt md i).dp == 3) with
    | true => exact fun z y => by subst y; exact nT z.1
    | false =>
      rintro ⟨w, hw⟩ y
      subst y
      obtain ⟨w', hw⟩ := R.s0 _ _ hw
      rw [nB] at hw
      cases hw)⟩
  · have : a ≠ p := fun z => by subst z; rw [nB] at eo; cases eo
    rw [upd_ne this]
    exact R.sB a o eo
  · obtain ⟨o, eo⟩ := R.tB a ha
    by_cases z : a = p
    · subst z; exact ⟨u, upd_same⟩
    · exact ⟨o, by rw [upd_ne z]; exact eo⟩
  · obtain ⟨v, ev, q⟩ := R.slot i d ei hd
    refine ⟨v, ev, ?_⟩
    unfold SlotOk at *
    split at q
    · next h => rw [if_pos h]; exact ⟨fun hl => let ⟨a, ea, t⟩ := q.top hl; ⟨a, ea, t.thaw e m⟩, fun hl => let ⟨i1, r⟩ := q.im hl; ⟨i1, Rp.thaw e m _ _ r⟩⟩
    · next h => rw [if_neg h]; exact Rp.thaw e m _ _ q
  · obtain ⟨w, ew, mw⟩ := R.tM a ha hn
    have : a ≠ p := fun z => by subst z; exact nT ha
    exact ⟨w, by rw [upd_ne this]; exact ew, mw⟩
  · obtain ⟨v, ev, q⟩ := R.deep i d ei hd h3
    exact ⟨v, ev, q.thaw e m⟩
/-- how the slots are held while a dict is read only -/
def mdK (md : Mds) (i : Nat) : Mds := md.set i {}
theorem mdK_at (md : Mds) (i : Nat) : mdAt (mdK md i) i = {} := by
  unfold mdAt mdK
  by_cases h : i < md.length
  · rw [List.getElem?_set_self h]; rfl
  · rw [List.getElem?_eq_none (by simpa using h)]; rfl
theorem mdK_ne {md : Mds} {i j : Nat} (h : j ≠ i) : mdAt (mdK md i) j = mdAt md j := by
  unfold mdAt mdK
  rw [List.getElem?_set_ne (Ne.symm h)]
theorem mdK_own {i j : Nat} (h : (mdAt (mdK md i) j).own = true) : j ≠ i ∧ (mdAt md j).own = true := by
  by_cases z : j = i
  · subst z; rw [mdK_at] at h; cases h
  · rw [mdK_ne z] at h; exact ⟨z, h⟩
theorem mdK_dp {i j : Nat} (h : (mdAt (mdK md i) j).dp ≠ 0) : j ≠ i ∧ (mdAt md j).dp ≠ 0 := by
  by_cases z : j = i
  · subst z; rw [mdK_at] at h; exact absurd rfl h
  · rw [mdK_ne z] at h; exact ⟨z, h⟩
theorem mdK_ok (h : MdOk md) (i : Nat) : MdOk (mdK md i) := by
  refine ⟨fun j hj => ?_, fun j k hj hk => h.one j k (mdK_dp hj).2 (mdK_dp hk).2⟩
  obtain ⟨z, o⟩ := mdK_own hj
  rw [mdK_ne z]
  exact h.od j o
theorem ownAt_K {i j : Nat} {a : Addr} (o : OwnAt (mdK md i) σ env j a) : j ≠ i ∧ OwnAt md σ env j a := ⟨(mdK_own o.1).1, (mdK_own o.1).2, o.2⟩
theorem avd_K {i : Nat} {nw : Bool} {a : Addr} (h : Avd (mdK md i) σ env T H0 nw a) : Avd md σ env T H0 nw a := by
  rcases h with ⟨j, o⟩ | h
  · exact .inl ⟨j, (ownAt_K o).2⟩
  · exact .inr h
theorem Rel.freeze {K : KM} (R : Rel K md T H0 B H σ env) {i : Nat} {t : Bool} {ks ws : List D} (ei : env[i]? = some (some (.dic t ks ws))) (oa : OwnAt md σ env i p) (hu : H p = some u) (m : isDicO u = true) (top : Top (K.at T) H (Avd md σ env T H0 (mdAt md i).nw) p (.dic t ks ws)) :
    Rel K (mdK md i) T H0 B (L2.upd H p (.frz od u)) σ env := by
  have nB := R.out i p oa
  have nT := R.tO i p oa
  have c : ∀ nw, Carry (K.at T) H (L2.upd H p (.frz od u)) (Avd md σ env T H0 nw) (Avd (mdK md i) σ env T H0 nw) := fun nw => (carry_upd hu (isDicO_mut m) (.inl ⟨i, oa⟩)).trans (.weak fun a z => avd_K z)
  refine ⟨R.s0, fun a o eo => ?_, fun a ha => ?_, R.len, fun j d ej hd => ?_, fun j a o => R.out j a (ownAt_K o).2, fun j k a o o' => R.sep j k a (ownAt_K o).2 (ownAt_K o').2, fun j a o => R.tO j a (ownAt_K o).2, mdK_ok R.st i, fun a ha hn => ?_, fun j d ej hd h3 => ?_, fun j d ej hd => ?_⟩
  · have : a ≠ p := fun z => by subst z; rw [nB] at eo; cases eo
    rw [upd_ne this]
    exact R.sB a o eo
  · obtain ⟨o, eo⟩ := R.tB a ha
    have : a ≠ p := fun z => by subst z; exact nT ha
    exact ⟨o, by rw [upd_ne this]; exact eo⟩
  · by_cases z : j = i
    · subst z
      rw [ei] at ej
      cases ej
      refine ⟨.ref p, oa.2.2, ?_⟩
      unfold SlotOk
      rw [mdK_at, if_neg (by exact Bool.false_ne_true)]
      obtain ⟨vs, hd', rs⟩ := top
      refine Rp.dic.mpr ⟨p, vs, rfl, ?_, hd'.mono fun w ew => ?_, ?_⟩
      · rintro (⟨k, o⟩ | h | ⟨h, _⟩)
        · obtain ⟨ne, o⟩ := ownAt_K o
          exact ne (R.sep _ _ _ o oa)
        · exact nT h
        · cases h
      · rw [hu] at ew
        cases ew
        exact .inr ⟨od, upd_same⟩
      · exact (Rps.carry (c _) _ _ rs).weak fun a z => Avd.mono (fun h => by cases h) z
    · rw [mdK_ne z] at hd ⊢
      obtain ⟨v, ev, q⟩ := R.slot j d ej hd
      refine ⟨v, ev, ?_⟩
      unfold SlotOk at *
      split at q
      · next h =>
        rw [if_pos h]
        refine q.carry (c _) fun a w e1 hl ew => ?_
        subst e1
        have : a ≠ p := fun y => by
          subst y
          exact z (R.sep j i a ⟨h, ⟨d, ej, hl⟩, ev⟩ oa)
        rw [upd_ne this]
        exact ew
      · next h => rw [if_neg h]; exact Rp.carry (c _) d v q
  · obtain ⟨w, ew, mw⟩ := R.tM a ha hn
    have : a ≠ p := fun z => by subst z; exact nT ha
    exact ⟨w, by rw [upd_ne this]; exact ew, mw⟩
  · obtain ⟨z, hd⟩ := mdK_dp hd
    rw [mdK_ne z]
    obtain ⟨v, ev, q⟩ := R.deep j d ej hd (by rw [mdK_ne z] at h3; exact h3)
    refine ⟨v, ev, q.carry (carry_upd hu (isDicO_mut m) fun s => nT s.1) fun a w s ew => ⟨?_, s⟩⟩
    have : a ≠ p := fun y => by subst y; exact nT s.1
    rw [upd_ne this]
    exact ew
  · have z : j ≠ i := fun y => by subst y; rw [mdK_at] at hd; exact absurd hd (by decide)
    rw [mdK_ne z] at hd ⊢
    exact (R.sto j d ej hd).carry rfl (c false) (fun a w ha ew => by
      rw [upd_ne fun y => by
        subst y
        revert ha
        cases ((mdAt md j).dp == 3) with
        | true => exact fun ha => nT ha.1
        | false =>
          rintro ⟨w, hw⟩
          obtain ⟨w', hw⟩ := R.s0 _ _ hw
          rw [nB] at hw
          cases hw]
      exact ew) fun a x y => ⟨x, y⟩
/-- the slot forgotten: as it was held before -/
theorem Rel.unK {K : KM} {i : Nat} (st : MdOk md) (R : Rel K (mdK md i) T H0 B H σ env) : Rel K md T H0 B H σ (env.set i none) := by
  have own : ∀ {j a}, OwnAt md σ (env.set i none) j a → OwnAt (mdK md i) σ env j a := fun {j a} o => by
    obtain ⟨h1, ⟨d, h2, hl⟩, h3⟩ := o
    obtain ⟨z, h2⟩ := kill_lookup h2
    exact ⟨by rw [mdK_ne z]; exact h1, ⟨d, h2, hl⟩, h3⟩
  have av : ∀ {nw a}, Avd md σ (env.set i none) T H0 nw a → Avd (mdK md i) σ env T H0 nw a := fun {nw a} h => by
    rcases h with ⟨j, o⟩ | h
    · exact .inl ⟨j, own o⟩
    · exact .inr h
  refine ⟨R.s0, R.sB, R.tB, by simp [R.len], fun j d ej hd => ?_, fun j a o => R.out j a (own o), fun j k a o o' => R.sep j k a (own o) (own o'), fun j a o => R.tO j a (own o), st, R.tM, fun j d ej hd h3 => ?_, fun j d ej hd => ?_⟩
  · obtain ⟨z, ej⟩ := kill_lookup ej
    obtain ⟨v, ev, q⟩ := R.slot j d ej (by rw [mdK_ne z]; exact hd)
    refine ⟨v, ev, ?_⟩
    rw [mdK_ne z] at q
    unfold SlotOk at *
    split at q
    · next h => rw [if_pos h]; exact q.carry (.weak fun a y => av y) fun _ _ _ _ e => e
    · next h => rw [if_neg h]; exact q.weak fun a y => av y
  · obtain ⟨z, ej⟩ := kill_lookup ej
    obtain ⟨v, ev, q⟩ := R.deep j d ej (by rw [mdK_ne z]; exact hd) (by rw [mdK_ne z]; exact h3)
    rw [mdK_ne z] at q
    exact ⟨v, ev, q⟩
  · obtain ⟨z, ej⟩ := kill_lookup ej
    have S := R.sto j d ej (by rw [mdK_ne z]; exact hd)
    rw [mdK_ne z] at S
    exact S.weak fun a y => av y
theorem hasW_iff {md : Mds} : hasW md = true ↔ ∃ j, (mdAt md j).dp = 3 := by
  unfold hasW
  rw [List.any_eq_true]
  constructor
  · rintro ⟨m, hm, e⟩
    obtain ⟨j, hj⟩ := List.getElem?_of_mem hm
    exact ⟨j, by unfold mdAt; rw [hj]; simpa using e⟩
  · rintro ⟨j, e⟩
    unfold mdAt at e
    cases hj : md[j]? with
    | none => rw [hj] at e; cases e
    | some m => rw [hj] at e; exact ⟨m, List.mem_of_getElem? hj, by simpa using e⟩
theorem hasW_K {md : Mds} {i : Nat} (h : (mdAt md i).dp ≠ 3) : hasW (mdK md i) = hasW md := by
  rw [Bool.eq_iff_iff, hasW_iff, hasW_iff]
  constructor
  · rintro ⟨j, e⟩
    have z : j ≠ i := fun y => by subst y; rw [mdK_at] at e; cases e
    rw [mdK_ne z] at e
    exact ⟨j, e⟩
  · rintro ⟨j, e⟩
    have z : j ≠ i := fun y => by subst y; exact h e
    exact ⟨j, by rw [mdK_ne z]; exact e⟩
end
/-! ### the keys, one behind the other -/
theorem rp_keyV {K : KF} {H : Hp} {A : Pred} (k : Key) : Rp K H A (kV k) (keyD k) := by
  cases k with
  | inl j => exact Rp.int.mpr rfl
  | inr y => exact Rp.str.mpr rfl
theorem rps_keyV {K : KF} {H : Hp} {A : Pred} : ∀ ks : List Key, Rps K H A (ks.map kV) (ks.map keyD)
  | [] => .nil
  | k :: ks => .cons (rp_keyV k) (rps_keyV ks)
theorem itd_keysT {K : KF} {O A : Pred} {H : Hp} {p : Addr} {od : Obj} {kvs : List (List Key × V)} (h : H p = some (.frz od (.dT kvs))) (n : ¬ O p) : ItD K O A H (Itkt p od kvs) (kvs.map fun q => D.tup (q.1.map keyD)) := by
  refine ⟨_, _, by rw [List.length_map]; exact walk_keysT, fun H2 s => s p _ n h, fun i H1 x H2 d s y e => ?_⟩
  obtain ⟨rfl, k, v, q, ek, rfl, eq⟩ := y
  rw [List.getElem?_map, ek] at e
  cases e
  exact ⟨Same.refl _, fun N _ => Rp.tup.mpr ⟨q, _, rfl, eq, rps_keyV k⟩⟩
theorem itd_keysK {K : KF} {O A : Pred} {H : Hp} {p : Addr} {od : Obj} {kvs : List (Key × V)} (h : H p = some (.frz od (.dK kvs))) (n : ¬ O p) : ItD K O A H (Itk p od kvs) (kvs.map fun q => keyD q.1) := by
  refine ⟨_, _, by rw [List.length_map]; exact walk_keys, fun H2 s => s p _ n h, fun i H1 x H2 d s y e => ?_⟩
  obtain ⟨rfl, k, v, ek, rfl⟩ := y
  rw [List.getElem?_map, ek] at e
  cases e
  exact ⟨Same.refl _, fun N _ => rp_keyV k⟩
section
variable {X : Cx} {W : WX} {md : Mds} {fr na : Bool} {tg : Expr} {pos : Pos} {g : DS} {T0 T : TL} {H0 B H1 : Hp} {σ : L2.St} {env : DEnv}
theorem for_core {gd : D → DEnv → Option DEnv} {sl ks : List Nat} {ds : List D} {J : It} {D : Ends} (t0 : TIn (hasW md) T0 B T) (R1 : Rel X.KM md T H0 B H1 σ env) (p1 : SP0 X.KM W md fr T0 H0 B (forGo gd g ks ds env) D) (it : ItD (X.KM.at T) (fun a => false = false ∧ WrP md σ env T B a) (Avd md σ env T H0 na) H1 J ds) :
    ∃ W' : Nat → Nat → L2.St → Hp → Prop, (∃ m, W' 0 m σ H1) ∧ ∀ i m σ H, W' i m σ H →
      (J.stop i H ∧ D.nx σ H) ∨ (J.go i H ∧ ∃ N : L2.St → Hp → Prop, (∀ σ' H', N σ' H' → ∃ m', m' < m ∧ W' (i + 1) m' σ' H') ∧ ∀ x H', J.yld i H x H' → tDG X.KM md na gd sl x σ H' fun σ2 H2 => tS X.KM W md fr g { D with nx := N, ct := N, bk := D.nx } σ2 H2) := by
  obtain ⟨T0, p1, t0, el⟩ : ∃ T0' : TL, SP0 X.KM W md fr T0' H0 B (forGo gd g ks ds env) D ∧ TIn (hasW md) T0' B T ∧ T0'.l = T.l := ⟨⟨T0.p, T.l⟩, p1.raise t0, t0.self, rfl⟩
  obtain ⟨G, Y, w, hG, hY⟩ := it.ex
  obtain ⟨Rb, sBB⟩ := R1.rebase
  have s0B := R1.s0
  have stay : ∀ {H2 : Hp}, Same (baseOf (WrP md σ env T B) H1) H2 → Stay (fun a => false = false ∧ WrP md σ env T B a) H1 H2 := fun s a o na e => s a o (by rw [baseOf_some (fun z => na ⟨rfl, z⟩)]; exact e)
  refine for_it w (fun i σ' H' => ∃ T' env', TIn (hasW md) T0 (baseOf (WrP md σ env T B) H1) T' ∧ Rel X.KM md T' H0 (baseOf (WrP md σ env T B) H1) H' σ' env' ∧ SP0 X.KM W md fr T0 H0 B (forGo gd g ks (ds.drop i) env') D) ⟨T, env, t0.rebase R1, Rb, p1⟩ (fun i σ' H' _ ⟨T', env', _, R', _⟩ => hG H' (stay R'.sB)) ?_ ?_
  · rintro i x σ2 H2 H3 hi ⟨T', env', t', R', q⟩ y
    obtain ⟨d, hd⟩ : ∃ d, ds[i]? = some d := ⟨ds[i], List.getElem?_eq_getElem hi⟩
    obtain ⟨s3, rx⟩ := hY i H2 x H3 d (stay R'.sB) y hd
    have rx := rx (fun a => H1 a = none) (fun a z => z)
    have hdrop : ds.drop i = d :: ds.drop (i + 1) := by
      obtain ⟨h1, h2⟩ := List.getElem?_eq_some_iff.mp hd
      rw [List.drop_eq_getElem_cons h1, h2]
    rw [hdrop] at q
    unfold forGo at q
    refine ⟨T', H0, _, env', d, R'.same s3, (t'.grow el rx).weak fun a z => ?_, ?_⟩
    · have fin : baseOf (WrP md σ env T B) H1 a = none → Avd md σ env T H0 na a ∨ H1 a = none := fun this => by
        by_cases z : WrP md σ env T B a
        · exact .inl z.avd
        · rw [baseOf_some z] at this
          exact .inr this
      rcases z with ⟨j, o⟩ | z | z
      · exact fin (R'.out j a o)
      · rcases t'.out a z with z | z
        · exact .inl (.inr (.inl (t0.le a z)))
        · exact fin z
      · exact .inl (.inr (.inr z))
    · cases eg : gd d env' with
      | none => rw [eg] at q; exact q.elim
      | some e1 =>
        rw [eg] at q
        intro σ4 R4 a4 w4
        refine ⟨T0, T', H0, _, e1, t', R4, ?_⟩
        have q : SP0 X.KM W md fr T0 H0 B (match g e1 with
          | .nx e2 => forGo gd g ks (ds.drop (i + 1)) (killD e2 ks)
          | .ct e2 => forGo gd g ks (ds.drop (i + 1)) (killD e2 ks)
          | .bk e2 => .nx e2
          | o => o) D := q
        cases eb : g e1 with
        | nx e2 => rw [eb] at q; exact fun T5 σ5 H5 t5 R5 => ⟨T5, killD e2 ks, t5, R5.killD ks, q⟩
        | ct e2 => rw [eb] at q; exact fun T5 σ5 H5 t5 R5 => ⟨T5, killD e2 ks, t5, R5.killD ks, q⟩
        | bk e2 => rw [eb] at q; exact fun T5 σ5 H5 t5 R5 => q T5 σ5 H5 (t5.unbase t0.old sBB) (R5.unbase s0B sBB)
        | rt d => rw [eb] at q; exact fun T5 v H' t5 s' z => q T5 v H' (t5.unbase t0.old sBB) (sBB.trans s') (z.unbase t0.old t5 sBB)
        | exc c fs e2 => rw [eb] at q; exact fun T5 cls dd σ' H' t5 R' x => q T5 cls dd σ' H' (t5.unbase t0.old sBB) (R'.unbase s0B sBB) x
        | bad => rw [eb] at q; exact q
  · rintro σ' H' ⟨T', env', t', R', q⟩
    rw [List.drop_length] at q
    exact q T' σ' H' (t'.unbase t0.old sBB) (R'.unbase s0B sBB)
/-- behind the loop: the dict is forgotten -/
def endK (i : Nat) : Out → Out
  | .nx e => .nx (e.set i none)
  | .rt d => .rt d
  | _ => .bad
def dForK (i : Nat) (gd : D → DEnv → Option DEnv) (body : DS) (ks : List Nat) : DS := fun env => match env[i]? with
  | some (some (.dic _ keys _)) => endK i (forGo gd body ks keys env)
  | _ => .bad
theorem vs_forK {i0 : Nat} {x0 : Str} {p0 : Pos} {body : List Stmt} {gd : D → DEnv → Option DEnv} {sl ks : List Nat} (hp : PassesOwn (model X.prog X.w) X.A X.env X.xe) (hc : X.calm = true) (hN : X.N[i0]? = some x0) (hv : Vis X.env.scope x0) (hd : (x0 == ("__debug__" : Str)) = false) (hcd : (x0 == ("__classdict__" : Str)) = false) (ho : (mdAt md i0).own = true)
    (hg : VG X (mdK md i0) na tg gd sl) (hb : VSs X W (mdK md i0) fr body g) (hs : ∀ x, foldedSetIterable (.Name x0 p0) X.env x = pure x) : VS X W md fr (.For tg (.Name x0 p0) body [] pos) (dForK i0 gd g ks) := by
  refine ⟨(ps_lock (ps_for hp hc (pi_keys (tg := tg) (pe_var (pos := p0) hN hv hd hcd)) hg.run hb.run hs)).imp fun D σ H ⟨T0, T, H0, B, env, t0, R, p⟩ => ?_⟩
  unfold dForK at p
  cases hl : env[i0]? with
  | none => rw [hl] at p; exact p.elim
  | some o =>
  cases o with
  | none => rw [hl] at p; exact p.elim
  | some d0 =>
  cases d0 with
  | dic t keys ws =>
    rw [hl] at p
    have p : SP0 X.KM W md fr T0 H0 B (endK i0 (forGo gd g ks keys env)) D := p
    obtain ⟨a0, ev0, oa0, top⟩ := R.owned hl ho rfl
    obtain ⟨u, hu, mu⟩ : ∃ u, H a0 = some u ∧ isDicO u = true := by
      obtain ⟨vs, h, _⟩ := top
      cases t with
      | false => obtain ⟨kvs, h, _⟩ := h; exact ⟨_, h, rfl⟩
      | true => obtain ⟨kvs, h, _⟩ := h; exact ⟨_, h, rfl⟩
    refine ⟨a0, u, hu, isDicO_Mut mu, fun od => ?_⟩
    have R1 : Rel X.KM (mdK md i0) T H0 B (upd H a0 (.frz od u)) σ env := R.freeze hl oa0 hu mu top
    have nW : ¬ WrP (mdK md i0) σ env T B a0 := fun z => by
      rcases z with ⟨j, o⟩ | ⟨z, _⟩
      · obtain ⟨ne, o⟩ := ownAt_K o
        exact ne (R.sep _ _ _ o oa0)
      · exact R.tO _ _ oa0 z
    obtain ⟨Rb, sBB⟩ := R1.rebase
    have s0B := R1.s0
    have fz : baseOf (WrP (mdK md i0) σ env T B) (upd H a0 (.frz od u)) a0 = some (.frz od u) := by rw [baseOf_some nW]; exact upd_same
    have nB := R.out i0 a0 oa0
    have back : ∀ {T' : TL} {σ' : L2.St} {H' : Hp} {env' : DEnv}, ¬ T' a0 → Rel X.KM (mdK md i0) T' H0 (baseOf (WrP (mdK md i0) σ env T B) (upd H a0 (.frz od u))) H' σ' env' → H' a0 = some (.frz od u) ∧ Rel X.KM md T' H0 B (upd H' a0 u) σ' (env'.set i0 none) := fun {T' σ' H' env'} nT' R' =>
      ⟨R'.sB _ _ fz, ((R'.unbase s0B sBB).thaw (R'.sB _ _ fz) mu nB nT').unK R.st⟩
    have nTo : ∀ {T' : TL} {w : Bool}, TIn w T0 (baseOf (WrP (mdK md i0) σ env T B) (upd H a0 (.frz od u))) T' → ¬ T' a0 := fun {T' w} t' z => by
      rcases t'.out a0 z with y | y
      · exact R.tO _ _ oa0 (t0.le a0 y)
      · rw [fz] at y; cases y
    have hw : hasW (mdK md i0) = hasW md := hasW_K (by rw [R.st.od i0 ho]; decide)
    have p1 : ∀ o : Out, SP0 X.KM W md fr T0 H0 B (endK i0 o) D → SP0 X.KM W (mdK md i0) fr T0 H0 (baseOf (WrP (mdK md i0) σ env T B) (upd H a0 (.frz od u))) o ⟨fun σ' H' => H' a0 = some (.frz od u) ∧ D.nx σ' (upd H' a0 u), fun v H' => H' a0 = some (.frz od u) ∧ D.rt v (upd H' a0 u), fun σ' H' => H' a0 = some (.frz od u) ∧ D.bk σ' (upd H' a0 u), fun σ' H' => H' a0 = some (.frz od u) ∧ D.ct σ' (upd H' a0 u)⟩ := fun o q => by
      cases o with
      | nx e => exact fun T' σ' H' t' R' => let ⟨f, R2⟩ := back (nTo t') R'; ⟨f, q T' σ' _ (hw ▸ t'.unbase t0.old sBB) R2⟩
      | rt d =>
        intro T' v H' t' s' z
        have f := s' _ _ fz
        refine ⟨f, q T' v _ (hw ▸ t'.unbase t0.old sBB) (fun a o eo => ?_) (hw ▸ (z.unbase t0.old t' sBB).thaw f mu (nTo t'))⟩
        have : a ≠ a0 := fun y => by subst y; rw [nB] at eo; cases eo
        rw [upd_ne this]
        exact s' a o (sBB a o eo)
      | _ => exact q.elim
    have p2 := p1 _ p
    have fin := fun J it => for_core (na := na) (sl := sl) (J := J) (hw ▸ t0.rebase (md := mdK md i0) R1 : TIn (hasW (mdK md i0)) T0 _ T) Rb p2 it
    obtain ⟨vs, hdic, _⟩ := top
    have wr : ∀ a, WrP (mdK md i0) σ env T (baseOf (WrP (mdK md i0) σ env T B) (upd H a0 (.frz od u))) a → a ≠ a0 := fun a z y => by
      subst y
      rcases z with z | ⟨z, _⟩
      · exact nW (.inl z)
      · exact R.tO _ _ oa0 z
    refine ⟨_, ev0, a0, od, rfl, ?_⟩
    cases t with
    | false =>
      obtain ⟨kvs, h, rfl, _⟩ := hdic
      rw [hu] at h
      cases h
      exact .inl ⟨kvs, upd_same, fin _ (itd_keysK upd_same fun z => wr _ z.2 rfl)⟩
    | true =>
      obtain ⟨kvs, h, rfl, _⟩ := hdic
      rw [hu] at h
      cases h
      exact .inr ⟨kvs, upd_same, fin _ (itd_keysT upd_same fun z => wr _ z.2 rfl)⟩
  | _ => rw [hl] at p; exact p.elim
end
end Dl
/-! Dl10g: {k: v} with a tuple for its key. -/
namespace Dl
open PySem PySem.Spec PyProof.Rows L2
def tDisp1 (tk tv : TE) : TE := fun σ H Q => ∀ p, H p = none → tk σ (upd H p (.dT [])) fun x H1 => tv σ H1 fun y H2 => H2 p = some (.dT []) ∧ ∃ (ks : List Key) (b : Addr), x = .ref b ∧ H2 b = some (.tup (ks.map kV)) ∧ Q (.ref p) (upd H2 p (.dT [(ks, y)]))
theorem pe_disp1 {X : Cx} {pos : Pos} {k v : Expr} {tk tv : TE} (hu : X.A.units + 1 < cLine) (hk : PE X k tk) (hv : PE X v tv) : PE X (.Dict [some k] [v] pos) (tDisp1 tk tv) := by
  refine ⟨fun pins s σ H Q I q => ?_⟩
  have hn := I.hok.fresh (Nat.le_refl s.heap.objs.size)
  have I1 := I.laid (a := s.heap.objs.size) (o := .dT []) (h' := s.heap.push { cls := .type "dict", data := .dict #[] }) (t' := s.toks) (fun _ _ q => Heap.get?_push_of_some _ q) (Nat.le_refl _) (dt_empty s.heap I.big)
  refine wpAny_Dict_any rfl rfl (by simp) (by show 1 ≤ 15; decide) (pairTrees_cons_walk (thn (hk.run pins _ σ _ _ I1 (q _ hn)) fun u s1 ⟨x, H1, I2, rx, q1⟩ => thn (hv.run pins s1 σ H1 _ I2 q1) fun w s2 ⟨y, H2, I3, ry, q2⟩ => pairTrees_nil_walk ?_))
  obtain ⟨e, ks, b, rfl, eb, q2⟩ := q2
  cases (show u = Value.ref b from rx)
  obtain ⟨z, hd, xs, rel, dd⟩ := dt_of I3.hok e
  have hz : xs.length ≤ sizeLine := by rw [← Paired.length rel]; exact z
  unfold storeAll
  rw [List.forIn_cons]
  refine wpAny_bind (wpAny_bind (wpAny_dictSet_heap (hsz := hz) (knd := tupleKind (mixKind X.prog X.w)) ?_ (key_of I3.hok eb) dd fun h' dd' hs => wpAny_pure ?_))
  · exact Nat.lt_of_succ_lt hu
  show wpAny _ _ (forIn ([] : List (Value × Value)) PUnit.unit _) _ _ _
  rw [List.forIn_nil]
  refine wpAny_pure ⟨.ref s.heap.objs.size, _, ?_, rfl, q2⟩
  obtain ⟨o, es, ep, hq, h2, h3, h4, _, h5⟩ := dd'
  have hl : (putK ([] : List (List Key × V)) ks y).length ≤ sizeLine := by have := length_putK ([] : List (List Key × V)) ks y; rw [List.length_nil] at this; rw [sizeLine_eq]; omega
  refine d_write I3 (by rw [e]; exact True.intro) hs ⟨o, hq⟩ ⟨hl, hd, _, (rel.put ks eb ry).keeps fun c ys ec => ?_, o, es, ep, hq, h2, h3, h4, h5⟩
  rw [upd_ne (ne_of ec e (fun z => nomatch z))]
  exact ec
section
variable {X : Cx} {W : WX} {md : Mds} {sk nk nw : Bool} {ek ev : Expr} {fk fv : DX} {pos : Pos}
def dDict1 (fk fv : DX) : DX := fun env => (fk env).bind fun k => (fv env).bind fun v => if keyFits true k && imm v then .ok (.dic true [k] [v]) else .bad
theorem vf_dict1 (hu : X.A.units + 1 < cLine) (hk : VE X W md sk nk ek fk) (hv : VE X W md true nw ev fv) : VF X W md true (.Dict [some ek] [ev] pos) (dDict1 fk fv) := by
  refine ⟨(pe_disp1 hu hk.run hv.run).imp fun σ H Q ⟨T, H0, B, env, R, p⟩ => fun q nq => ?_⟩
  have p : EP0 X.KM W σ H ((fk env).bind fun k => (fv env).bind fun v => if keyFits true k && imm v then RG.ok (D.dic true [k] [v]) else RG.bad) _ := p
  refine ⟨T, H0, B, env, R.same (same_new nq), (p.same (same_new nq)).bind.mono fun dk x H1 s1 eqk p1 r1 => ⟨T, H0, B, env, (R.same (same_new nq)).same s1, p1.bind.mono fun dv y H2 s2 eqv p2 r2 => ?_⟩⟩
  have eq : H2 q = some (.dT []) := s2 _ _ (s1 _ _ upd_same)
  rw [eqk] at p
  have p : EP0 X.KM W σ H ((fv env).bind fun v => if keyFits true dk && imm v then RG.ok (D.dic true [dk] [v]) else RG.bad) _ := p
  rw [eqv] at p
  have p2 : EP0 X.KM W σ H (if keyFits true dk && imm dv then RG.ok (D.dic true [dk] [dv]) else RG.bad) _ := p
  by_cases ok : (keyFits true dk && imm dv) = true
  case neg => rw [if_neg ok] at p2; exact p2.elim
  rw [if_pos ok] at p2
  rw [Bool.and_eq_true] at ok
  refine ⟨eq, ?_⟩
  cases dk with
  | tup xs =>
    obtain ⟨b, vs, rfl, eb, rs⟩ := Rp.tup.mp (r1.same s2).free
    have hks : (keysOf xs).isSome = true := ok.1
    obtain ⟨ks, eks⟩ := Option.isSome_iff_exists.mp hks
    obtain rfl := keysOf_eq eks
    obtain rfl := kVs_of rs
    refine ⟨ks, b, rfl, eb, p2 (.ref q) _ (fun a o eo => ?_) ⟨q, rfl, nq, ?_⟩⟩
    · have ne : a ≠ q := fun z => by subst z; rw [nq] at eo; cases eo
      rw [upd_ne ne]
      exact s2 _ _ (s1 _ _ (by rw [upd_ne ne]; exact eo))
    · refine ⟨[y], ⟨[(ks, y)], upd_same, rfl, rfl⟩, .one ?_⟩
      have c := carry_upd (K := X.KM.at T) (A := fun a => a = q) (o := .dT [(ks, y)]) eq rfl rfl
      exact Rp.imm _ _ (Rp.carry c _ _ (Rp.imm _ _ r2.free ok.2)) ok.2
  | _ => cases ok.1
end
end Dl
/-! Dl10h: a dict of lists that only one slot reaches (dp 2). -/
namespace Dl
open PySem PySem.Spec PyProof.Rows L2
/-- the place of a key -/
def idxD : List D → D → Option Nat
  | [], _ => none
  | y :: r, k => if keyEq y k then some 0 else (idxD r k).map (· + 1)
abbrev tupK (p : List Key × V) : D := .tup (p.1.map keyD)
theorem idx_some {key : List Key} : ∀ {kvs : List (List Key × V)} {j : Nat}, idxD (kvs.map tupK) (.tup (key.map keyD)) = some j → ∃ v, kvs[j]? = some (key, v) ∧ valV kvs key = some v
  | [], j, h => by cases h
  | (k0, v0) :: kvs, j, h => by
    have h : (if keyEq (.tup (k0.map keyD)) (.tup (key.map keyD)) then some 0 else (idxD (kvs.map tupK) (.tup (key.map keyD))).map (· + 1)) = some j := h
    rw [keyEq_keys] at h
    by_cases e : k0 = key
    · subst e
      rw [if_pos (by simp)] at h
      cases h
      exact ⟨v0, rfl, by unfold valV; simp⟩
    · rw [if_neg (by simpa using e)] at h
      obtain ⟨j', e1, e2⟩ := Option.map_eq_some_iff.mp h
      subst e2
      obtain ⟨v, h1, h2⟩ := idx_some e1
      refine ⟨v, h1, ?_⟩
      unfold valV at *
      rw [List.find?_cons_of_neg (by simpa using e)]
      exact h2
theorem idx_none {key : List Key} : ∀ {kvs : List (List Key × V)}, idxD (kvs.map tupK) (.tup (key.map keyD)) = none → valV kvs key = none
  | [], _ => rfl
  | (k0, v0) :: kvs, h => by
    have h : (if keyEq (.tup (k0.map keyD)) (.tup (key.map keyD)) then some 0 else (idxD (kvs.map tupK) (.tup (key.map keyD))).map (· + 1)) = none := h
    rw [keyEq_keys] at h
    by_cases e : k0 = key
    · rw [if_pos (by simpa using e)] at h
      cases h
    · rw [if_neg (by simpa using e)] at h
      have h2 := idx_none (Option.map_eq_none_iff.mp h)
      unfold valV at *
      rw [List.find?_cons_of_neg (by simpa using e)]
      exact h2
section
variable {K : KM} {md : Mds} {T : TL} {H0 B H H' : Hp} {σ : L2.St} {env : DEnv}
theorem own_no {i : Nat} (st : MdOk md) (hp : (mdAt md i).dp ≠ 0) : (mdAt md i).own = false := by
  cases h : (mdAt md i).own with
  | false => rfl
  | true => exact absurd (st.od i h) hp
theorem ownAt_env {i : Nat} {y : Option D} (ho : (mdAt md i).own = false) {j : Nat} {a : Addr} : OwnAt md σ (env.set i y) j a ↔ OwnAt md σ env j a := by
  unfold OwnAt
  by_cases h : j = i
  · subst h
    rw [ho]
    exact ⟨fun z => (Bool.false_ne_true z.1).elim, fun z => (Bool.false_ne_true z.1).elim⟩
  · rw [List.getElem?_set_ne (Ne.symm h)]
theorem avd_env {i : Nat} {y : Option D} (ho : (mdAt md i).own = false) {nw : Bool} : Avd md σ (env.set i y) T H0 nw = Avd md σ env T H0 nw := by
  funext a
  unfold Avd
  simp only [ownAt_env ho]
theorem no3 {md : Mds} (st : MdOk md) {i : Nat} (hp : (mdAt md i).dp ≠ 0) (h3 : (mdAt md i).dp < 3) (j : Nat) : ¬ 3 ≤ (mdAt md j).dp := fun e => by
  have : j = i := st.one j i (by omega) hp
  subst this
  omega
theorem no3W {md : Mds} (st : MdOk md) {i : Nat} (hp : (mdAt md i).dp ≠ 0) (h3 : (mdAt md i).dp < 3) : hasW md = false := by
  cases h : hasW md with
  | false => rfl
  | true =>
    obtain ⟨j, e⟩ := hasW_iff.mp h
    exact absurd (by omega) (no3 st hp h3 j)
theorem Rel.setDeep (R : Rel K md T H0 B H σ env) {i : Nat} {v : V} {d : D} (hp : (mdAt md i).dp ≠ 0) (hp3 : (mdAt md i).dp < 3) (q : DpOk (K.at T) H (fun a => T a ∧ B a = none) (mdAt md i).dp v d) : Rel K md T H0 B H (σ.set i (some v)) (env.set i (some d)) := by
  have ho := own_no R.st hp
  refine ⟨R.s0, R.sB, R.tB, by simp [R.len], fun j d' e hd => ?_, fun j a o => R.out j a ((ownAt_set ho).mp o), fun j k a o o' => R.sep j k a ((ownAt_set ho).mp o) ((ownAt_set ho).mp o'), fun j a o => R.tO j a ((ownAt_set ho).mp o), R.st, R.tM, fun j d' e hd h3 => ?_, fun j d' e hd => absurd hd (no3 R.st hp hp3 j)⟩
  · rw [avd_set ho]
    have hj : j ≠ i := fun z => by subst z; exact hp hd
    rw [List.getElem?_set_ne (Ne.symm hj)] at e ⊢
    exact R.slot j d' e hd
  · have : j = i := R.st.one j i hd hp
    subst this
    by_cases hl : j < env.length
    · rw [List.getElem?_set_self hl] at e
      cases e
      exact ⟨v, List.getElem?_set_self (by rw [R.len]; exact hl), q⟩
    · rw [List.getElem?_eq_none (by simpa using hl)] at e
      cases e
theorem Rel.updDeep (R : Rel K md T H0 B H σ env) {i : Nat} {a : Addr} {u o : HO} {d d' : D} (hp : (mdAt md i).dp ≠ 0) (hp3 : (mdAt md i).dp < 3) (ei : env[i]? = some (some d)) (hT : T a) (nB : B a = none) (hu : H a = some u) (mu : isMutO u = true) (mo : isMutO o = true)
    (q : ∀ v, σ[i]? = some (some v) → DpOk (K.at T) (L2.upd H a o) (fun a => T a ∧ B a = none) (mdAt md i).dp v d') : Rel K md T H0 B (L2.upd H a o) σ (env.set i (some d')) := by
  have ho := own_no R.st hp
  have c : ∀ nw, Carry (K.at T) H (L2.upd H a o) (Avd md σ env T H0 nw) (Avd md σ env T H0 nw) := fun nw => carry_upd hu mu (.inr (.inl hT))
  refine ⟨R.s0, fun b w eb => ?_, fun b hb => ?_, by simp [R.len], fun j d2 e hd => ?_, fun j b o => R.out j b ((ownAt_env ho).mp o), fun j k b o o' => R.sep j k b ((ownAt_env ho).mp o) ((ownAt_env ho).mp o'), fun j b o => R.tO j b ((ownAt_env ho).mp o), R.st, fun b hb hn => ?_, fun j d2 e hd h3 => ?_, fun j d2 e hd => absurd hd (no3 R.st hp hp3 j)⟩
  · have : b ≠ a := fun z => by subst z; rw [nB] at eb; cases eb
    rw [upd_ne this]
    exact R.sB b w eb
  · by_cases z : b = a
    · subst z; exact ⟨o, upd_same⟩
    · obtain ⟨w, ew⟩ := R.tB b hb
      exact ⟨w, by rw [upd_ne z]; exact ew⟩
  · rw [avd_env ho]
    have hj : j ≠ i := fun z => by subst z; exact hp hd
    rw [List.getElem?_set_ne (Ne.symm hj)] at e
    obtain ⟨v, ev, q⟩ := R.slot j d2 e hd
    refine ⟨v, ev, ?_⟩
    unfold SlotOk at *
    split at q
    · next h =>
      rw [if_pos h]
      refine q.carry (c _) fun b w e1 hl ew => ?_
      subst e1
      have : b ≠ a := fun y => by
        subst y
        exact R.tO j b ⟨h, ⟨d2, e, hl⟩, ev⟩ hT
      rw [upd_ne this]
      exact ew
    · next h => rw [if_neg h]; exact Rp.carry (c _) d2 v q
  · by_cases z : b = a
    · subst z; exact ⟨o, upd_same, mo⟩
    · obtain ⟨w, ew, mw⟩ := R.tM b hb hn
      exact ⟨w, by rw [upd_ne z]; exact ew, mw⟩
  · have : j = i := R.st.one j i hd hp
    subst this
    have hl : j < env.length := (List.getElem?_eq_some_iff.mp ei).1
    rw [List.getElem?_set_self hl] at e
    cases e
    obtain ⟨v, ev, _⟩ := R.deep j d ei hp hp3
    exact ⟨v, ev, q v ev⟩
/-- what the slot of a dict of lists holds -/
theorem Rel.deep2 (R : Rel K md T H0 B H σ env) {i : Nat} {d : D} (hp : (mdAt md i).dp = 2) (e : env[i]? = some (some d)) : ∃ v, σ[i]? = some (some v) ∧ DpFull (K.at T) H (fun a => T a ∧ B a = none) v d := by
  obtain ⟨v, ev, q⟩ := R.deep i d e (by rw [hp]; decide) (by rw [hp]; decide)
  rw [hp] at q
  exact ⟨v, ev, q⟩
theorem Rel.freezeD (R : Rel K md T H0 B H σ env) {T0 : TL} (t0 : TIn (hasW md) T0 B T) {i : Nat} {p : Addr} {kvs : List (List Key × V)} {bs : List Addr} {ws : List (List D)} {od : Obj} (hp : (mdAt md i).dp = 2) (ei : env[i]? = some (some (.dic true (kvs.map tupK) (ws.map D.lst)))) (ev : σ[i]? = some (some (.ref p)))
    (sp : T p ∧ B p = none) (hk : H p = some (.dT kvs)) (hv : kvs.map (·.2) = bs.map V.ref) (nd : (p :: bs).Nodup) (hl : bs.length = ws.length)
    (hw : ∀ (j : Nat) (b : Addr) (w : List D), bs[j]? = some b → ws[j]? = some w → (T b ∧ B b = none) ∧ imms w = true ∧ ∃ us, H b = some (.lst us) ∧ Rps (K.at T) H (fun _ => False) us w) :
    Rel K (mdK md i) T0 H0 B (L2.upd H p (.frz od (.dT kvs))) σ env := by
  have hp0 : (mdAt md i).dp ≠ 0 := by rw [hp]; decide
  have eK : K.at T0 = K.at T := (t0.at (no3W R.st hp0 (by rw [hp]; decide))).symm
  have nT : ∀ a, T0 a → a ≠ p := fun a z y => by
    subst y
    obtain ⟨u, e⟩ := t0.old a z
    rw [sp.2] at e
    cases e
  have av : ∀ {nw a}, Avd (mdK md i) σ env T0 H0 nw a → Avd md σ env T H0 nw a := fun {nw a} h => by
    rcases h with ⟨j, o⟩ | h | h
    · exact .inl ⟨j, (ownAt_K o).2⟩
    · exact .inr (.inl (t0.le a h))
    · exact .inr (.inr h)
  have c : ∀ nw, Carry (K.at T) H (L2.upd H p (.frz od (.dT kvs))) (Avd md σ env T H0 nw) (Avd (mdK md i) σ env T0 H0 nw) := fun nw => (carry_upd hk rfl (.inr (.inl sp.1))).trans (.weak fun a z => av z)
  have none0 : ∀ a, T a ∧ B a = none → ¬ Avd (mdK md i) σ env T0 H0 false a := fun a sa z => by
    rcases z with ⟨j, o⟩ | z | ⟨z, _⟩
    · exact R.tO j a (ownAt_K o).2 sa.1
    · obtain ⟨u, e⟩ := t0.old a z
      rw [sa.2] at e
      cases e
    · cases z
  refine ⟨R.s0, fun a o eo => ?_, fun a ha => ?_, R.len, fun j d ej hd => ?_, fun j a o => R.out j a (ownAt_K o).2, fun j k a o o' => R.sep j k a (ownAt_K o).2 (ownAt_K o').2, fun j a o z => R.tO j a (ownAt_K o).2 (t0.le a z), mdK_ok R.st i, fun a ha hn => ?_, fun j d ej hd h3 => ?_, fun j d ej hd => absurd (show (mdAt (mdK md i) j).dp ≠ 0 by omega) fun h => (mdK_dp h).1 (R.st.one j i (mdK_dp h).2 hp0)⟩
  · have : a ≠ p := fun z => by subst z; rw [sp.2] at eo; cases eo
    rw [upd_ne this]
    exact R.sB a o eo
  · obtain ⟨o, eo⟩ := R.tB a (t0.le a ha)
    exact ⟨o, by rw [upd_ne (nT a ha)]; exact eo⟩
  · by_cases z : j = i
    · subst z
      rw [ei] at ej
      cases ej
      refine ⟨.ref p, ev, ?_⟩
      unfold SlotOk
      rw [mdK_at, if_neg (by exact Bool.false_ne_true), eK]
      refine Rp.dic.mpr ⟨p, bs.map V.ref, rfl, none0 p sp, ⟨kvs, .inr ⟨od, upd_same⟩, rfl, hv⟩, ?_⟩
      have go : ∀ {bs : List Addr} {ws : List (List D)}, bs.length = ws.length → (∀ (j : Nat) (b : Addr) (w : List D), bs[j]? = some b → ws[j]? = some w → b ≠ p ∧ (T b ∧ B b = none) ∧ imms w = true ∧ ∃ us, H b = some (.lst us) ∧ Rps (K.at T) H (fun _ => False) us w) → Rps (K.at T) (L2.upd H p (.frz od (.dT kvs))) (Avd (mdK md j) σ env T0 H0 false) (bs.map V.ref) (ws.map D.lst) := by
        intro bs
        induction bs with
        | nil => intro ws hl _; cases ws with | nil => exact .nil | cons _ _ => cases hl
        | cons b bs ih =>
          intro ws hl h
          cases ws with
          | nil => cases hl
          | cons w ws =>
            obtain ⟨ne, sb, im, us, eb, r⟩ := h 0 b w rfl rfl
            refine .cons (Rp.lst.mpr ⟨b, us, rfl, none0 b sb, by rw [upd_ne ne]; exact eb, ?_⟩) (ih (by simpa using hl) fun k b' w' h1 h2 => h (k + 1) b' w' h1 h2)
            exact Rps.imm _ _ (Rps.carry (carry_upd (A := fun a => a = p) hk rfl rfl) _ _ (Rps.imm _ _ r im)) im
      refine go hl fun k b w h1 h2 => ⟨fun y => ?_, hw k b w h1 h2⟩
      subst y
      exact (List.nodup_cons.mp nd).1 (List.mem_of_getElem? h1)
    · rw [mdK_ne z] at hd ⊢
      obtain ⟨v, ev', q⟩ := R.slot j d ej hd
      refine ⟨v, ev', ?_⟩
      unfold SlotOk at *
      split at q
      · next h =>
        rw [if_pos h, eK]
        refine q.carry (c _) fun a w e1 hl ew => ?_
        subst e1
        have : a ≠ p := fun y => by
          subst y
          exact R.tO j a ⟨h, ⟨d, ej, hl⟩, ev'⟩ sp.1
        rw [upd_ne this]
        exact ew
      · next h => rw [if_neg h, eK]; exact Rp.carry (c _) d v q
  · obtain ⟨w, ew, mw⟩ := R.tM a (t0.le a ha) hn
    exact ⟨w, by rw [upd_ne (nT a ha)]; exact ew, mw⟩
  · obtain ⟨z, hd⟩ := mdK_dp hd
    exact absurd (R.st.one j i hd hp0) z
end
section
variable {X : Cx} {W : WX} {md : Mds} {fr st nw sa na sb nb : Bool} {e a b tg : Expr} {f fa fb fe : DX} {pos : Pos} {es : List Expr} {g : DS} {i : Nat} {x : Str}
/-! ### x = {} -/
theorem vs_newD {pos' lp : Pos} (hN : X.N.Nodup) (hi : X.N[i]? = some x) (hx : Loc X.env.scope x) (hf : X.fn x = true ∨ X.env.scope.names.lookup x = some .local) (hs : swapsWith (.Dict [] [] lp) (some (.Name x pos')) pos.line X.env = pure false) (hp : (mdAt md i).dp = 2) :
    VS X W md fr (.Assign [.Name x pos'] (.Dict [] [] lp) pos) (dSet i (dC (.dic true [] []))) := by
  refine ⟨(ps_set hN hi hx pe_dnewT hs hf).imp fun D σ H ⟨T0, T, H0, B, env, t0, R, p⟩ => fun q nq => ?_⟩
  have p : ∀ T σ' H', TIn (hasW md) T0 B T → Rel X.KM md T H0 B H' σ' (env.set i (some (.dic true [] []))) → D.nx σ' H' := p
  have nB : B q = none := by
    cases e : B q with
    | none => rfl
    | some u => rw [R.sB _ _ e] at nq; cases nq
  have R1 := R.addT nq (same_new nq) (H := upd H q (.dT [])) ⟨.dT [], upd_same, rfl⟩
  refine p ⟨fun a => T a ∨ a = q, T.l⟩ _ _ ⟨fun a z => .inl (t0.le a z), fun a z => z.elim (t0.out a) fun y => by subst y; exact .inr nB, t0.old, t0.lp, t0.lx⟩ (R1.setDeep (by rw [hp]; decide) (by rw [hp]; decide) ?_)
  rw [hp]
  exact ⟨q, [], [], [], rfl, ⟨.inr rfl, nB⟩, upd_same, rfl, rfl, by simp, rfl, fun j b w h => by cases h⟩
/-! ### k not in x -/
def dNotInD (i : Nat) (fa : DX) : DX := fun env => (fa env).bind fun k => match env[i]? with
  | some (some (.dic true ks _)) => if keyFits true k then .ok (.bl (idxD ks k).isNone) else .bad
  | _ => .bad
theorem vt_notInD {p2 : Pos} (hu : X.A.units + 1 < cLine) (hN : X.N[i]? = some x) (hv : Vis X.env.scope x) (hd : (x == ("__debug__" : Str)) = false) (hcd : (x == ("__classdict__" : Str)) = false) (hp : (mdAt md i).dp = 2) (ha : VE X W md sa na a fa) (hm : behindInMarks .NotIn (.Name x p2) = false) :
    VT X W md (.Compare a [.NotIn] [.Name x p2] pos) (dNotInD i fa) := by
  refine ⟨(pt_cmpR (opr_notInDic hu) ha.run (pe_var hN hv hd hcd) hm).imp fun σ H Q ⟨T, H0, B, env, R, p⟩ => ⟨T, H0, B, env, R, p.bind.mono fun dk k H1 s1 _ p1 r1 => ?_⟩⟩
  have R1 := R.same s1
  cases ee : env[i]? with
  | none => rw [ee] at p1; exact p1.elim
  | some o =>
  cases o with
  | none => rw [ee] at p1; exact p1.elim
  | some d =>
  rw [ee] at p1
  obtain ⟨v, ev, ad, kvs, bs, ws, rfl, sp, hk, rfl, hv', nd, hl, hw⟩ := R1.deep2 hp ee
  have p1 : EP0 (β := V) X.KM W σ H1 (if keyFits true dk then RG.ok (D.bl (idxD (kvs.map tupK) dk).isNone) else RG.bad) _ := p1
  by_cases hf : keyFits true dk = true
  case neg => rw [if_neg hf] at p1; exact p1.elim
  rw [if_pos hf] at p1
  cases dk with
  | tup xs =>
    have hks : (keysOf xs).isSome = true := hf
    obtain ⟨ks, eks⟩ := Option.isSome_iff_exists.mp hks
    obtain rfl := keysOf_eq eks
    obtain ⟨bk, vs, rfl, eb, rs⟩ := Rp.tup.mp r1.free
    obtain rfl := kVs_of rs
    obtain ⟨k, ek, q⟩ := p1 .non H1 (Same.refl _)
    cases ek
    refine ⟨_, ev, ad, valV kvs ks, rfl, DGet.t hk eb, _, rfl, ?_⟩
    cases e : idxD (kvs.map tupK) (.tup (ks.map keyD)) with
    | none => rw [idx_none e]; rw [e] at q; exact q
    | some j =>
      obtain ⟨v, _, h2⟩ := idx_some e
      rw [h2]
      rw [e] at q
      exact q
  | _ => cases hf
/-! ### x[k] = [] of a new key -/
def dPutN (i : Nat) (fk : DX) : DS := fun env => match env[i]? with
  | some (some (.dic true ks ws)) => (fk env).out env fun k => if keyFits true k && ((idxD ks k).isNone && decide (ks.length < sizeLine)) then .nx (env.set i (some (.dic true (ks ++ [k]) (ws ++ [.lst []])))) else .bad
  | _ => .bad
theorem lsts_inj : ∀ {a b : List (List D)}, a.map D.lst = b.map D.lst → a = b
  | [], [], _ => rfl
  | [], _ :: _, h => by cases h
  | _ :: _, [], h => by cases h
  | x :: a, y :: b, h => by
    rw [List.map_cons, List.map_cons] at h
    injection h with h1 h2
    injection h1 with h1
    rw [h1, lsts_inj h2]
theorem nodup_at {α : Type} {l : List α} (n : l.Nodup) {i j : Nat} {x : α} (h1 : l[i]? = some x) (h2 : l[j]? = some x) : i = j := by
  obtain ⟨p1, e1⟩ := List.getElem?_eq_some_iff.mp h1
  obtain ⟨p2, e2⟩ := List.getElem?_eq_some_iff.mp h2
  have pw := List.pairwise_iff_getElem.mp n
  rcases Nat.lt_trichotomy i j with h | h | h
  · exact absurd (e1.trans e2.symm) (pw i j p1 p2 h)
  · exact h
  · exact absurd (e2.trans e1.symm) (pw j i p2 p1 h)
theorem nodup_snoc {α : Type} {p b : α} {bs : List α} (nd : (p :: bs).Nodup) (n1 : b ≠ p) (n2 : b ∉ bs) : (p :: (bs ++ [b])).Nodup := by
  obtain ⟨h1, h2⟩ := List.nodup_cons.mp nd
  refine List.nodup_cons.mpr ⟨fun h => ?_, List.nodup_append.mpr ⟨h2, by simp, fun a ha c hc e => ?_⟩⟩
  · rcases List.mem_append.mp h with h | h
    · exact h1 h
    · exact n1 (List.mem_singleton.mp h).symm
  · subst e
    rw [List.mem_singleton.mp hc] at ha
    exact n2 ha
theorem vs_putN {p2 spos lp : Pos} (hu : X.A.units + 1 < cLine) (hN : X.N[i]? = some x) (hv : Vis X.env.scope x) (hd : (x == ("__debug__" : Str)) = false) (hcd : (x == ("__classdict__" : Str)) = false) (hp : (mdAt md i).dp = 2)
    (hb : VE X W md sb nb b fb) (hs : swapsWithSole [.Subscript (.Name x p2) b spos] (.List [] lp) pos.line X.env = pure false) (hws : swappedStores [.Subscript (.Name x p2) b spos] (.List [] lp) X.env = pure none)
    (h1 : (assignEach [.Subscript (.Name x p2) b spos] X.env).map (·.2) = [assign (.Subscript (.Name x p2) b spos) X.env])
    (has : ∀ v, assign (.Subscript (.Name x p2) b spos) X.env v = (do
      let ov ← holding [v] (eval (.Name x p2) X.env)
      let iv ← holding [v, ov] (eval b X.env)
      standAt spos
      holding [v, ov, iv] (setItem ov iv v)
      release [v, ov, iv] [])) : VS X W md fr (.Assign [.Subscript (.Name x p2) b spos] (.List [] lp) pos) (dPutN i fb) := by
  have he : VF X W md true (.List [] lp) (dLst dNil) := vf_lst va_nil
  refine ⟨(ps_asg he.run (pg_sub (pe_var hN hv hd hcd) hb.run (set_any hu) has) hs hws h1).imp fun D σ H ⟨T0, T, H0, B, env, t0, R, q⟩ => ⟨T, H0, B, env, R, ?_⟩⟩
  show EP0 (β := V) X.KM W σ H (if ([] : List Dl.D).length ≤ sizeLine then RG.ok (Dl.D.lst []) else RG.bad) _
  rw [if_pos (by simp)]
  rintro v H1 s1 ⟨c, rfl, nc, vs0, ec, r0⟩
  obtain rfl := r0.nil_eq
  unfold dPutN at q
  cases ee : env[i]? with
  | none => rw [ee] at q; exact q.elim
  | some o =>
  cases o with
  | none => rw [ee] at q; exact q.elim
  | some d =>
  rw [ee] at q
  have nB : B c = none := by
    cases e : B c with
    | none => rfl
    | some u => rw [R.sB _ _ e] at nc; cases nc
  have R1 : Rel X.KM md ⟨fun a => T a ∨ a = c, T.l⟩ H0 B H1 σ env := R.addT nc s1 ⟨_, ec, rfl⟩
  have t1 : TIn (hasW md) T0 B ⟨fun a => T a ∨ a = c, T.l⟩ := ⟨fun a z => .inl (t0.le a z), fun a z => z.elim (t0.out a) fun y => by subst y; exact .inr nB, t0.old, t0.lp, t0.lx⟩
  obtain ⟨v, ev, ad0, kvs0, bs0, ws0, rfl, sp0, hk0, ed, _⟩ := R.deep2 hp ee
  have nad : c ≠ ad0 := fun y => by subst y; rw [nc] at hk0; cases hk0
  subst ed
  have q : SP0 X.KM W md fr T0 H0 B ((fb env).out env fun k => if keyFits true k && ((idxD (kvs0.map tupK) k).isNone && decide ((kvs0.map tupK).length < sizeLine)) then .nx (env.set i (some (.dic true (kvs0.map tupK ++ [k]) (ws0.map Dl.D.lst ++ [.lst []])))) else .bad) D := q
  refine ⟨_, ev, _, H0, B, env, R1, (out_of t1 R1 q).mono fun dk k H2 s2 _ q2 rk => ?_⟩
  have R2 := R1.same s2
  by_cases hc : (keyFits true dk && ((idxD (kvs0.map tupK) dk).isNone && decide ((kvs0.map tupK).length < sizeLine))) = true
  case neg => rw [if_neg hc] at q2; exact q2.elim
  rw [if_pos hc] at q2
  rw [Bool.and_eq_true, Bool.and_eq_true, decide_eq_true_eq, List.length_map] at hc
  obtain ⟨hf, hn, hz⟩ := hc
  have q2 : ∀ T σ' H', TIn (hasW md) T0 B T → Rel X.KM md T H0 B H' σ' (env.set i (some (.dic true (kvs0.map tupK ++ [dk]) (ws0.map Dl.D.lst ++ [.lst []])))) → D.nx σ' H' := q2
  cases dk with
  | tup xs =>
    have hks : (keysOf xs).isSome = true := hf
    obtain ⟨ks, eks⟩ := Option.isSome_iff_exists.mp hks
    obtain rfl := keysOf_eq eks
    obtain ⟨bk, vs, rfl, eb, rs⟩ := Rp.tup.mp rk.free
    obtain rfl := kVs_of rs
    have hk2 : H2 ad0 = some (.dT kvs0) := s2 _ _ (s1 _ _ hk0)
    have new : valV kvs0 ks = none := idx_none (Option.isNone_iff_eq_none.mp hn)
    have pk : putK kvs0 ks (V.ref c) = kvs0 ++ [(ks, V.ref c)] := putK_new _ new
    refine .inr ⟨ad0, upd H2 ad0 (.dT (putK kvs0 ks (.ref c))), rfl, DPut.t hk2 eb hz, q2 _ σ _ t1 (R2.updDeep (by rw [hp]; decide) (by rw [hp]; decide) ee (.inl sp0.1) sp0.2 hk2 rfl rfl fun v ev' => ?_)⟩
    rw [ev] at ev'
    cases ev'
    rw [hp]
    obtain ⟨v', ev2, ad, kvs, bs, ws, e1, sp, hk, ed, hv', nd, hl, hw⟩ := R.deep2 hp ee
    rw [ev] at ev2
    cases ev2
    cases e1
    rw [hk0] at hk
    cases hk
    injection ed with _ _ ew
    have ew : ws0 = ws := lsts_inj ew
    subst ew
    have ncb : c ∉ bs := fun hm => by
      obtain ⟨j, hj⟩ := List.getElem?_of_mem hm
      have hj2 : j < ws0.length := by rw [← hl]; exact (List.getElem?_eq_some_iff.mp hj).1
      obtain ⟨_, _, us, eu, _⟩ := hw j c _ hj (List.getElem?_eq_getElem hj2)
      rw [nc] at eu
      cases eu
    have ec2 : H2 c = some (.lst []) := s2 _ _ ec
    refine ⟨ad0, kvs0 ++ [(ks, .ref c)], bs ++ [c], ws0 ++ [[]], rfl, ⟨.inl sp0.1, sp0.2⟩, by rw [pk]; exact upd_same, by simp [tupK], by simp [hv'], nodup_snoc nd nad ncb, by simp [hl], fun j b w hjb hjw => ?_⟩
    by_cases hj : j < bs.length
    · rw [List.getElem?_append_left hj] at hjb
      rw [List.getElem?_append_left (by omega)] at hjw
      obtain ⟨sb, im, us, eu, r⟩ := hw j b w hjb hjw
      have nba : b ≠ ad0 := fun y => by
        subst y
        exact (List.nodup_cons.mp nd).1 (List.mem_of_getElem? hjb)
      refine ⟨⟨.inl sb.1, sb.2⟩, im, us, by rw [upd_ne nba]; exact s2 _ _ (s1 _ _ eu), ?_⟩
      exact Rps.imm _ _ (Rps.carry (carry_upd (A := fun a => a = ad0) hk2 rfl rfl) _ _ (Rps.imm _ _ ((r.same s1).same s2) im)) im
    · rw [List.getElem?_append_right (by omega)] at hjb
      have e0 : j - bs.length = 0 := by
        have := (List.getElem?_eq_some_iff.mp hjb).1
        simp at this
        omega
      rw [e0] at hjb
      rw [List.getElem?_append_right (by omega), ← hl, e0] at hjw
      cases hjb
      cases hjw
      exact ⟨⟨.inr rfl, nB⟩, rfl, [], by rw [upd_ne nad]; exact ec2, .nil⟩
  | _ => cases hf
/-! ### x[k].append(e) -/
def dAppD (i : Nat) (fk fe : DX) : DS := fun env => match env[i]? with
  | some (some (.dic true ks ws)) => (fk env).out env fun k => if keyFits true k then (match idxD ks k with
    | some j => (match ws[j]? with
      | some (.lst w) => (fe env).out env fun d => if imm d && decide (w.length < sizeLine) then .nx (env.set i (some (.dic true ks (ws.set j (.lst (w ++ [d])))))) else .bad
      | _ => .bad)
    | none => .bad) else .bad
  | _ => .bad
theorem vs_appD {p2 spos apos cpos : Pos} (hu : X.A.units + 1 < cLine) (hN : X.N[i]? = some x) (hv : Vis X.env.scope x) (hd : (x == ("__debug__" : Str)) = false) (hcd : (x == ("__classdict__" : Str)) = false) (hp : (mdAt md i).dp = 2)
    (hb : VE X W md sb nb b fb) (hix : PlainIx b) (he : VE X W md st nw e fe) (hs : starless e = true) (hbase : attributeBase (.Subscript (.Name x p2) b spos) "append" X.env (eval (.Subscript (.Name x p2) b spos) X.env) = eval (.Subscript (.Name x p2) b spos) X.env) (hline : (apos.endLine == cpos.line) = true) :
    VS X W md fr (.Expr (.Call (.Attribute (.Subscript (.Name x p2) b spos) "append" apos) [e] [] cpos) pos) (dAppD i fb fe) := by
  refine ⟨(ps_expr (pe_bm PySem.F.plainAttrs_list PySem.F.slot_list_append PySem.F.type_list_append mt_append (pe_ix (ix_any hu) (pe_var hN hv hd hcd) hb.run hix) (pa_cons he.run pa_nil (notStar hs)) hbase (by rw [notStar hs]; rfl) hline (notStar hs) (backTo_any rfl)) rfl).imp fun D σ H ⟨T0, T, H0, B, env, t0, R, q⟩ => ?_⟩
  unfold dAppD at q
  cases ee : env[i]? with
  | none => rw [ee] at q; exact q.elim
  | some o =>
  cases o with
  | none => rw [ee] at q; exact q.elim
  | some d =>
  rw [ee] at q
  obtain ⟨v, ev, ad, kvs, bs, ws, rfl, sp, hk, rfl, hv', nd, hl, hw⟩ := R.deep2 hp ee
  have q : SP0 X.KM W md fr T0 H0 B ((fb env).out env fun k => if keyFits true k then (match idxD (kvs.map tupK) k with
    | some j => (match (ws.map Dl.D.lst)[j]? with
      | some (.lst w) => (fe env).out env fun d => if imm d && decide (w.length < sizeLine) then .nx (env.set i (some (.dic true (kvs.map tupK) ((ws.map Dl.D.lst).set j (.lst (w ++ [d])))))) else .bad
      | _ => .bad)
    | none => .bad) else .bad) D := q
  refine ⟨_, ev, T, H0, B, env, R, (out_of t0 R q).mono fun dk k H1 s1 _ q1 r1 => ?_⟩
  have R1 := R.same s1
  by_cases hf : keyFits true dk = true
  case neg => rw [if_neg hf] at q1; exact q1.elim
  rw [if_pos hf] at q1
  cases dk with
  | tup xs =>
    have hks : (keysOf xs).isSome = true := hf
    obtain ⟨ks, eks⟩ := Option.isSome_iff_exists.mp hks
    obtain rfl := keysOf_eq eks
    obtain ⟨bk, vs, rfl, eb, rs⟩ := Rp.tup.mp r1.free
    obtain rfl := kVs_of rs
    cases ej : idxD (kvs.map tupK) (.tup (ks.map keyD)) with
    | none => rw [ej] at q1; exact q1.elim
    | some j =>
    rw [ej] at q1
    obtain ⟨v, hkj, hvv⟩ := idx_some ej
    have hbj : bs[j]? = (kvs.map (·.2))[j]?.bind (fun v => match v with | .ref b => some b | _ => none) := by
      rw [hv', List.getElem?_map]
      cases bs[j]? <;> rfl
    rw [List.getElem?_map, hkj] at hbj
    have hj : j < bs.length := by
      have h1 : j < kvs.length := (List.getElem?_eq_some_iff.mp hkj).1
      have h2 := congrArg List.length hv'
      simp at h2
      omega
    obtain ⟨bj, ebj⟩ : ∃ bj, bs[j]? = some bj := ⟨bs[j], List.getElem?_eq_getElem hj⟩
    have evj : v = .ref bj := by
      have h3 : (kvs.map (·.2))[j]? = (bs.map V.ref)[j]? := by rw [hv']
      rw [List.getElem?_map, List.getElem?_map, hkj, ebj] at h3
      exact Option.some.inj h3
    subst evj
    obtain ⟨w, ewj⟩ : ∃ w, ws[j]? = some w := ⟨ws[j]'(by omega), List.getElem?_eq_getElem (by omega)⟩
    have q1 : SP0 X.KM W md fr T0 H0 B (match (ws.map Dl.D.lst)[j]? with
      | some (.lst w) => (fe env).out env fun d => if imm d && decide (w.length < sizeLine) then .nx (env.set i (some (.dic true (kvs.map tupK) ((ws.map Dl.D.lst).set j (.lst (w ++ [d])))))) else .bad
      | _ => .bad) D := q1
    rw [List.getElem?_map, ewj] at q1
    have q1 : SP0 X.KM W md fr T0 H0 B ((fe env).out env fun d => if imm d && decide (w.length < sizeLine) then .nx (env.set i (some (.dic true (kvs.map tupK) ((ws.map Dl.D.lst).set j (.lst (w ++ [d])))))) else .bad) D := q1
    obtain ⟨sb, im, us, eu, rus⟩ := hw j bj w ebj ewj
    have eu1 : H1 bj = some (.lst us) := s1 _ _ eu
    refine .inr ⟨ad, .ref bj, rfl, by rw [← hvv]; exact DGet.t (s1 _ _ hk) eb, .inl ⟨rfl, us, SqL.of eu1⟩, T, H0, B, env, R1, (out_of t0 R1 q1).mono fun dv vv H2 s2 _ q2 r2 => ?_⟩
    have R2 := R1.same s2
    by_cases hz : (imm dv && decide (w.length < sizeLine)) = true
    case neg => rw [if_neg hz] at q2; exact q2.elim
    rw [if_pos hz] at q2
    rw [Bool.and_eq_true, decide_eq_true_eq] at hz
    have q2 : ∀ T σ' H', TIn (hasW md) T0 B T → Rel X.KM md T H0 B H' σ' (env.set i (some (.dic true (kvs.map tupK) ((ws.map Dl.D.lst).set j (.lst (w ++ [dv])))))) → D.nx σ' H' := q2
    have eu2 : H2 bj = some (.lst us) := s2 _ _ eu1
    have nba : bj ≠ ad := fun y => by
      subst y
      exact (List.nodup_cons.mp nd).1 (List.mem_of_getElem? ebj)
    refine ⟨bj, us, vv, rfl, rfl, eu2, by rw [rus.length]; exact hz.2, q2 T σ _ t0 (R2.updDeep (by rw [hp]; decide) (by rw [hp]; decide) ee sb.1 sb.2 eu2 rfl rfl fun v ev' => ?_)⟩
    rw [ev] at ev'
    cases ev'
    rw [hp]
    have up : ∀ {ds : List Dl.D} {us : List V}, Rps (X.KM.at T) H2 (fun _ => False) us ds → imms ds = true → Rps (X.KM.at T) (upd H2 bj (.lst (us ++ [vv]))) (fun _ => False) us ds := fun {ds us'} r im => Rps.imm _ _ (Rps.carry (carry_upd (A := fun a => a = bj) eu2 rfl rfl) _ _ (Rps.imm _ _ r im)) im
    have up' : ∀ {o : HO} {ds : List Dl.D} {us : List V}, Rps (X.KM.at T) H2 (fun _ => False) us ds → imms ds = true → Rps (X.KM.at T) (upd H2 bj o) (fun _ => False) us ds := fun {o ds us'} r im => Rps.imm _ _ (Rps.carry (carry_upd (A := fun a => a = bj) eu2 rfl rfl) _ _ (Rps.imm _ _ r im)) im
    refine ⟨ad, kvs, bs, ws.set j (w ++ [dv]), rfl, sp, by rw [upd_ne (Ne.symm nba)]; exact s2 _ _ (s1 _ _ hk), by rw [List.map_set], hv', nd, by simp [hl], fun j' b' w' hb' hw' => ?_⟩
    by_cases hjj : j' = j
    · subst hjj
      rw [ebj] at hb'
      cases hb'
      rw [List.getElem?_set_self (by omega)] at hw'
      cases hw'
      have imw : imms (w ++ [dv]) = true := by
        have : ∀ l : List Dl.D, imms l = true → imms (l ++ [dv]) = true := by
          intro l
          induction l with
          | nil => intro _; show (imm dv && true) = true; rw [hz.1]; rfl
          | cons a l ih =>
            intro h
            have h : (imm a && imms l) = true := h
            rw [Bool.and_eq_true] at h
            show (imm a && imms (l ++ [dv])) = true
            rw [h.1, ih h.2]
            rfl
        exact this w im
      exact ⟨sb, imw, us ++ [vv], upd_same, up' (((rus.same s1).same s2).append (.one r2.free)) imw⟩
    · rw [List.getElem?_set_ne (Ne.symm hjj)] at hw'
      obtain ⟨sb', im', us', eu', r'⟩ := hw j' b' w' hb' hw'
      have ne : b' ≠ bj := fun y => by
        subst y
        exact hjj (nodup_at (List.nodup_cons.mp nd).2 hb' ebj)
      exact ⟨sb', im', us', by rw [upd_ne ne]; exact s2 _ _ (s1 _ _ eu'), up' ((r'.same s1).same s2) im'⟩
  | _ => cases hf
end
/-! ### for .. in x: read only, gone behind the loop -/
section
variable {X : Cx} {W : WX} {md : Mds} {fr na : Bool} {tg : Expr} {pos : Pos} {g : DS}
theorem vs_forD {i0 : Nat} {x0 : Str} {p0 : Pos} {body : List Stmt} {gd : D → DEnv → Option DEnv} {sl ks : List Nat} (hp : PassesOwn (model X.prog X.w) X.A X.env X.xe) (hc : X.calm = true) (hN : X.N[i0]? = some x0) (hv : Vis X.env.scope x0) (hd : (x0 == ("__debug__" : Str)) = false) (hcd : (x0 == ("__classdict__" : Str)) = false) (ho : (mdAt md i0).dp = 2)
    (hg : VG X (mdK md i0) na tg gd sl) (hb : VSs X W (mdK md i0) fr body g) (hs : ∀ x, foldedSetIterable (.Name x0 p0) X.env x = pure x) : VS X W md fr (.For tg (.Name x0 p0) body [] pos) (dForK i0 gd g ks) := by
  refine ⟨(ps_lock (ps_for hp hc (pi_keys (tg := tg) (pe_var (pos := p0) hN hv hd hcd)) hg.run hb.run hs)).imp fun D σ H ⟨T0, T, H0, B, env, t0, R, p⟩ => ?_⟩
  unfold dForK at p
  cases hl : env[i0]? with
  | none => rw [hl] at p; exact p.elim
  | some o =>
  cases o with
  | none => rw [hl] at p; exact p.elim
  | some d0 =>
  rw [hl] at p
  obtain ⟨v, ev0, a0, kvs, bs, ws, rfl, sp, hk, rfl, hv', nd, hlw, hw⟩ := R.deep2 ho hl
  have p : SP0 X.KM W md fr T0 H0 B (endK i0 (forGo gd g ks (kvs.map tupK) env)) D := p
  refine ⟨a0, .dT kvs, hk, isDicO_Mut rfl, fun od => ?_⟩
  have R1 : Rel X.KM (mdK md i0) T0 H0 B (upd H a0 (.frz od (.dT kvs))) σ env := R.freezeD t0 ho hl ev0 sp hk hv' nd hlw hw
  have hw3 : hasW md = false := no3W R.st (by rw [ho]; decide) (by rw [ho]; decide)
  have hwK : hasW (mdK md i0) = hasW md := hasW_K (by rw [ho]; decide)
  have t1 : TIn (hasW md) T0 B T0 := TIn.refl t0.old
  have nT : ¬ T0 a0 := fun z => by
    obtain ⟨u, e⟩ := t0.old a0 z
    rw [sp.2] at e
    cases e
  have nW : ¬ WrP (mdK md i0) σ env T0 B a0 := fun z => by
    rcases z with ⟨j, o⟩ | ⟨z, _⟩
    · exact R.tO j a0 (ownAt_K o).2 sp.1
    · exact nT z
  obtain ⟨Rb, sBB⟩ := R1.rebase
  have s0B := R1.s0
  have fz : baseOf (WrP (mdK md i0) σ env T0 B) (upd H a0 (.frz od (.dT kvs))) a0 = some (.frz od (.dT kvs)) := by rw [baseOf_some nW]; exact upd_same
  have nB := sp.2
  have back : ∀ {T' : TL} {σ' : L2.St} {H' : Hp} {env' : DEnv}, ¬ T' a0 → Rel X.KM (mdK md i0) T' H0 (baseOf (WrP (mdK md i0) σ env T0 B) (upd H a0 (.frz od (.dT kvs)))) H' σ' env' → H' a0 = some (.frz od (.dT kvs)) ∧ Rel X.KM md T' H0 B (upd H' a0 (.dT kvs)) σ' (env'.set i0 none) := fun {T' σ' H' env'} nT' R' =>
    ⟨R'.sB _ _ fz, ((R'.unbase s0B sBB).thaw (R'.sB _ _ fz) rfl nB nT').unK R.st⟩
  have nTo : ∀ {T' : TL} {w : Bool}, TIn w T0 (baseOf (WrP (mdK md i0) σ env T0 B) (upd H a0 (.frz od (.dT kvs)))) T' → ¬ T' a0 := fun {T' w} t' z => by
    rcases t'.out a0 z with y | y
    · exact nT y
    · rw [fz] at y; cases y
  have p1 : ∀ o : Out, SP0 X.KM W md fr T0 H0 B (endK i0 o) D → SP0 X.KM W (mdK md i0) fr T0 H0 (baseOf (WrP (mdK md i0) σ env T0 B) (upd H a0 (.frz od (.dT kvs)))) o ⟨fun σ' H' => H' a0 = some (.frz od (.dT kvs)) ∧ D.nx σ' (upd H' a0 (.dT kvs)), fun v H' => H' a0 = some (.frz od (.dT kvs)) ∧ D.rt v (upd H' a0 (.dT kvs)), fun σ' H' => H' a0 = some (.frz od (.dT kvs)) ∧ D.bk σ' (upd H' a0 (.dT kvs)), fun σ' H' => H' a0 = some (.frz od (.dT kvs)) ∧ D.ct σ' (upd H' a0 (.dT kvs))⟩ := fun o q => by
    cases o with
    | nx e => exact fun T' σ' H' t' R' => let ⟨f, R2⟩ := back (nTo t') R'; ⟨f, q T' σ' _ (hwK ▸ t'.unbase t0.old sBB) R2⟩
    | rt d =>
      intro T' v H' t' s' z
      have f := s' _ _ fz
      refine ⟨f, q T' v _ (hwK ▸ t'.unbase t0.old sBB) (fun a o eo => ?_) (hwK ▸ (z.unbase t0.old t' sBB).thaw f rfl (nTo t'))⟩
      have : a ≠ a0 := fun y => by subst y; rw [nB] at eo; cases eo
      rw [upd_ne this]
      exact s' a o (sBB a o eo)
    | _ => exact q.elim
  have p2 := p1 _ p
  have fin := fun J it => for_core (na := na) (sl := sl) (J := J) (hwK ▸ t1.rebase (md := mdK md i0) R1 : TIn (hasW (mdK md i0)) T0 _ T0) Rb p2 it
  have wr : ∀ a, WrP (mdK md i0) σ env T0 (baseOf (WrP (mdK md i0) σ env T0 B) (upd H a0 (.frz od (.dT kvs)))) a → a ≠ a0 := fun a z y => by
    subst y
    rcases z with z | ⟨z, _⟩
    · exact nW (.inl z)
    · exact nT z
  refine ⟨_, ev0, a0, od, rfl, .inr ⟨kvs, upd_same, fin _ (itd_keysT upd_same fun z => wr _ z.2 rfl)⟩⟩
end
end Dl
/-! Dl10i: a told value that only one slot reaches (dp 1): read in tests, handed on, written and then gone. -/
namespace Dl
open PySem PySem.Spec PyProof.Rows L2
def isGone : D → Bool
  | .dic _ (_ :: _) [] => true
  | _ => false
mutual
/-- no dict within -/
def nodc : D → Bool
  | .tup ds => nodcs ds
  | .frl ds => nodcs ds
  | .ktp ds => nodcs ds
  | .lst ds => nodcs ds
  | .dic _ _ _ => false
  | _ => true
def nodcs : List D → Bool
  | [] => true
  | d :: ds => nodc d && nodcs ds
end
def askD (d : D) : RG D := if nodc d then .ok d else .bad
section
variable {K : KM} {md : Mds} {T : TL} {H0 B H H' : Hp} {σ : L2.St} {env : DEnv} {A A' : Pred}
theorem Rp.gone {K : KF} {v : V} {d : D} (h : Rp K H A v d) : isGone d = false := by
  cases d with
  | dic t ks ws =>
    cases ks with
    | nil => rfl
    | cons k ks =>
      cases ws with
      | cons _ _ => rfl
      | nil =>
        obtain ⟨a, vs, _, _, h, r⟩ := Rp.dic.mp h
        rw [r.nil_eq] at h
        cases t with
        | false =>
          obtain ⟨kvs, _, e1, e2⟩ := h
          rw [List.map_eq_nil_iff.mp e2] at e1
          cases e1
        | true =>
          obtain ⟨kvs, _, e1, e2⟩ := h
          rw [List.map_eq_nil_iff.mp e2] at e1
          cases e1
  | _ => rfl
theorem gone_D (n : Nat) : isGone (goneD n) = true := rfl
mutual
theorem Rp.within {K : KF} (m : ∀ a xs, ¬ A a → H a = some (.lst xs) → ¬ A' a) : ∀ (d : D) (v : V), nodc d = true → Rp K H A v d → Rp K H A' v d
  | .non, v, _, h => by unfold Rp at *; exact h
  | .bl _, v, _, h => by unfold Rp at *; exact h
  | .int _, v, _, h => by unfold Rp at *; exact h
  | .str _, v, _, h => by unfold Rp at *; exact h
  | .obj _, v, _, h => by unfold Rp at *; exact h
  | .tup ds, v, i, h => by
    unfold Rp at *
    unfold nodc at i
    obtain ⟨a, vs, e, s, t⟩ := h
    exact ⟨a, vs, e, s, Rps.within m ds vs i t⟩
  | .frl ds, v, i, h => by
    unfold Rp at *
    unfold nodc at i
    obtain ⟨a, vs, e, s, t⟩ := h
    exact ⟨a, vs, e, s, Rps.within m ds vs i t⟩
  | .ktp ds, v, i, h => by
    unfold Rp at *
    unfold nodc at i
    obtain ⟨a, vs, e, s, t⟩ := h
    exact ⟨a, vs, e, s, Rps.within m ds vs i t⟩
  | .lst ds, v, i, h => by
    unfold Rp at *
    unfold nodc at i
    obtain ⟨a, vs, e, n, s, t⟩ := h
    exact ⟨a, vs, e, m a vs n s, s, Rps.within m ds vs i t⟩
  | .dic t ks ws, v, i, h => by unfold nodc at i; cases i
theorem Rps.within {K : KF} (m : ∀ a xs, ¬ A a → H a = some (.lst xs) → ¬ A' a) : ∀ (ds : List D) (vs : List V), nodcs ds = true → Rps K H A vs ds → Rps K H A' vs ds
  | [], vs, _, h => by unfold Rps at *; exact h
  | d :: ds, vs, i, h => by
    unfold Rps at *
    unfold nodcs at i
    rw [Bool.and_eq_true] at i
    obtain ⟨v, r, e, q, t⟩ := h
    exact ⟨v, r, e, Rp.within m d v i.1 q, Rps.within m ds r i.2 t⟩
end
/-- many new lists for the deep slot -/
theorem Rel.addP (R : Rel K md T H0 B H σ env) {P : Pred} (n : ∀ a, P a → H a = none) (s : Same H H') (e : ∀ a, P a → ∃ o, H' a = some o ∧ isMutO o = true) : Rel K md ⟨fun a => T a ∨ P a, T.l⟩ H0 B H' σ env := by
  have R1 := R.same s
  have there : ∀ {a}, P a → ∀ {o}, H a = some o → False := fun {a} z {o} eo => by rw [n a z] at eo; cases eo
  have c : ∀ nw, Carry (K.at T) H H' (Avd md σ env T H0 nw) (Avd md σ env ⟨fun a => T a ∨ P a, T.l⟩ H0 nw) := fun nw => by
    have out : ∀ {a o}, H a = some o → ¬ Avd md σ env T H0 nw a → ¬ Avd md σ env ⟨fun a => T a ∨ P a, T.l⟩ H0 nw a := fun {a o} ea na z => by
      rcases z with z | (z | z) | z
      · exact na (.inl z)
      · exact na (.inr (.inl z))
      · exact there z ea
      · exact na (.inr (.inr z))
    refine ⟨fun a xs h => s _ _ h, fun a xs h => SqT.same s h, fun a xs h => SqF.same s h, fun a xs na h => ⟨out h na, s _ _ h⟩, fun a u na h => ⟨?_, Rd.same s h⟩⟩
    rcases h with h | ⟨o, h⟩
    · exact out h na
    · exact out h na
  refine ⟨R.s0, R1.sB, fun a h => h.elim (fun z => R1.tB a z) fun z => let ⟨o, eo, _⟩ := e a z; ⟨o, eo⟩, R.len, fun j d ej hd => ?_, R.out, R.sep, fun j a o z => z.elim (R.tO j a o) fun y => ?_, R.st, fun a h hn => h.elim (fun z => R1.tM a z hn) fun z => e a z, fun j d ej hd h3 => ?_, fun j d ej hd => (R.sto j d ej hd).carry rfl (c false) (fun a u _ eu => s _ _ eu) fun a x y => ⟨.inl x, y⟩⟩
  · obtain ⟨v, ev, q⟩ := R.slot j d ej hd
    refine ⟨v, ev, ?_⟩
    unfold SlotOk at *
    split at q
    · next h => rw [if_pos h]; exact q.carry (c _) fun a u _ _ eu => s _ _ eu
    · next h => rw [if_neg h]; exact Rp.carry (c _) d v q
  · obtain ⟨u, eu⟩ := R.ownThere o
    exact there y eu
  · obtain ⟨v, ev, q⟩ := R1.deep j d ej hd h3
    exact ⟨v, ev, q.carry (.weak fun a na z => na ⟨.inl z.1, z.2⟩) fun a u h eu => ⟨eu, .inl h.1, h.2⟩⟩
/-- the slot read as a shared one: what it alone reaches is no more forbidden -/
theorem Rel.lend (R : Rel K md T H0 B H σ env) {i : Nat} (hp : (mdAt md i).dp = 1) (ng : ∀ d, env[i]? = some (some d) → isGone d = false) : Rel K (mdK md i) ⟨fun a => T a ∧ ∃ o, B a = some o, T.l⟩ H0 B H σ env := by
  have hp0 : (mdAt md i).dp ≠ 0 := by rw [hp]; decide
  have av : ∀ {nw a}, Avd (mdK md i) σ env ⟨fun a => T a ∧ ∃ o, B a = some o, T.l⟩ H0 nw a → Avd md σ env T H0 nw a := fun {nw a} h => by
    rcases h with ⟨j, o⟩ | h | h
    · exact .inl ⟨j, (ownAt_K o).2⟩
    · exact .inr (.inl h.1)
    · exact .inr (.inr h)
  refine ⟨R.s0, R.sB, fun a ha => R.tB a ha.1, R.len, fun j d ej hd => ?_, fun j a o => R.out j a (ownAt_K o).2, fun j k a o o' => R.sep j k a (ownAt_K o).2 (ownAt_K o').2, fun j a o z => R.tO j a (ownAt_K o).2 z.1, mdK_ok R.st i, fun a ha hn => R.tM a ha.1 hn, fun j d ej hd h3 => ?_, fun j d ej hd => absurd (R.st.one j i (mdK_dp (show (mdAt (mdK md i) j).dp ≠ 0 by omega)).2 hp0) (mdK_dp (show (mdAt (mdK md i) j).dp ≠ 0 by omega)).1⟩
  · by_cases z : j = i
    · subst z
      obtain ⟨v, ev, q⟩ := R.deep j d ej hp0 (by rw [hp]; decide)
      refine ⟨v, ev, ?_⟩
      rw [hp] at q
      rcases q with q | ⟨n, a, vs, e, _⟩
      · unfold SlotOk
        rw [mdK_at, if_neg (by exact Bool.false_ne_true)]
        refine q.weak fun a y => ?_
        rintro ⟨s1, s2⟩
        rcases y with ⟨k, o⟩ | ⟨_, o, y⟩ | ⟨y, _⟩
        · exact R.tO k a (ownAt_K o).2 s1
        · rw [s2] at y; cases y
        · cases y
      · have := ng d ej
        rw [e, gone_D] at this
        cases this
    · rw [mdK_ne z] at hd ⊢
      obtain ⟨v, ev, q⟩ := R.slot j d ej hd
      refine ⟨v, ev, ?_⟩
      unfold SlotOk at *
      split at q
      · next h => rw [if_pos h]; exact q.carry (.weak fun a y => av y) fun _ _ _ _ e => e
      · next h => rw [if_neg h]; exact q.weak fun a y => av y
  · obtain ⟨z, hd⟩ := mdK_dp hd
    exact absurd (R.st.one j i hd hp0) z
/-- a write at a place of the deep slot, that is forgotten -/
theorem Rel.updT (R : Rel K md T H0 B H σ env) {a : Addr} {u o : HO} (nd : ∀ j d, env[j]? = some (some d) → (mdAt md j).dp = 0) (hT : T a) (nB : B a = none) (hu : H a = some u) (mu : isMutO u = true) (mo : isMutO o = true) : Rel K md T H0 B (L2.upd H a o) σ env := by
  have c : ∀ nw, Carry (K.at T) H (L2.upd H a o) (Avd md σ env T H0 nw) (Avd md σ env T H0 nw) := fun nw => carry_upd hu mu (.inr (.inl hT))
  refine ⟨R.s0, fun b w eb => ?_, fun b hb => ?_, R.len, fun j d2 e hd => ?_, R.out, R.sep, R.tO, R.st, fun b hb hn => ?_, fun j d2 e hd h3 => absurd (nd j d2 e) hd, fun j d2 e hd => absurd (nd j d2 e) (by omega)⟩
  · have : b ≠ a := fun z => by subst z; rw [nB] at eb; cases eb
    rw [upd_ne this]
    exact R.sB b w eb
  · by_cases z : b = a
    · subst z; exact ⟨o, upd_same⟩
    · obtain ⟨w, ew⟩ := R.tB b hb
      exact ⟨w, by rw [upd_ne z]; exact ew⟩
  · obtain ⟨v, ev, q⟩ := R.slot j d2 e hd
    refine ⟨v, ev, ?_⟩
    unfold SlotOk at *
    split at q
    · next h =>
      rw [if_pos h]
      refine q.carry (c _) fun b w e1 hl ew => ?_
      subst e1
      have : b ≠ a := fun y => by
        subst y
        exact R.tO j b ⟨h, ⟨d2, e, hl⟩, ev⟩ hT
      rw [upd_ne this]
      exact ew
    · next h => rw [if_neg h]; exact Rp.carry (c _) d2 v q
  · by_cases z : b = a
    · subst z; exact ⟨o, upd_same, mo⟩
    · obtain ⟨w, ew, mw⟩ := R.tM b hb hn
      exact ⟨w, by rw [upd_ne z]; exact ew, mw⟩
/-- a slot of which nothing is known, written -/
theorem Rel.setNo (R : Rel K md T H0 B H σ env) {r : Nat} {v : V} (h : ∀ d, env[r]? ≠ some (some d)) : Rel K md T H0 B H (σ.set r (some v)) env := by
  have ne : ∀ {j d}, env[j]? = some (some d) → (σ.set r (some v))[j]? = σ[j]? := fun {j d} e => by
    have : r ≠ j := fun z => by subst z; exact h d e
    rw [List.getElem?_set_ne this]
  have own : ∀ {j a}, OwnAt md (σ.set r (some v)) env j a → OwnAt md σ env j a := fun {j a} ⟨h1, ⟨d, h2, hl⟩, h3⟩ => ⟨h1, ⟨d, h2, hl⟩, by rw [← ne h2]; exact h3⟩
  have av : ∀ {nw a}, Avd md (σ.set r (some v)) env T H0 nw a → Avd md σ env T H0 nw a := fun {nw a} z => by
    rcases z with ⟨j, o⟩ | z
    · exact .inl ⟨j, own o⟩
    · exact .inr z
  refine ⟨R.s0, R.sB, R.tB, by simp [R.len], fun j d ej hd => ?_, fun j a o => R.out j a (own o), fun j k a o o' => R.sep j k a (own o) (own o'), fun j a o => R.tO j a (own o), R.st, R.tM, fun j d ej hd h3 => ?_, fun j d ej hd => (R.sto j d ej hd).weak fun _ => av⟩
  · obtain ⟨w, ev, q⟩ := R.slot j d ej hd
    refine ⟨w, by rw [ne ej]; exact ev, ?_⟩
    unfold SlotOk at *
    split at q
    · next h => rw [if_pos h]; exact q.carry (.weak fun a y => av y) fun _ _ _ _ e => e
    · next h => rw [if_neg h]; exact q.weak fun a y => av y
  · obtain ⟨w, ev, q⟩ := R.deep j d ej hd h3
    exact ⟨w, by rw [ne ej]; exact ev, q⟩
theorem nd_of (st : MdOk md) {i : Nat} (hp : (mdAt md i).dp ≠ 0) (hn : ∀ d, env[i]? ≠ some (some d)) : ∀ j d, env[j]? = some (some d) → (mdAt md j).dp = 0 := fun j d e => by
  cases h : (mdAt md j).dp with
  | zero => rfl
  | succ n =>
    have : j = i := st.one j i (by rw [h]; simp) hp
    subst this
    exact absurd e (hn d)
end
section
variable {X : Cx} {W : WX} {md : Mds} {fr st nw sa na sb nb : Bool} {e a b tg : Expr} {f fa fb fe : DX} {pos : Pos} {es : List Expr} {fs : DXs} {g : DS} {i : Nat} {x : Str}
/-! ### a test that reads the slot -/
def dT1 (i : Nat) (f : DX) : DX := fun env => match env[i]? with
  | some (some d) => if isGone d then .bad else f env
  | _ => f env
theorem vt_one (hp : (mdAt md i).dp = 1) (h : VT X W (mdK md i) e f) : VT X W md e (dT1 i f) := by
  refine ⟨h.run.imp fun σ H Q ⟨T, H0, B, env, R, p⟩ => ?_⟩
  unfold dT1 at p
  cases ee : env[i]? with
  | none => rw [ee] at p; exact ⟨_, H0, B, env, R.lend hp (fun d z => by rw [ee] at z; cases z), p⟩
  | some o =>
    cases o with
    | none => rw [ee] at p; exact ⟨_, H0, B, env, R.lend hp (fun d z => by rw [ee] at z; cases z), p⟩
    | some d =>
      rw [ee] at p
      have p : EP0 (β := V) X.KM W σ H (if isGone d then RG.bad else f env) _ := p
      cases hg : isGone d with
      | true => rw [if_pos hg] at p; exact p.elim
      | false =>
        rw [if_neg (by rw [hg]; exact Bool.false_ne_true)] at p
        exact ⟨_, H0, B, env, R.lend hp (fun d' z => by rw [ee] at z; cases z; exact hg), p⟩
/-! ### x = f(..) -/
def dCall1 (g : DF') (fs : DXs) : DX := fun env => (fs env).bind fun ds => (g ds).bind askD
theorem setCall1_reading {ar : Nat} {g : DF'} {D : Ends} {σ : L2.St} {H : Hp} (hl : ∀ env ds, fs env = .ok ds → ds.length = ar) (hp : (mdAt md i).dp = 1) (w : tS X.KM W md fr (dSet i (dCall1 g fs)) D σ H) :
    tCallS (spD X.KM ar true g) (WE W) (tDs X.KM W md st nw fs) σ H fun v H' => gName i v σ H' D.nx := by
  obtain ⟨T0, T, H0, B, env, t0, R, p⟩ := w
  have p : EP0 (β := V) X.KM W σ H ((fs env).bind fun ds => (g ds).bind askD) fun d _ H' => SP0 X.KM W md fr T0 H0 B (Out.nx (List.set env i (some d))) D := out_of t0 R p
  refine ⟨T, H0, B, env, R, p.bind.mono fun ds vs H1 s1 eq p1 r => ⟨⟨fun _ => False, T.l⟩, ds, fun _ z => z.elim, r.free, hl env ds eq, ?_⟩⟩
  have R1 := R.same s1
  cases e : g ds with
  | ok d =>
    rw [e] at p1
    intro v H' s q
    have p1 : EP0 (β := V) X.KM W σ H1 (if nodc d then RG.ok d else RG.bad) fun d _ H' => SP0 X.KM W md fr T0 H0 B (Out.nx (List.set env i (some d))) D := p1
    cases hn : nodc d with
    | false => rw [if_neg (by rw [hn]; exact Bool.false_ne_true)] at p1; exact p1.elim
    | true =>
      rw [if_pos hn] at p1
      have q : Rp (X.KM.at T) H' (fun a => ∃ o, H1 a = some o) v d := Rpf.rp q
      have R2 := R1.addP (P := fun a => H1 a = none ∧ ∃ o, H' a = some o ∧ isMutO o = true) (fun a z => z.1) s (fun a z => z.2)
      have nB : ∀ a, H1 a = none → B a = none := fun a z => by
        cases eb : B a with
        | none => rfl
        | some u => rw [R1.sB _ _ eb] at z; cases z
      refine p1 v H' s ⟨fun a => T a ∨ (H1 a = none ∧ ∃ o, H' a = some o ∧ isMutO o = true), T.l⟩ _ H' ⟨fun a z => .inl (t0.le a z), fun a z => z.elim (t0.out a) fun y => .inr (nB a y.1), t0.old, t0.lp, t0.lx⟩ (R2.setDeep (by rw [hp]; decide) (by rw [hp]; decide) ?_)
      rw [hp]
      refine .inl (Rp.within (fun a xs na ea z => z ?_) d v hn q)
      have hn1 : H1 a = none := by
        cases eh : H1 a with
        | none => rfl
        | some u => exact absurd ⟨u, eh⟩ na
      exact ⟨.inr ⟨hn1, _, ea, rfl⟩, nB a hn1⟩
  | exc c fs => rw [e] at p1; exact p1
  | bad => rw [e] at p1; exact p1
theorem vs_setCall1 {k : Nat} {pos' : Pos} {F : FEnt} {p spos : Pos} (hN : X.N.Nodup) (hi : X.N[i]? = some x) (hx : Loc X.env.scope x) (hfn : X.fn x = true ∨ X.env.scope.names.lookup x = some .local)
    (hf : F.fresh = true) (hF : FnAt X k F) (hr : Room k X.A) (hg : Gl X F.name) (tk : Takes X W) (ha : VA X W md st nw (e :: es) fs) (hl : ∀ env ds, fs env = .ok ds → ds.length = F.ar)
    (hdb : (F.name == ("__debug__" : Str)) = false) (hs : (e :: es).all starless = true) (hsw : swapsWith (.Call (.Name F.name p) (e :: es) [] pos) (some (.Name x pos')) spos.line X.env = pure false)
    (hp : (mdAt md i).dp = 1) : VS X W md fr (.Assign [.Name x pos'] (.Call (.Name F.name p) (e :: es) [] pos) spos) (dSet i (dCall1 F.den fs)) := by
  obtain ⟨f, fd, ps, ok, hm, hk, hb⟩ := hF.ex
  rw [hf] at ok
  rw [List.all_cons, Bool.and_eq_true] at hs
  exact ⟨(ps_set hN hi hx (pe_callS ok hr hg hm hk hb (fun σ => passAt tk σ) ha.run hdb (notStar hs.1) (backTo_any hs.2)) hsw hfn).imp fun D σ H w => setCall1_reading hl hp w⟩
/-! ### x[k].append(e), x[k].clear(): x is gone -/
def dAt1 (i : Nat) (fk : DX) (go : List D → List D → DS) : DS := fun env => match env[i]? with
  | some (some (.lst ds)) => (fk env).out env fun k => match k with
    | .int j => (match atI ds j with
      | some (.lst w) => go ds w env
      | _ => .bad)
    | _ => .bad
  | _ => .bad
def dApp1 (i : Nat) (fk fe : DX) : DS := dAt1 i fk fun ds w env => (fe env).out env fun _ => if w.length < sizeLine then .nx (env.set i (some (goneD (ds.length + 1)))) else .bad
def dClr1 (i : Nat) (fk : DX) : DS := dAt1 i fk fun ds _ env => .nx (env.set i (some (goneD (ds.length + 1))))
/-- the place of x[k] -/
theorem at1 {K : KF} {H : Hp} {S : Pred} {v : V} {ds w : List D} {j : Int} (h : DpOk K H S 1 v (.lst ds)) (e : atI ds j = some (.lst w)) : ∃ a vs l us, v = .ref a ∧ S a ∧ H a = some (.lst vs) ∧ vs.length = ds.length ∧ atI vs j = some (.ref l) ∧ S l ∧ H l = some (.lst us) ∧ us.length = w.length := by
  rcases h with h | ⟨n, a, vs, e, _⟩
  · obtain ⟨a, vs, rfl, na, ea, r⟩ := Rp.lst.mp h
    obtain ⟨u, eu, q⟩ := r.atI e
    obtain ⟨l, us, rfl, nl, el, rl⟩ := Rp.lst.mp q
    exact ⟨a, vs, l, us, rfl, Classical.not_not.mp na, ea, r.length, eu, Classical.not_not.mp nl, el, rl.length⟩
  · cases e
theorem gone_upd {K : KF} {H : Hp} {S : Pred} {a l : Addr} {vs zs : List V} {n : Nat} (sa : S a) (ea : H a = some (.lst vs)) (h1 : vs.length ≤ n) (h2 : zs.length ≤ n ∨ l ≠ a) : DpOk K (upd H l (.lst zs)) S 1 (.ref a) (goneD n) := by
  by_cases z : l = a
  · subst z
    exact .inr ⟨n, l, zs, rfl, rfl, sa, upd_same, h2.elim id fun y => absurd rfl y⟩
  · exact .inr ⟨n, a, vs, rfl, rfl, sa, by rw [upd_ne (Ne.symm z)]; exact ea, h1⟩
theorem vs_app1 {p2 spos apos cpos : Pos} (hu : X.A.units + 1 < cLine) (hN : X.N[i]? = some x) (hv : Vis X.env.scope x) (hd : (x == ("__debug__" : Str)) = false) (hcd : (x == ("__classdict__" : Str)) = false) (hp : (mdAt md i).dp = 1)
    (hb : VE X W md sb nb b fb) (hix : PlainIx b) (he : VE X W md st nw e fe) (hs : starless e = true) (hbase : attributeBase (.Subscript (.Name x p2) b spos) "append" X.env (eval (.Subscript (.Name x p2) b spos) X.env) = eval (.Subscript (.Name x p2) b spos) X.env) (hline : (apos.endLine == cpos.line) = true) :
    VS X W md fr (.Expr (.Call (.Attribute (.Subscript (.Name x p2) b spos) "append" apos) [e] [] cpos) pos) (dApp1 i fb fe) := by
  refine ⟨(ps_expr (pe_bm PySem.F.plainAttrs_list PySem.F.slot_list_append PySem.F.type_list_append mt_append (pe_ix (ix_any hu) (pe_var hN hv hd hcd) hb.run hix) (pa_cons he.run pa_nil (notStar hs)) hbase (by rw [notStar hs]; rfl) hline (notStar hs) (backTo_any rfl)) rfl).imp fun D σ H ⟨T0, T, H0, B, env, t0, R, q⟩ => ?_⟩
  have hp0 : (mdAt md i).dp ≠ 0 := by rw [hp]; decide
  unfold dApp1 dAt1 at q
  cases ee : env[i]? with
  | none => rw [ee] at q; exact q.elim
  | some o =>
  cases o with
  | none => rw [ee] at q; exact q.elim
  | some d =>
  rw [ee] at q
  cases d with
  | lst ds =>
    obtain ⟨v, ev, _⟩ := R.deep i _ ee hp0 (by rw [hp]; decide)
    refine ⟨v, ev, T, H0, B, env, R, (out_of t0 R q).mono fun dk k H1 s1 _ q1 r1 => ?_⟩
    have R1 := R.same s1
    cases dk with
    | int j =>
      have q1 : SP0 X.KM W md fr T0 H0 B (match atI ds j with
        | some (.lst w) => (fe env).out env fun _ => if w.length < sizeLine then .nx (env.set i (some (goneD (ds.length + 1)))) else .bad
        | _ => .bad) D := q1
      cases ea : atI ds j with
      | none => rw [ea] at q1; exact q1.elim
      | some dw =>
        rw [ea] at q1
        cases dw with
        | lst w =>
          obtain ⟨v', ev', qd⟩ := R1.deep i _ ee hp0 (by rw [hp]; decide)
          rw [ev] at ev'
          cases ev'
          rw [hp] at qd
          obtain ⟨a, vs, l, us, rfl, sa, eva, lva, el, sl, eul, lul⟩ := at1 qd ea
          have q1 : SP0 X.KM W md fr T0 H0 B ((fe env).out env fun _ => if w.length < sizeLine then .nx (env.set i (some (goneD (ds.length + 1)))) else .bad) D := q1
          have ek : k = .int j := r1.int
          refine .inl (.inl ⟨a, vs, j, .ref l, rfl, ek, SqL.of eva, el, .inl ⟨rfl, us, SqL.of eul⟩, T, H0, B, env, R1, (out_of t0 R1 q1).mono fun dv vv H2 s2 _ q2 r2 => ?_⟩)
          have R2 := R1.same s2
          by_cases hz : w.length < sizeLine
          case neg => rw [if_neg hz] at q2; exact q2.elim
          rw [if_pos hz] at q2
          have eul2 : H2 l = some (.lst us) := s2 _ _ eul
          have q2 : ∀ T σ' H', TIn (hasW md) T0 B T → Rel X.KM md T H0 B H' σ' (env.set i (some (goneD (ds.length + 1)))) → D.nx σ' H' := q2
          refine ⟨l, us, vv, rfl, rfl, eul2, by rw [lul]; exact hz, q2 T σ _ t0 (R2.updDeep hp0 (by rw [hp]; decide) ee sl.1 sl.2 eul2 rfl rfl fun v ev' => ?_)⟩
          rw [ev] at ev'
          cases ev'
          rw [hp]
          refine gone_upd sa (s2 _ _ eva) (by omega) ?_
          by_cases z : l = a
          · subst z
            rw [eul] at eva
            cases eva
            exact .inl (by simp; omega)
          · exact .inr z
        | _ => exact q1.elim
    | _ => exact q1.elim
  | _ => exact q.elim
theorem vs_clr1 {p2 spos apos cpos : Pos} (hu : X.A.units + 1 < cLine) (hN : X.N[i]? = some x) (hv : Vis X.env.scope x) (hd : (x == ("__debug__" : Str)) = false) (hcd : (x == ("__classdict__" : Str)) = false) (hp : (mdAt md i).dp = 1)
    (hb : VE X W md sb nb b fb) (hix : PlainIx b) (hbase : attributeBase (.Subscript (.Name x p2) b spos) "clear" X.env (eval (.Subscript (.Name x p2) b spos) X.env) = eval (.Subscript (.Name x p2) b spos) X.env) (hline : (apos.endLine == cpos.line) = true) :
    VS X W md fr (.Expr (.Call (.Attribute (.Subscript (.Name x p2) b spos) "clear" apos) [] [] cpos) pos) (dClr1 i fb) := by
  refine ⟨(ps_expr (pe_bm0 PySem.F.plainAttrs_list PySem.F.slot_list_clear PySem.F.type_list_clear mt_clear (pe_ix (ix_any hu) (pe_var hN hv hd hcd) hb.run hix) hbase hline) rfl).imp fun D σ H ⟨T0, T, H0, B, env, t0, R, q⟩ => ?_⟩
  have hp0 : (mdAt md i).dp ≠ 0 := by rw [hp]; decide
  unfold dClr1 dAt1 at q
  cases ee : env[i]? with
  | none => rw [ee] at q; exact q.elim
  | some o =>
  cases o with
  | none => rw [ee] at q; exact q.elim
  | some d =>
  rw [ee] at q
  cases d with
  | lst ds =>
    obtain ⟨v, ev, _⟩ := R.deep i _ ee hp0 (by rw [hp]; decide)
    refine ⟨v, ev, T, H0, B, env, R, (out_of t0 R q).mono fun dk k H1 s1 _ q1 r1 => ?_⟩
    have R1 := R.same s1
    cases dk with
    | int j =>
      have q1 : SP0 X.KM W md fr T0 H0 B (match atI ds j with
        | some (.lst w) => Out.nx (env.set i (some (goneD (ds.length + 1))))
        | _ => .bad) D := q1
      cases ea : atI ds j with
      | none => rw [ea] at q1; exact q1.elim
      | some dw =>
        rw [ea] at q1
        cases dw with
        | lst w =>
          obtain ⟨v', ev', qd⟩ := R1.deep i _ ee hp0 (by rw [hp]; decide)
          rw [ev] at ev'
          cases ev'
          rw [hp] at qd
          obtain ⟨a, vs, l, us, rfl, sa, eva, lva, el, sl, eul, lul⟩ := at1 qd ea
          have q1 : ∀ T σ' H', TIn (hasW md) T0 B T → Rel X.KM md T H0 B H' σ' (env.set i (some (goneD (ds.length + 1)))) → D.nx σ' H' := q1
          have ek : k = .int j := r1.int
          refine .inl (.inl ⟨a, vs, j, .ref l, rfl, ek, SqL.of eva, el, .inl ⟨rfl, us, SqL.of eul⟩, l, us, rfl, rfl, eul, q1 T σ _ t0 (R1.updDeep hp0 (by rw [hp]; decide) ee sl.1 sl.2 eul rfl rfl fun v ev' => ?_)⟩)
          rw [ev] at ev'
          cases ev'
          rw [hp]
          exact gone_upd sa eva (by omega) (.inl (by simp))
        | _ => exact q1.elim
    | _ => exact q1.elim
  | _ => exact q.elim
/-! ### x.append(e) of what is gone -/
def dAppG (i : Nat) (fs : DXs) : DS := fun env => match env[i]? with
  | some (some (.dic false (_ :: ks) [])) => (fs env).out env fun as => match as with
    | [_] => if ks.length < sizeLine then .nx (env.set i (some (goneD (ks.length + 1)))) else .bad
    | _ => .bad
  | _ => .bad
theorem vs_appG {p2 apos cpos : Pos} (hN : X.N[i]? = some x) (hv : Vis X.env.scope x) (hd : (x == ("__debug__" : Str)) = false) (hcd : (x == ("__classdict__" : Str)) = false) (hp : (mdAt md i).dp = 1)
    (ha : VA X W md st nw [e] fs) (hs : starless e = true) (hbase : attributeBase (.Name x p2) "append" X.env (eval (.Name x p2) X.env) = eval (.Name x p2) X.env) (hline : (apos.endLine == cpos.line) = true) :
    VS X W md fr (.Expr (.Call (.Attribute (.Name x p2) "append" apos) [e] [] cpos) pos) (dAppG i fs) := by
  refine ⟨(ps_expr (pe_bm PySem.F.plainAttrs_list PySem.F.slot_list_append PySem.F.type_list_append mt_append (pe_var hN hv hd hcd) ha.run hbase (by rw [notStar hs]; rfl) hline (notStar hs) (backTo_any rfl)) rfl).imp fun D σ H ⟨T0, T, H0, B, env, t0, R, q⟩ => ?_⟩
  have hp0 : (mdAt md i).dp ≠ 0 := by rw [hp]; decide
  unfold dAppG at q
  cases ee : env[i]? with
  | none => rw [ee] at q; exact q.elim
  | some o =>
  cases o with
  | none => rw [ee] at q; exact q.elim
  | some d =>
  rw [ee] at q
  obtain ⟨v, ev, qd⟩ := R.deep i _ ee hp0 (by rw [hp]; decide)
  rw [hp] at qd
  have hg : isGone d = true ∨ isGone d = false := by cases isGone d <;> simp
  rcases qd with qd | ⟨n, a, vs, rfl, rfl, sa, ea, hl⟩
  · have g := qd.gone
    split at q
    · next e1 => cases e1; cases g
    · exact q.elim
  · have q : SP0 X.KM W md fr T0 H0 B ((fs env).out env fun as => match as with
      | [_] => if (List.replicate n Dl.D.non).length < sizeLine then .nx (env.set i (some (goneD ((List.replicate n Dl.D.non).length + 1)))) else .bad
      | _ => .bad) D := q
    rw [List.length_replicate] at q
    refine ⟨_, ev, .inl ⟨rfl, vs, SqL.of ea⟩, T, H0, B, env, R, (out_of t0 R q).mono fun as us H1 s1 _ q1 r1 => ?_⟩
    have R1 := R.same s1
    match as, r1, q1 with
    | [dv], r1, q1 =>
      obtain ⟨u, rfl, r2⟩ := r1.one
      have q1 : SP0 X.KM W md fr T0 H0 B (if n < sizeLine then .nx (env.set i (some (goneD (n + 1)))) else .bad) D := q1
      by_cases hz : n < sizeLine
      case neg => rw [if_neg hz] at q1; exact q1.elim
      rw [if_pos hz] at q1
      have q1 : ∀ T σ' H', TIn (hasW md) T0 B T → Rel X.KM md T H0 B H' σ' (env.set i (some (goneD (n + 1)))) → D.nx σ' H' := q1
      have ea1 : H1 a = some (.lst vs) := s1 _ _ ea
      refine ⟨a, vs, u, rfl, rfl, ea1, by omega, q1 T σ _ t0 (R1.updDeep hp0 (by rw [hp]; decide) ee sa.1 sa.2 ea1 rfl rfl fun v ev' => ?_)⟩
      rw [ev] at ev'
      cases ev'
      rw [hp]
      exact gone_upd sa ea1 (by omega) (.inl (by simp; omega))
    | [], _, q1 => exact q1.elim
    | _ :: _ :: _, _, q1 => exact q1.elim
/-! ### for r in x: r.append(e): both gone -/
def isL (n : Nat) : D → Bool
  | .lst w => decide (w.length + n < sizeLine)
  | _ => false
def okD : RG D → Bool
  | .ok _ => true
  | _ => false
def dForApp (i r : Nat) (fe : DX) : DS := fun env => match env[i]? with
  | some (some (.tup ds)) => if (ds.all (isL ds.length) && decide (r < env.length)) && okD (fe ((env.set i none).set r none)) then .nx ((env.set i none).set r none) else .bad
  | _ => .bad
theorem vs_forApp {r : Nat} {y : Str} {p1 p2 p3 apos cpos pos2 : Pos} (hpo : PassesOwn (model X.prog X.w) X.A X.env X.xe) (hc : X.calm = true) (hND : X.N.Nodup) (hN : X.N[i]? = some x) (hv : Vis X.env.scope x) (hd : (x == ("__debug__" : Str)) = false) (hcd : (x == ("__classdict__" : Str)) = false)
    (hNr : X.N[r]? = some y) (hxr : Loc X.env.scope y) (hfr : X.fn y = true ∨ X.env.scope.names.lookup y = some .local) (hvr : Vis X.env.scope y) (hdr : (y == ("__debug__" : Str)) = false) (hcdr : (y == ("__classdict__" : Str)) = false)
    (hp : (mdAt md i).dp = 1) (he : VE X W md st nw e fe) (hs : starless e = true) (hbase : attributeBase (.Name y p3) "append" X.env (eval (.Name y p3) X.env) = eval (.Name y p3) X.env) (hline : (apos.endLine == cpos.line) = true)
    (hfs : ∀ z, foldedSetIterable (.Name x p2) X.env z = pure z) :
    VS X W md fr (.For (.Name y p1) (.Name x p2) [.Expr (.Call (.Attribute (.Name y p3) "append" apos) [e] [] cpos) pos2] [] pos) (dForApp i r fe) := by
  refine ⟨(ps_for hpo hc (pi_seq (tg := .Name y p1) (pe_var (pos := p2) hN hv hd hcd)) (pg_name hND hNr hxr hfr) (pss_cons (ps_expr (pe_bm PySem.F.plainAttrs_list PySem.F.slot_list_append PySem.F.type_list_append mt_append (pe_var hNr hvr hdr hcdr) (pa_cons he.run pa_nil (notStar hs)) hbase (by rw [notStar hs]; rfl) hline (notStar hs) (backTo_any rfl)) rfl) pss_nil) hfs).imp fun D σ H ⟨T0, T, H0, B, env, t0, R, q⟩ => ?_⟩
  have hp0 : (mdAt md i).dp ≠ 0 := by rw [hp]; decide
  unfold dForApp at q
  cases ee : env[i]? with
  | none => rw [ee] at q; exact q.elim
  | some o =>
  cases o with
  | none => rw [ee] at q; exact q.elim
  | some d =>
  rw [ee] at q
  cases d with
  | tup ds =>
    have q : SP0 X.KM W md fr T0 H0 B (if (ds.all (isL ds.length) && decide (r < env.length)) && okD (fe ((env.set i none).set r none)) then .nx ((env.set i none).set r none) else .bad) D := q
    by_cases hz : ((ds.all (isL ds.length) && decide (r < env.length)) && okD (fe ((env.set i none).set r none))) = true
    case neg => rw [if_neg hz] at q; exact q.elim
    rw [if_pos hz] at q
    rw [Bool.and_eq_true, Bool.and_eq_true, decide_eq_true_eq] at hz
    obtain ⟨⟨z1, z2⟩, z3⟩ := hz
    have q : ∀ T σ' H', TIn (hasW md) T0 B T → Rel X.KM md T H0 B H' σ' ((env.set i none).set r none) → D.nx σ' H' := q
    obtain ⟨v, ev, qd⟩ := R.deep i _ ee hp0 (by rw [hp]; decide)
    rw [hp] at qd
    rcases qd with qd | ⟨n, a, vs, e, _⟩
    case inr => cases e
    obtain ⟨a0, vs, rfl, ea0, rs⟩ := Rp.tup.mp qd
    have Rk : Rel X.KM md T H0 B H σ ((env.set i none).set r none) := (R.killAny i).killAny r
    have eN : ∀ d, ((env.set i none).set r none)[i]? ≠ some (some d) := fun d z => (kill_lookup (kill_lookup z).2).1 rfl
    have eR : ∀ d, ((env.set i none).set r none)[r]? ≠ some (some d) := fun d z => (kill_lookup z).1 rfl
    have nd := nd_of (env := (env.set i none).set r none) R.st hp0 eN
    refine ⟨_, ev, .inr (.inl ⟨a0, rfl, ⟨vs, .inl (.inl ea0)⟩, ?_⟩)⟩
    refine for_it (walk_tup (xs := vs)) (fun k σ' H' => Rel X.KM md T H0 B H' σ' ((env.set i none).set r none) ∧ H' a0 = some (.tup vs) ∧ ∀ (m : Nat) (d : Dl.D), ds[m]? = some d → ∃ w l us, d = .lst w ∧ vs[m]? = some (.ref l) ∧ (T l ∧ B l = none) ∧ H' l = some (.lst us) ∧ us.length ≤ w.length + k) ⟨Rk, ea0, fun m d hm => ?_⟩ (fun k σ' H' _ p => .inl (.inl p.2.1)) ?_ ?_
    · have hd : isL ds.length d = true := List.all_eq_true.mp z1 d (List.mem_of_getElem? hm)
      obtain ⟨u, eu, ru⟩ := rs.get hm
      cases d with
      | lst w =>
        obtain ⟨l, us, rfl, nl, el, rl⟩ := Rp.lst.mp ru
        exact ⟨w, l, us, rfl, eu, Classical.not_not.mp nl, el, by rw [rl.length]; omega⟩
      | _ => cases hd
    · rintro k v σ' H1 H2 hk ⟨R', ea', inv⟩ ⟨rfl, ex⟩
      obtain ⟨d, hdk⟩ : ∃ d, ds[k]? = some d := ⟨ds[k]'(by rw [← rs.length]; exact hk), List.getElem?_eq_getElem _⟩
      obtain ⟨w, l, us, rfl, evl, sl, el, hl⟩ := inv k d hdk
      rw [ex] at evl
      cases evl
      have hw : isL ds.length (.lst w) = true := List.all_eq_true.mp z1 _ (List.mem_of_getElem? hdk)
      have hw : w.length + ds.length < sizeLine := of_decide_eq_true hw
      have hkd : k < ds.length := (List.getElem?_eq_some_iff.mp hdk).1
      have R2 : Rel X.KM md T H0 B H2 (σ'.set r (some (.ref l))) ((env.set i none).set r none) := R'.setNo eR
      have lσ : r < σ'.length := by rw [R'.len]; simpa using z2
      show gName r (.ref l) σ' H2 _
      unfold gName
      refine ⟨.ref l, List.getElem?_set_self lσ, .inl ⟨rfl, us, SqL.of el⟩, T, H0, B, _, R2, ?_⟩
      cases ef : fe ((env.set i none).set r none) with
      | exc c f => rw [ef] at z3; cases z3
      | bad => rw [ef] at z3; cases z3
      | ok dv =>
        intro vv H3 s3 rv
        have el3 : H3 l = some (.lst us) := s3 _ _ el
        refine ⟨l, us, vv, rfl, rfl, el3, by omega, (R2.same s3).updT nd sl.1 sl.2 el3 rfl rfl, ?_, fun m d hm => ?_⟩
        · have : a0 ≠ l := fun y => by subst y; rw [ea'] at el; cases el
          rw [upd_ne this]
          exact s3 _ _ ea'
        · obtain ⟨w2, l2, us2, e1, e2, e3, e4, e5⟩ := inv m d hm
          by_cases y : l2 = l
          · subst y
            rw [el] at e4
            cases e4
            exact ⟨w2, l2, us ++ [vv], e1, e2, e3, upd_same, by simp; omega⟩
          · exact ⟨w2, l2, us2, e1, e2, e3, by rw [upd_ne y]; exact s3 _ _ e4, by omega⟩
    · rintro σ' H' ⟨R', _, _⟩
      exact q T σ' H' t0 R'
  | _ => exact q.elim
end
end Dl
/-! Dl10j: the store: numbered lists, dicts and instances; defs that work on it. -/
namespace Dl
open PySem PySem.Spec PyProof.Rows L2 RZ RT
section
variable {K : KM} {md : Mds} {T : TL} {H0 B H H' : Hp} {σ : L2.St} {env : DEnv}
/-- where the numbered objects stand -/
def cellP (T : TL) (B : Hp) : Pred := fun a => a ∈ T.l ∧ B a = none
theorem cell_sc {w : Bool} {A : Pred} {cs : D} (S : Sto K T w A H0 B H cs) {a : Addr} (h : a ∈ T.l) : SC w T H0 B a ∧ ∃ u, H a = some u ∧ isMutO u = true := by
  obtain ⟨c, e1, e2, _, e4⟩ := S.ex
  obtain ⟨n, hn⟩ := List.getElem?_of_mem h
  have hl : n < c.length := by rw [e2]; exact (List.getElem?_eq_some_iff.mp hn).1
  obtain ⟨x, y⟩ := e4 n a c[n] hn (List.getElem?_eq_getElem hl)
  exact ⟨x, y.isMut⟩
/-- the store handed over to a def, and what stands behind it -/
theorem Rel.called (R : Rel K md T H0 B H σ env) {i : Nat} {cs : D} (hp : (mdAt md i).dp = 3) (ec : env[i]? = some (some cs)) :
    (TIn true ⟨fun a => Avd md σ env T H0 false a ∧ ¬ cellP T B a, T.l⟩ (baseOf (cellP T B) H) ⟨Avd md σ env T H0 false, T.l⟩ ∧ Same (baseOf (cellP T B) H) H ∧ StoW K ⟨Avd md σ env T H0 false, T.l⟩ (Avd md σ env T H0 false) (baseOf (cellP T B) H) (baseOf (cellP T B) H) H cs) ∧
    ∀ (N : Pred) (T' : TL) (H' : Hp) (cs' : D), (∀ a, N a → ∃ u, H' a = some u ∧ isMutO u = true) → TIn true ⟨fun a => Avd md σ env T H0 false a ∧ ¬ cellP T B a, T.l⟩ (baseOf (cellP T B) H) T' → Same (baseOf (cellP T B) H) H' → StoW K T' (fun a => T'.p a ∨ N a) (baseOf (cellP T B) H) (baseOf (cellP T B) H) H' cs' →
      Rel K md ⟨fun a => T a ∨ ((T'.p a ∨ N a) ∧ H a = none), T'.l⟩ H0 B H' σ (env.set i (some cs')) ∧
      (∀ T0 : TL, TIn (hasW md) T0 B T → TIn (hasW md) T0 B ⟨fun a => T a ∨ ((T'.p a ∨ N a) ∧ H a = none), T'.l⟩) ∧
      (∀ nw a, Avd md σ (env.set i (some cs')) ⟨fun a => T a ∨ ((T'.p a ∨ N a) ∧ H a = none), T'.l⟩ H0 nw a → (T'.p a ∨ N a) ∨ (nw = true ∧ ∃ o, baseOf (cellP T B) H a = some o)) := by
  have S := R.sto i cs ec (by omega)
  rw [hp] at S
  have S : Sto K T true (Avd md σ env T H0 false) H0 B H cs := S
  have hcell : ∀ a, cellP T B a → (T.p a ∧ B a = none) ∧ ∃ u, H a = some u ∧ isMutO u = true := fun a h => let ⟨x, y⟩ := cell_sc S h.1; ⟨⟨x.1, h.2⟩, y⟩
  have hbn : ∀ a, cellP T B a → baseOf (cellP T B) H a = none := fun a h => baseOf_none h
  have hbs : ∀ a, ¬ cellP T B a → baseOf (cellP T B) H a = H a := fun a h => baseOf_some h
  have sb : Same (baseOf (cellP T B) H) H := fun a o e => by
    by_cases z : cellP T B a
    · rw [hbn a z] at e; cases e
    · rw [hbs a z] at e; exact e
  have ho : (mdAt md i).own = false := by
    cases h : (mdAt md i).own with
    | false => rfl
    | true => rw [R.st.od i h] at hp; cases hp
  refine ⟨⟨⟨fun a z => z.1, fun a z => ?_, fun a z => ?_, fun _ _ z => z, fun h => by cases h⟩, sb, ⟨?_, fun a z => R.avdThere z, fun a z hb => ?_⟩⟩, ?_⟩
  · by_cases y : cellP T B a
    · exact .inr (hbn a y)
    · exact .inl ⟨z, y⟩
  · obtain ⟨u, e⟩ := R.avdThere z.1
    exact ⟨u, by rw [hbs a z.2]; exact e⟩
  · obtain ⟨c, e1, e2, e3, e4⟩ := S.ex
    exact ⟨c, e1, e2, e3, fun n a c' ha hc => let ⟨x, y⟩ := e4 n a c' ha hc; ⟨⟨.inr (.inl x.1), (by
      by_cases z : B a = none
      · exact .inl (hbn a ⟨List.mem_of_getElem? ha, z⟩)
      · rcases x.2 with h | ⟨o, w, h⟩
        · exact absurd h z
        · exact .inr ⟨o, w, by rw [hbs a fun y => z y.2]; exact R.sB _ _ h⟩)⟩, y⟩⟩
  · by_cases y : cellP T B a
    · exact (hcell a y).2
    · obtain ⟨u, e⟩ := R.avdThere z
      rw [hbs a y, e] at hb
      cases hb
  intro N T' H' cs' hN t' sB' S'
  -- what is known of the addresses
  have lp : ∀ (n : Nat) (a : Addr), T.l[n]? = some a → T'.l[n]? = some a := t'.lp
  have cell' : ∀ a, a ∈ T'.l → T'.p a ∧ FzN (baseOf (cellP T B) H) a := fun a h => (cell_sc S'.sto h).1
  have cellT' : ∀ a, cellP T B a → T'.p a := fun a h => by
    obtain ⟨n, hn⟩ := List.getElem?_of_mem h.1
    exact (cell' a (List.mem_of_getElem? (lp n a hn))).1
  have avT' : ∀ a, Avd md σ env T H0 false a → T'.p a := fun a h => by
    by_cases y : cellP T B a
    · exact cellT' a y
    · exact t'.le a ⟨h, y⟩
  have keep : ∀ a o, ¬ cellP T B a → H a = some o → H' a = some o := fun a o y e => sB' a o (by rw [hbs a y]; exact e)
  have oset : ∀ {j a}, OwnAt md σ (env.set i (some cs')) j a ↔ OwnAt md σ env j a := fun {j a} => ownAt_env ho
  have nO : ∀ {j a}, OwnAt md σ env j a → ¬ cellP T B a := fun {j a} o z => R.tO j a o (hcell a z).1.1
  have av : ∀ {nw a}, Avd md σ (env.set i (some cs')) ⟨fun a => T a ∨ ((T'.p a ∨ N a) ∧ H a = none), T'.l⟩ H0 nw a → Avd md σ env T H0 nw a ∨ ((T'.p a ∨ N a) ∧ H a = none) := fun {nw a} h => by
    rcases h with ⟨j, o⟩ | (h | h) | h
    · exact .inl (.inl ⟨j, oset.mp o⟩)
    · exact .inl (.inr (.inl h))
    · exact .inr h
    · exact .inl (.inr (.inr h))
  have c : ∀ nw, Carry (K.at T) H H' (Avd md σ env T H0 nw) (Avd md σ (env.set i (some cs')) ⟨fun a => T a ∨ ((T'.p a ∨ N a) ∧ H a = none), T'.l⟩ H0 nw) := fun nw =>
    ((Carry.stay (K := K.at T) (O := cellP T B) (fun a z => (hcell a z).2) (fun a z => .inr (.inl (hcell a z).1.1)) fun a o na e => keep a o na e).addN (N := fun a => H a = none) fun a z => z).trans (.weak fun a z => (av z).imp id fun y => y.2)
  have grow : ∀ {v : V} {d : D} {A : Pred}, Rp (K.at T) H' A v d → Rp (K.at ⟨fun a => T a ∨ ((T'.p a ∨ N a) ∧ H a = none), T'.l⟩) H' A v d := fun {v d A} r => Rp.grow (K := K.at T) (K' := K.at ⟨fun a => T a ∨ ((T'.p a ∨ N a) ∧ H a = none), T'.l⟩) rfl lp d v r
  have grows : ∀ {v : List V} {d : List D} {A : Pred}, Rps (K.at T) H' A v d → Rps (K.at ⟨fun a => T a ∨ ((T'.p a ∨ N a) ∧ H a = none), T'.l⟩) H' A v d := fun {v d A} r => Rps.grow (K := K.at T) (K' := K.at ⟨fun a => T a ∨ ((T'.p a ∨ N a) ∧ H a = none), T'.l⟩) rfl lp d v r
  have growT : ∀ {a : Addr} {d : D} {A : Pred}, Top (K.at T) H' A a d → Top (K.at ⟨fun a => T a ∨ ((T'.p a ∨ N a) ∧ H a = none), T'.l⟩) H' A a d := fun {a d A} t => by
    cases d with
    | lst ds => obtain ⟨vs, e, r⟩ := t; exact ⟨vs, e, grows r⟩
    | dic b ks ws => obtain ⟨vs, e, r⟩ := t; exact ⟨vs, e, grows r⟩
    | _ => exact t.elim
  refine ⟨⟨R.s0, fun a o e => ?_, fun a h => ?_, by simp [R.len], fun j d e hd => ?_, fun j a o => R.out j a (oset.mp o), fun j k a o o' => R.sep j k a (oset.mp o) (oset.mp o'), fun j a o z => ?_, R.st, fun a h hn => ?_, fun j d e hd h3 => ?_, fun j d e hd => ?_⟩, fun T0 t0 => ?_, fun nw a z => ?_⟩
  · have y : ¬ cellP T B a := fun z => by rw [(hcell a z).1.2] at e; cases e
    exact keep a o y (R.sB a o e)
  · rcases h with h | h
    · by_cases y : cellP T B a
      · exact S'.tB a (cellT' a y)
      · obtain ⟨o, e⟩ := R.tB a h
        exact ⟨o, keep a o y e⟩
    · rcases h.1 with y | y
      · exact S'.tB a y
      · obtain ⟨u, e, _⟩ := hN a y; exact ⟨u, e⟩
  · have hj : j ≠ i := fun z => by subst z; rw [hd] at hp; cases hp
    rw [List.getElem?_set_ne (Ne.symm hj)] at e
    obtain ⟨v, ev, q⟩ := R.slot j d e hd
    refine ⟨v, ev, ?_⟩
    unfold SlotOk at *
    split at q
    · next h =>
      rw [if_pos h]
      have q2 := q.carry (c _) fun a u e1 hl eu => by
        subst e1
        exact keep a u (nO ⟨h, ⟨d, e, hl⟩, ev⟩) eu
      exact ⟨fun hl => let ⟨a, ea, t⟩ := q2.top hl; ⟨a, ea, growT t⟩, fun hl => let ⟨x, r⟩ := q2.im hl; ⟨x, grow r⟩⟩
    · next h => rw [if_neg h]; exact grow (Rp.carry (c _) d v q)
  · rcases z with z | z
    · exact R.tO j a (oset.mp o) z
    · obtain ⟨u, e⟩ := R.ownThere (oset.mp o)
      rw [z.2] at e
      cases e
  · rcases h with h | h
    · by_cases y : cellP T B a
      · exact S'.tM a (cellT' a y) (hbn a y)
      · obtain ⟨u, e, m⟩ := R.tM a h hn
        exact ⟨u, keep a u y e, m⟩
    · rcases h.1 with y | y
      case inr => exact hN a y
      refine S'.tM a y ?_
      by_cases y : cellP T B a
      · exact hbn a y
      · rw [hbs a y]; exact h.2
  · have : j = i := R.st.one j i hd (by omega)
    subst this
    omega
  · have : j = i := R.st.one j i (by omega) (by omega)
    subst this
    have hl : j < env.length := (List.getElem?_eq_some_iff.mp ec).1
    rw [List.getElem?_set_self hl] at e
    cases e
    rw [hp]
    obtain ⟨c', e1, e2, e3, e4⟩ := S'.sto.ex
    refine ⟨c', e1, e2, e3, fun n a x ha hx => ?_⟩
    obtain ⟨y, z⟩ := e4 n a x ha hx
    refine ⟨?_, z.carry (.weak fun b hb => ?_) fun u hu => hu⟩
    · by_cases hc : cellP T B a
      · exact ⟨.inl (hcell a hc).1.1, .inl (hcell a hc).1.2⟩
      · rcases y.2 with hn | ⟨o, w, hn⟩
        · rw [hbs a hc] at hn
          refine ⟨.inr ⟨.inl y.1, hn⟩, .inl ?_⟩
          cases eb : B a with
          | none => rfl
          | some u => rw [R.sB a u eb] at hn; cases hn
        · have hH := hn
          rw [hbs a hc] at hH
          have hT : T a := by
            rcases t'.out a y.1 with z | z
            · rcases z.1 with ⟨k, h1, ⟨d, h2, hl2⟩, h3⟩ | z | ⟨z, _⟩
              · obtain ⟨b, eb, _, t⟩ := R.owned h2 h1 hl2
                rw [h3] at eb
                cases eb
                cases d with
                | lst ds => obtain ⟨vs, e, _⟩ := t; rw [hH] at e; cases e
                | dic tt ks ws =>
                  obtain ⟨vs, e, _⟩ := t
                  cases tt with
                  | false => obtain ⟨kvs, e, _⟩ := e; rw [hH] at e; cases e
                  | true => obtain ⟨kvs, e, _⟩ := e; rw [hH] at e; cases e
                | _ => cases hl2
              · exact z
              · cases z
            · rw [hn] at z; cases z
          refine ⟨.inl hT, ?_⟩
          cases eb : B a with
          | none => exact .inl eb
          | some u =>
            have := R.sB a u eb
            rw [hH] at this
            cases this
            exact .inr ⟨o, w, eb⟩
    · rcases av hb with h | h
      · exact .inl (avT' b h)
      · exact h.1
  · refine ⟨fun a z => .inl (t0.le a z), fun a z => ?_, t0.old, fun n a z => lp n a (t0.lp n a z), fun h => ?_⟩
    · rcases z with z | z
      · exact t0.out a z
      · refine .inr ?_
        cases eb : B a with
        | none => rfl
        | some u => rw [R.sB a u eb] at z; cases z.2
    · have := hasW_iff.mpr ⟨i, hp⟩
      rw [h] at this
      cases this
  · rcases av z with h | h
    · rcases h with h | h | ⟨h, o, e⟩
      · exact .inl (.inl (avT' a (.inl h)))
      · exact .inl (.inl (avT' a (.inr (.inl h))))
      · by_cases y : cellP T B a
        · exact .inl (.inl (cellT' a y))
        · obtain ⟨u, e⟩ := R.s0 _ _ e
          exact .inr ⟨h, u, by rw [hbs a y]; exact R.sB _ _ e⟩
    · exact .inl h.1
/-- a value at hand stays while the frame goes on -/
theorem Rel.keepV (R : Rel K md T H0 B H σ env) {w : Bool} {T0 : TL} (t0 : TIn w T0 B T) {nw : Bool} {T2 : TL} {H2 : Hp} {env2 : DEnv} (t2 : TIn w ⟨T0.p, T.l⟩ (baseOf (WrP md σ env T B) H) T2) (R2 : Rel K md T2 H0 (baseOf (WrP md σ env T B) H) H2 σ env2) {v : V} {d : D} (r : Rp (K.at T) H (Avd md σ env T H0 nw) v d) :
    Rp (K.at T2) H2 (Avd md σ env2 T2 H0 nw) v d := by
  have out : ∀ a, baseOf (WrP md σ env T B) H a = none → Avd md σ env T H0 nw a ∨ H a = none := fun a h => by
    by_cases z : WrP md σ env T B a
    · exact .inl z.avd
    · rw [baseOf_some z] at h; exact .inr h
  have c := ((Carry.stay (K := K.at T) (O := WrP md σ env T B) (A := Avd md σ env T H0 nw) (H := H) (H' := H2) (fun a z => R.wrMut z) (fun a z => z.avd) fun a o na e => R2.sB a o (by rw [baseOf_some na]; exact e)).addN (N := fun a => H a = none) fun a z => z).trans (.weak (A' := Avd md σ env2 T2 H0 nw) fun a z => (by
      rcases z with ⟨j, o⟩ | z | z
      · exact out a (R2.out j a o)
      · rcases t2.out a z with y | y
        · exact .inl (.inr (.inl (t0.le a y)))
        · exact out a y
      · exact .inl (.inr (.inr z)) : Avd md σ env T H0 nw a ∨ H a = none))
  exact Rp.grow (K := K.at T) (K' := K.at T2) rfl t2.lp d v (Rp.carry c d v r)
end
/-! ### expressions that work on the store -/
inductive RGX (α : Type) where
  | ok (a : α) (e : DEnv) | exc (c : Str) (fs : Fields) (e : DEnv) | bad
abbrev DXX := DEnv → RGX D
abbrev DXXs := DEnv → RGX (List D)
def XP0 {α β : Type} (K : KM) (W : WX) (md : Mds) (σ : L2.St) (T0 : TL) (H0 B : Hp) (r : RGX α) (P : α → β → TL → Hp → DEnv → Prop) : Prop := match r with
  | .ok a e => ∀ T v H', TIn (hasW md) T0 B T → Rel K md T H0 B H' σ e → P a v T H' e
  | .exc c fs e => ∀ T cls dd H', TIn (hasW md) T0 B T → Rel K md T H0 B H' σ e → ExcAt K H' c fs cls dd → W cls dd σ H'
  | .bad => False
def tX (K : KM) (W : WX) (md : Mds) (nw : Bool) (f : DXX) : TE := fun σ H Q => ∃ (T0 T : TL) (H0 B : Hp) (env : DEnv), TIn (hasW md) T0 B T ∧ Rel K md T H0 B H σ env ∧
  XP0 K W md σ T0 H0 B (f env) fun d v T' H' e => Rp (K.at T') H' (Avd md σ e T' H0 nw) v d → Q v H'
def tXX (K : KM) (W : WX) (md : Mds) (nw : Bool) (f : DXXs) : TA := fun σ H Q => ∃ (T0 T : TL) (H0 B : Hp) (env : DEnv), TIn (hasW md) T0 B T ∧ Rel K md T H0 B H σ env ∧
  XP0 K W md σ T0 H0 B (f env) fun ds vs T' H' e => Rps (K.at T') H' (Avd md σ e T' H0 nw) vs ds → Q vs H'
structure VX (X : Cx) (W : WX) (md : Mds) (nw : Bool) (e : Expr) (f : DXX) : Prop where
  run : PE X e (tX X.KM W md nw f)
structure VXs (X : Cx) (W : WX) (md : Mds) (nw : Bool) (es : List Expr) (f : DXXs) : Prop where
  run : PA X es (tXX X.KM W md nw f)
section
variable {X : Cx} {W : WX} {md : Mds} {st nw na nb : Bool} {e a b : Expr} {f fa fb : DX} {g : DXX} {gs : DXXs} {pos : Pos} {es : List Expr} {fs : DXs} {i : Nat} {x : Str}
theorem XP0.mono {α β : Type} {K : KM} {σ : L2.St} {T0 : TL} {H0 B : Hp} {r : RGX α} {P P' : α → β → TL → Hp → DEnv → Prop} (h : XP0 K W md σ T0 H0 B r P) (f : ∀ a v T H' e, TIn (hasW md) T0 B T → Rel K md T H0 B H' σ e → P a v T H' e → P' a v T H' e) : XP0 K W md σ T0 H0 B r P' := by
  cases r with
  | ok a e => exact fun T v H' t R => f a v T H' e t R (h T v H' t R)
  | exc c fs e => exact h
  | bad => exact h
/-- with all that stands taken as the base -/
theorem XP0.rebase {α β : Type} {K : KM} {σ : L2.St} {T0 T : TL} {H0 B B' : Hp} {r : RGX α} {P P' : α → β → TL → Hp → DEnv → Prop} (t0 : TIn (hasW md) T0 B T) (s0 : ∀ a o, H0 a = some o → ∃ u, B a = some u) (s : Same B B') (h : XP0 K W md σ T0 H0 B r P)
    (f : ∀ a v T2 H' e, TIn (hasW md) ⟨T0.p, T.l⟩ B' T2 → Rel K md T2 H0 B' H' σ e → P a v T2 H' e → P' a v T2 H' e) : XP0 K W md σ ⟨T0.p, T.l⟩ H0 B' r P' := by
  have tt : ∀ {T2 : TL}, TIn (hasW md) ⟨T0.p, T.l⟩ B' T2 → TIn (hasW md) T0 B T2 := fun {T2} t => t0.raise (t.unbase t0.old s)
  cases r with
  | ok a e => exact fun T2 v H' t R => f a v T2 H' e t R (h T2 v H' (tt t) (R.unbase s0 s))
  | exc c fs e => exact fun T2 cls dd H' t R x => h T2 cls dd H' (tt t) (R.unbase s0 s) x
  | bad => exact h
/-- a plain expression -/
def xP (f : DX) : DXX := fun env => match f env with
  | .ok d => .ok d env
  | .exc c fs => .exc c fs env
  | .bad => .bad
def xPs (f : DXs) : DXXs := fun env => match f env with
  | .ok d => .ok d env
  | .exc c fs => .exc c fs env
  | .bad => .bad
theorem vx_pure (h : VE X W md true nw e f) : VX X W md nw e (xP f) := ⟨h.run.imp fun σ H Q ⟨T0, T, H0, B, env, t0, R, p⟩ => ⟨T, H0, B, env, R, by
  unfold xP at p
  cases ef : f env with
  | ok d => rw [ef] at p; exact fun v H' s r => p T v H' t0 (R.same s) r.strict
  | exc c fs => rw [ef] at p; exact fun cls dd H' s x => p T cls dd H' t0 (R.same s) x
  | bad => rw [ef] at p; exact p⟩⟩
theorem vxs_nil : VXs X W md nw [] (xPs dNil) := ⟨pa_nil.imp fun σ H Q ⟨T0, T, H0, B, env, t0, R, p⟩ => p T [] H t0 R .nil⟩
def xCons (f : DXX) (fs : DXXs) : DXXs := fun env => match f env with
  | .ok d e1 => (match fs e1 with
    | .ok ds e2 => .ok (d :: ds) e2
    | .exc c fs e => .exc c fs e
    | .bad => .bad)
  | .exc c fs e => .exc c fs e
  | .bad => .bad
theorem vxs_cons (h : VX X W md nw e g) (hr : VXs X W md nw es gs) (hs : starEach (e :: es) X.env = (false, eval e X.env) :: starEach es X.env) : VXs X W md nw (e :: es) (xCons g gs) :=
  ⟨(pa_cons h.run hr.run hs).imp fun σ H Q ⟨T0, T, H0, B, env, t0, R, p⟩ => ⟨T0, T, H0, B, env, t0, R, by
    unfold xCons at p
    cases eg : g env with
    | exc c fs e => rw [eg] at p; exact p
    | bad => rw [eg] at p; exact p
    | ok d e1 =>
      rw [eg] at p
      intro T1 v H1 t1 R1 r1
      obtain ⟨Rb, sBB⟩ := R1.rebase
      have p : XP0 X.KM W md σ T0 H0 B (match gs e1 with
        | .ok ds e2 => RGX.ok (d :: ds) e2
        | .exc c fs e => .exc c fs e
        | .bad => .bad) _ := p
      refine ⟨⟨T0.p, T1.l⟩, T1, H0, _, e1, t1.self.rebase R1, Rb, ?_⟩
      refine XP0.rebase t1 R1.s0 sBB (P := fun ds vs T' H' e => Rps (X.KM.at T') H' (Avd md σ e T' H0 nw) (v :: vs) (d :: ds) → Q (v :: vs) H') ?_ fun ds vs T2 H2 e2 t2 R2 q r2 => q (.cons (R1.keepV t1 t2 R2 r1) r2)
      cases eq : gs e1 with
      | ok ds e2 => rw [eq] at p; exact fun T2 vs H2 t2 R2 r2 => p T2 (v :: vs) H2 t2 R2 r2
      | exc c fs e => rw [eq] at p; exact p
      | bad => rw [eq] at p; exact p⟩⟩
theorem VX.old (h : VX X W md nw e g) : VX X W md false e g := ⟨h.run.imp fun σ H Q ⟨T0, T, H0, B, env, t0, R, p⟩ => ⟨T0, T, H0, B, env, t0, R, p.mono fun d v T' H' e _ _ q r => q (r.weak fun a z => Avd.mono (by intro c; cases c) z)⟩⟩
/-! ### calls of such defs -/
def xCallW (i : Nat) (F : DFw) (fs : DXXs) : DXX := fun env => match fs env with
  | .ok ds e1 => (match e1[i]? with
    | some (some cs) => (match F cs ds with
      | .ok d cs' => .ok d (e1.set i (some cs'))
      | .exc c fs cs' => .exc c fs (e1.set i (some cs'))
      | .bad => .bad)
    | _ => .bad)
  | .exc c fs e => .exc c fs e
  | .bad => .bad
theorem callW_reading {σ : L2.St} {H : Hp} {Q : VK} {ar : Nat} {F : DFw} {fr : Bool} (hp : (mdAt md i).dp = 3) (hl : ∀ env ds e, gs env = .ok ds e → ds.length = ar) (h : tX X.KM W md fr (xCallW i F gs) σ H Q) : tCallS (spW X.KM ar fr F) (WE W) (tXX X.KM W md nw gs) σ H Q := by
  obtain ⟨T0, T, H0, B, env, t0, R, p⟩ := h
  unfold xCallW at p
  refine ⟨T0, T, H0, B, env, t0, R, ?_⟩
  cases eg : gs env with
  | exc c fs e => rw [eg] at p; exact p
  | bad => rw [eg] at p; exact p
  | ok ds e1 =>
    rw [eg] at p
    intro T1 vs H1 t1 R1 r1
    cases ec : e1[i]? with
    | none => simp only [ec] at p; exact p.elim
    | some o =>
    cases o with
    | none => simp only [ec] at p; exact p.elim
    | some cs =>
    simp only [ec] at p
    obtain ⟨⟨tc, sc, SW⟩, k⟩ := R1.called hp ec
    refine ⟨_, ⟨Avd md σ e1 T1 H0 false, T1.l⟩, _, ds, cs, tc, sc, SW, r1.weak fun a z => Avd.mono (by intro c; cases c) z, hl env ds e1 eg, ?_⟩
    cases eF : F cs ds with
    | bad => simp only [eF] at p; exact p.elim
    | exc c fs cs' =>
      simp only [eF] at p
      intro T' cls dd H' t' s' S' x
      obtain ⟨Rn, tn, _⟩ := k (fun _ => False) T' H' cs' (fun _ z => z.elim) t' s' ⟨S'.sto.weak fun a z => z.elim id fun y => y.elim, S'.tB, S'.tM⟩
      exact p _ cls dd H' (tn T0 t1) Rn x
    | ok d cs' =>
      simp only [eF] at p
      intro T' v H' t' s' S' q
      obtain ⟨Rn, tn, an⟩ := k (fun _ => False) T' H' cs' (fun _ z => z.elim) t' s' ⟨S'.sto.weak fun a z => z.elim .inl fun y => y.elim, S'.tB, S'.tM⟩
      have an : ∀ nw a, _ → T'.p a ∨ _ := fun nw a z => (an nw a z).imp (fun y => y.elim id fun y => y.elim) id
      refine p _ v H' (tn T0 t1) Rn ?_
      cases fr with
      | true => exact (Rpf.rp q).weak fun a z => (an true a z).imp id fun y => y.2
      | false => exact Rp.weak (A := T'.p) q fun a z => (an false a z).elim id fun y => (by cases y.1)
theorem vx_call {k : Nat} {F : WEnt} {p : Pos} (hp : (mdAt md i).dp = 3) (hF : WAt X k F) (hr : Room k X.A) (hg : Gl X F.name) (tk : Takes X W) (ha : VXs X W md nw (e :: es) gs) (hl : ∀ env ds e, gs env = .ok ds e → ds.length = F.ar)
    (hdb : (F.name == ("__debug__" : Str)) = false) (hs : (e :: es).all starless = true) : VX X W md F.fresh (.Call (.Name F.name p) (e :: es) [] pos) (xCallW i F.den gs) := by
  obtain ⟨f, fd, ps, ok, hm, hk, hb⟩ := hF.ex
  rw [List.all_cons, Bool.and_eq_true] at hs
  exact ⟨(pe_callS ok hr hg hm hk hb (fun σ => passAt tk σ) ha.run hdb (notStar hs.1) (backTo_any hs.2)).imp fun σ H Q h => callW_reading hp hl h⟩
end
end Dl
/-! Dl10k: numbered lists, dicts, instances read and written. -/
namespace Dl
open PySem PySem.Spec PyProof.Rows L2 RZ RT
/-- the numbered thing -/
def cellAt (w : Nat) (env : DEnv) (n : Nat) : Option D := match env[w]? with
  | some (some (.lst cs)) => cs[n]?
  | _ => none
/-- what may be read of it as a list or dict -/
def derC : D → Option D
  | .lst ds => some (.lst ds)
  | .dic t ks ws => some (.dic t ks ws)
  | .tup [.non, .dic t ks ws] => some (.dic t ks ws)
  | _ => none
def derO (w : Nat) (env : DEnv) (d : D) : RG D := match d with
  | .obj n => (match cellAt w env n with
    | some c => (match derC c with
      | some x => .ok x
      | none => .ok (.obj n))
    | none => .bad)
  | d => .ok d
def dDer (w : Nat) (f : DX) : DX := fun env => (f env).bind (derO w env)
section
variable {K : KM} {md : Mds} {T : TL} {H0 B H H' : Hp} {σ : L2.St} {env : DEnv} {i : Nat}
theorem Rel.cell (R : Rel K md T H0 B H σ env) (hp : 3 ≤ (mdAt md i).dp) {n : Nat} {c : D} (e : cellAt i env n = some c) {a : Addr} (ea : T.l[n]? = some a) :
    ∃ cs, env[i]? = some (some (.lst cs)) ∧ cs[n]? = some c ∧ cs.length = T.l.length ∧ SC ((mdAt md i).dp == 3) T H0 B a ∧ CellOk (K.at T) H (Avd md σ env T H0 false) a c := by
  unfold cellAt at e
  split at e
  · next cs ec =>
    obtain ⟨cs', e1, e2, _, e4⟩ := (R.sto i _ ec hp).ex
    cases e1
    obtain ⟨x, y⟩ := e4 n a c ea e
    exact ⟨cs, ec, e, e2, x, y⟩
  · cases e
theorem CellOk.der {K : KF} {A : Pred} {a : Addr} {c x : D} (h : CellOk K H A a c) (e : derC c = some x) : Rk false K H A (.ref a) x := by
  unfold derC at e
  split at e
  · cases e; obtain ⟨vs, h, r⟩ := h; exact ⟨a, vs, rfl, h, r⟩
  · cases e; obtain ⟨vs, h, r⟩ := h; exact ⟨a, vs, rfl, h.mono fun u z => .inl z, r⟩
  · cases e
    obtain ⟨od, u, vs, h1, h2, r⟩ := h
    exact ⟨a, vs, rfl, h2.mono fun w z => by subst z; exact .inr ⟨od, h1⟩, r⟩
  · cases e
/-- the numbered thing changed -/
theorem Rel.updCell (R : Rel K md T H0 B H σ env) (hp : (mdAt md i).dp = 3) {cs : List D} (ec : env[i]? = some (some (.lst cs))) {n : Nat} {a : Addr} (ea : T.l[n]? = some a) (hn : n < cs.length) {o : HO} (mo : isMutO o = true) (nb : B a = none) {c' : D}
    (new : CellOk (K.at T) (L2.upd H a o) (Avd md σ env T H0 false) a c') : Rel K md T H0 B (L2.upd H a o) σ (env.set i (some (.lst (cs.set n c')))) := by
  have ho : (mdAt md i).own = false := by
    cases h : (mdAt md i).own with
    | false => rfl
    | true => rw [R.st.od i h] at hp; cases hp
  obtain ⟨cs0, e1, e2, e3, e4⟩ := (R.sto i _ ec (by omega)).ex
  cases e1
  obtain ⟨sc, ok⟩ := e4 n a cs[n] ea (List.getElem?_eq_getElem hn)
  rw [hp] at sc
  obtain ⟨u, hu, mu⟩ := ok.isMut
  have sc : T.p a ∧ B a = none := ⟨sc.1, nb⟩
  have c : ∀ nw, Carry (K.at T) H (L2.upd H a o) (Avd md σ env T H0 nw) (Avd md σ env T H0 nw) := fun nw => carry_upd hu mu (.inr (.inl sc.1))
  refine ⟨R.s0, fun b w eb => ?_, fun b hb => ?_, by simp [R.len], fun j d e hd => ?_, fun j b o => R.out j b ((ownAt_env ho).mp o), fun j k b o o' => R.sep j k b ((ownAt_env ho).mp o) ((ownAt_env ho).mp o'), fun j b o => R.tO j b ((ownAt_env ho).mp o), R.st, fun b hb hn => ?_, fun j d e hd h3 => ?_, fun j d e hd => ?_⟩
  · have : b ≠ a := fun z => by subst z; rw [sc.2] at eb; cases eb
    rw [upd_ne this]
    exact R.sB b w eb
  · by_cases z : b = a
    · subst z; exact ⟨o, upd_same⟩
    · obtain ⟨w, ew⟩ := R.tB b hb
      exact ⟨w, by rw [upd_ne z]; exact ew⟩
  · rw [avd_env ho]
    have hj : j ≠ i := fun z => by subst z; rw [hd] at hp; cases hp
    rw [List.getElem?_set_ne (Ne.symm hj)] at e
    obtain ⟨v, ev, q⟩ := R.slot j d e hd
    refine ⟨v, ev, ?_⟩
    unfold SlotOk at *
    split at q
    · next h =>
      rw [if_pos h]
      refine q.carry (c _) fun b w e1 hl ew => ?_
      subst e1
      have : b ≠ a := fun y => by
        subst y
        exact R.tO j b ⟨h, ⟨d, e, hl⟩, ev⟩ sc.1
      rw [upd_ne this]
      exact ew
    · next h => rw [if_neg h]; exact Rp.carry (c _) d v q
  · by_cases z : b = a
    · subst z; exact ⟨o, upd_same, mo⟩
    · obtain ⟨w, ew, mw⟩ := R.tM b hb hn
      exact ⟨w, by rw [upd_ne z]; exact ew, mw⟩
  · have : j = i := R.st.one j i hd (by omega)
    subst this
    omega
  · have : j = i := R.st.one j i (by omega) (by omega)
    subst this
    have hl : j < env.length := (List.getElem?_eq_some_iff.mp ec).1
    rw [List.getElem?_set_self hl] at e
    cases e
    rw [avd_env ho, hp]
    refine ⟨_, rfl, by simpa using e2, e3, fun m b x hb hx => ?_⟩
    by_cases z : m = n
    · subst z
      rw [List.getElem?_set_self hn] at hx
      cases hx
      rw [ea] at hb
      cases hb
      exact ⟨⟨sc.1, .inl sc.2⟩, new⟩
    · rw [List.getElem?_set_ne (Ne.symm z)] at hx
      obtain ⟨y1, y2⟩ := e4 m b x hb hx
      rw [hp] at y1
      have : b ≠ a := fun y => by
        subst y
        exact z (nodup_at e3 hb ea)
      exact ⟨y1, y2.carry (c false) fun w ew => by rw [upd_ne this]; exact ew⟩
/-- a pending list or dict becomes a numbered one -/
theorem Rel.number (R : Rel K md T H0 B H σ env) (hp : (mdAt md i).dp = 3) {cs : List D} (ec : env[i]? = some (some (.lst cs))) {p : Addr} (tp : T p) (bp : B p = none) (np : p ∉ T.l) {c : D} (t : CellOk (K.at T) H (Avd md σ env T H0 false) p c) :
    Rel K md ⟨T.p, T.l ++ [p]⟩ H0 B H σ (env.set i (some (.lst (cs ++ [c])))) ∧ cs.length = T.l.length := by
  have ho : (mdAt md i).own = false := by
    cases h : (mdAt md i).own with
    | false => rfl
    | true => rw [R.st.od i h] at hp; cases hp
  obtain ⟨cs0, e1, e2, e3, e4⟩ := (R.sto i _ ec (by omega)).ex
  cases e1
  have lp : ∀ (n : Nat) (a : Addr), T.l[n]? = some a → (T.l ++ [p])[n]? = some a := fun n a h => by rw [List.getElem?_append_left (List.getElem?_eq_some_iff.mp h).1]; exact h
  have grow : ∀ {v : V} {d : D} {A : Pred}, Rp (K.at T) H A v d → Rp (K.at ⟨T.p, T.l ++ [p]⟩) H A v d := fun {v d A} r => Rp.grow (K := K.at T) (K' := K.at ⟨T.p, T.l ++ [p]⟩) rfl lp d v r
  have grows : ∀ {v : List V} {d : List D} {A : Pred}, Rps (K.at T) H A v d → Rps (K.at ⟨T.p, T.l ++ [p]⟩) H A v d := fun {v d A} r => Rps.grow (K := K.at T) (K' := K.at ⟨T.p, T.l ++ [p]⟩) rfl lp d v r
  have growC : ∀ {a : Addr} {d : D} {A : Pred}, CellOk (K.at T) H A a d → CellOk (K.at ⟨T.p, T.l ++ [p]⟩) H A a d := fun {a d A} h => by
    unfold CellOk at *
    split at h
    · obtain ⟨vs, e, r⟩ := h; exact ⟨vs, e, grows r⟩
    · obtain ⟨vs, e, r⟩ := h; exact ⟨vs, e, grows r⟩
    · obtain ⟨od, u, vs, e1, e2, r⟩ := h; exact ⟨od, u, vs, e1, e2, grows r⟩
    · obtain ⟨C, dx, fs, vs, e1, e2, r, e3⟩ := h; exact ⟨C, dx, fs, vs, e1, e2, grows r, e3⟩
    · exact h
  have av : ∀ nw, Avd md σ (env.set i (some (.lst (cs ++ [c])))) (⟨T.p, T.l ++ [p]⟩ : TL) H0 nw = Avd md σ env T H0 nw := fun nw => by
    have : Avd md σ (env.set i (some (.lst (cs ++ [c])))) (⟨T.p, T.l ++ [p]⟩ : TL) H0 nw = Avd md σ (env.set i (some (.lst (cs ++ [c])))) T H0 nw := rfl
    rw [this, avd_env ho]
  refine ⟨⟨R.s0, R.sB, R.tB, by simp [R.len], fun j d e hd => ?_, fun j b o => R.out j b ((ownAt_env ho).mp o), fun j k b o o' => R.sep j k b ((ownAt_env ho).mp o) ((ownAt_env ho).mp o'), fun j b o => R.tO j b ((ownAt_env ho).mp o), R.st, R.tM, fun j d e hd h3 => ?_, fun j d e hd => ?_⟩, e2⟩
  · rw [av]
    have hj : j ≠ i := fun z => by subst z; rw [hd] at hp; cases hp
    rw [List.getElem?_set_ne (Ne.symm hj)] at e
    obtain ⟨v, ev, q⟩ := R.slot j d e hd
    refine ⟨v, ev, ?_⟩
    unfold SlotOk at *
    split at q
    · next h =>
      rw [if_pos h]
      refine ⟨fun hl => ?_, fun hl => let ⟨x, r⟩ := q.im hl; ⟨x, grow r⟩⟩
      obtain ⟨a, ea, t⟩ := q.top hl
      refine ⟨a, ea, ?_⟩
      cases d with
      | lst ds => obtain ⟨vs, e, r⟩ := t; exact ⟨vs, e, grows r⟩
      | dic b ks ws => obtain ⟨vs, e, r⟩ := t; exact ⟨vs, e, grows r⟩
      | _ => exact t.elim
    · next h => rw [if_neg h]; exact grow q
  · have : j = i := R.st.one j i hd (by omega)
    subst this
    omega
  · have : j = i := R.st.one j i (by omega) (by omega)
    subst this
    have hl : j < env.length := (List.getElem?_eq_some_iff.mp ec).1
    rw [List.getElem?_set_self hl] at e
    cases e
    rw [av, hp]
    refine ⟨_, rfl, by simp [e2], List.nodup_append.mpr ⟨e3, by simp, fun x hx y hy z => ?_⟩, fun m b x hb hx => ?_⟩
    · subst z
      rw [List.mem_singleton.mp hy] at hx
      exact np hx
    · by_cases z : m < cs.length
      · rw [List.getElem?_append_left z] at hx
        have hb : (T.l ++ [p])[m]? = some b := hb
        rw [List.getElem?_append_left (by omega)] at hb
        obtain ⟨y1, y2⟩ := e4 m b x hb hx
        rw [hp] at y1
        exact ⟨y1, growC y2⟩
      · rw [List.getElem?_append_right (by omega)] at hx
        have hb : (T.l ++ [p])[m]? = some b := hb
        rw [List.getElem?_append_right (by omega)] at hb
        have hm : m = cs.length := by
          have := (List.getElem?_eq_some_iff.mp hx).1
          simp at this
          omega
        subst hm
        rw [Nat.sub_self] at hx
        rw [e2, Nat.sub_self] at hb
        cases hx
        cases hb
        exact ⟨⟨tp, .inl bp⟩, growC t⟩
theorem TIn.number {w : Bool} {T0 : TL} (t : TIn w T0 B T) (hw : w = true) (p : Addr) : TIn w T0 B ⟨T.p, T.l ++ [p]⟩ := ⟨t.le, t.out, t.old, fun n a h => (by
  have := t.lp n a h
  show (T.l ++ [p])[n]? = some a
  rw [List.getElem?_append_left (List.getElem?_eq_some_iff.mp this).1]
  exact this), fun h => by rw [hw] at h; cases h⟩
end
section
variable {X : Cx} {W : WX} {md : Mds} {fr st nw sa na sb nb : Bool} {e a b : Expr} {f fa fb : DX} {g : DXX} {gs : DXXs} {pos : Pos} {es : List Expr} {fs : DXs} {w i : Nat} {x : Str}
theorem ve_der (hp : 3 ≤ (mdAt md w).dp) (h : VE X W md st nw e f) : VE X W md false false e (dDer w f) := ⟨h.run.imp fun σ H Q ⟨T, H0, B, env, R, p⟩ => ⟨T, H0, B, env, R, p.bind.mono fun d v H' s _ q r => by
  have R1 := R.same s
  have r0 : Rk false (X.KM.at T) H' (Avd md σ env T H0 false) v d := r.loose.weak fun a z => Avd.mono (by intro c; cases c) z
  cases d with
  | obj n =>
    obtain ⟨a, rfl, ea⟩ := r.obj
    unfold derO at q
    cases ec : cellAt w env n with
    | none => simp only [ec] at q; exact q.elim
    | some c =>
      simp only [ec] at q
      obtain ⟨cs, e1, e2, e3, e4, ok⟩ := R1.cell hp ec ea
      cases ed : derC c with
      | none => simp only [ed] at q; exact q _ H' (Same.refl _) r0
      | some x => simp only [ed] at q; exact q _ H' (Same.refl _) (ok.der ed)
  | _ => exact q v H' (Same.refl _) r0⟩⟩
/-! ### a new list or dict, pending -/
def tXF (K : KM) (W : WX) (md : Mds) (f : DXX) : TE := fun σ H Q => ∃ (T0 T : TL) (H0 B : Hp) (env : DEnv), TIn (hasW md) T0 B T ∧ Rel K md T H0 B H σ env ∧
  XP0 K W md σ T0 H0 B (f env) fun d v T' H' e => (∃ p, v = .ref p ∧ T' p ∧ B p = none ∧ (∀ i cs, (mdAt md i).dp = 3 → e[i]? = some (some cs) → p ∉ T'.l) ∧ Top (K.at T') H' (Avd md σ e T' H0 false) p d) → Q v H'
structure VXF (X : Cx) (W : WX) (md : Mds) (e : Expr) (f : DXX) : Prop where
  run : PE X e (tXF X.KM W md f)
theorem vxf_pure (h : VF X W md nw e f) : VXF X W md e (xP f) := ⟨h.old.run.imp fun σ H Q ⟨T0, T, H0, B, env, t0, R, p⟩ => ⟨T, H0, B, env, R, by
  unfold xP at p
  cases ef : f env with
  | ok d =>
    rw [ef] at p
    rintro v H' s ⟨q, rfl, nq, t⟩
    have nB : B q = none := by
      cases e : B q with
      | none => rfl
      | some u => rw [R.sB _ _ e] at nq; cases nq
    have m : ∃ o, H' q = some o ∧ isMutO o = true := t.isMut
    have R1 : Rel X.KM md ⟨fun a => T a ∨ a = q, T.l⟩ H0 B H' σ env := R.addT nq s m
    refine p ⟨fun a => T a ∨ a = q, T.l⟩ _ H' ⟨fun a z => .inl (t0.le a z), fun a z => z.elim (t0.out a) fun y => by subst y; exact .inr nB, t0.old, t0.lp, t0.lx⟩ R1 ⟨q, rfl, .inr rfl, nB, fun i1 cs1 h1 c1 z => ?_, t.weakA fun b z => ?_⟩
    · obtain ⟨_, u, eu, _⟩ := cell_sc (R.sto i1 _ c1 (by omega)) z
      rw [nq] at eu
      cases eu
    · rcases z with z | (z | z) | z
      · exact .inl (.inl z)
      · exact .inl (.inr (.inl z))
      · exact .inr z
      · exact .inl (.inr (.inr z))
  | exc c fs => rw [ef] at p; exact fun cls dd H' s x => p T cls dd H' t0 (R.same s) x
  | bad => rw [ef] at p; exact p⟩⟩
/-- .. of which only a new list or dict may come -/
def xCallWF (i : Nat) (F : DFw) (fs : DXXs) : DXX := fun env => match xCallW i F fs env with
  | .ok d e => if isLD d then .ok d e else .bad
  | .exc c fs e => .exc c fs e
  | .bad => .bad
theorem callWF_reading {σ : L2.St} {H : Hp} {Q : VK} {ar : Nat} {F : DFw} (hp : (mdAt md w).dp = 3) (hl : ∀ env ds e, gs env = .ok ds e → ds.length = ar) (h : tXF X.KM W md (xCallWF w F gs) σ H Q) : tCallS (spW X.KM ar true F) (WE W) (tXX X.KM W md nw gs) σ H Q := by
  obtain ⟨T0, T, H0, B, env, t0, R, p⟩ := h
  unfold xCallWF xCallW at p
  refine ⟨T0, T, H0, B, env, t0, R, ?_⟩
  cases eg : gs env with
  | exc c fs e => simp only [eg] at p; exact p
  | bad => simp only [eg] at p; exact p
  | ok ds e1 =>
    simp only [eg] at p
    intro T1 vs H1 t1 R1 r1
    cases ec : e1[w]? with
    | none => simp only [ec] at p; exact p.elim
    | some o =>
    cases o with
    | none => simp only [ec] at p; exact p.elim
    | some cs =>
    simp only [ec] at p
    obtain ⟨⟨tc, sc, SW⟩, k⟩ := R1.called hp ec
    refine ⟨_, ⟨Avd md σ e1 T1 H0 false, T1.l⟩, _, ds, cs, tc, sc, SW, r1.weak fun a z => Avd.mono (by intro c; cases c) z, hl env ds e1 eg, ?_⟩
    cases eF : F cs ds with
    | bad => simp only [eF] at p; exact p.elim
    | exc c fs cs' =>
      simp only [eF] at p
      intro T' cls dd H' t' s' S' x
      obtain ⟨Rn, tn, _⟩ := k (fun _ => False) T' H' cs' (fun _ z => z.elim) t' s' ⟨S'.sto.weak fun a z => z.elim id fun y => y.elim, S'.tB, S'.tM⟩
      exact p _ cls dd H' (tn T0 t1) Rn x
    | ok d cs' =>
      simp only [eF] at p
      intro T' v H' t' s' S' q
      cases hl : isLD d with
      | false => simp only [hl] at p; exact p.elim
      | true =>
      simp only [hl, if_true] at p
      have fin : ∀ {pt : Addr}, v = .ref pt → (¬ (T'.p pt ∨ ∃ o, baseOf (cellP T1 B) H1 pt = some o)) → Top (X.KM.at T') H' (fun a => (T'.p a ∨ ∃ o, baseOf (cellP T1 B) H1 a = some o) ∨ a = pt) pt d → Q v H' := fun {pt} ev n t => by
        subst ev
        obtain ⟨Rn, tn, an⟩ := k (fun a => a = pt) T' H' cs' (fun a z => by subst z; exact t.isMut) t' s' ⟨S'.sto.weak fun a z => z.elim .inl fun y => .inr ⟨rfl, hl, by rw [y]⟩, S'.tB, S'.tM⟩
        have hcell : ∀ a, cellP T1 B a → T'.p a := fun a h => by
          obtain ⟨n, hn⟩ := List.getElem?_of_mem h.1
          exact ((cell_sc S'.sto (List.mem_of_getElem? (t'.lp n a hn))).1).1
        have hn : H1 pt = none := by
          cases e : H1 pt with
          | none => rfl
          | some u =>
            refine absurd ?_ n
            by_cases y : cellP T1 B pt
            · exact .inl (hcell _ y)
            · exact .inr ⟨u, by rw [baseOf_some y]; exact e⟩
        refine p _ (.ref pt) H' (tn T0 t1) Rn ⟨pt, rfl, .inr ⟨.inr rfl, hn⟩, ?_, fun i1 cs1 h1 c1 z => ?_, t.weakA fun b z => ?_⟩
        · cases e : B pt with
          | none => rfl
          | some u => rw [R1.sB _ _ e] at hn; cases hn
        · exact n (.inl ((cell_sc S'.sto z).1).1)
        · rcases an false b z with (y | y) | y
          · exact .inl (.inl y)
          · exact .inr y
          · cases y.1
      cases d with
      | lst ds => obtain ⟨pt, e, n, t⟩ := q; exact fin e n t
      | dic b ks ws => obtain ⟨pt, e, n, t⟩ := q; exact fin e n t
      | _ => cases hl
theorem vxf_call {k : Nat} {F : WEnt} {p : Pos} (hp : (mdAt md w).dp = 3) (hf : F.fresh = true) (hF : WAt X k F) (hr : Room k X.A) (hg : Gl X F.name) (tk : Takes X W) (ha : VXs X W md nw (e :: es) gs) (hl : ∀ env ds e, gs env = .ok ds e → ds.length = F.ar)
    (hdb : (F.name == ("__debug__" : Str)) = false) (hs : (e :: es).all starless = true) : VXF X W md (.Call (.Name F.name p) (e :: es) [] pos) (xCallWF w F.den gs) := by
  obtain ⟨f, fd, ps, ok, hm, hk, hb⟩ := hF.ex
  rw [hf] at ok
  rw [List.all_cons, Bool.and_eq_true] at hs
  exact ⟨(pe_callS ok hr hg hm hk hb (fun σ => passAt tk σ) ha.run hdb (notStar hs.1) (backTo_any hs.2)).imp fun σ H Q h => callWF_reading hp hl h⟩
/-! ### numbered -/
/-- x = a new list or dict, numbered -/
def dNewB (w j : Nat) (g : DXX) : DS := fun env => match g env with
  | .ok c e => (match e[w]? with
    | some (some (.lst cs)) => if isLD c then .nx ((e.set w (some (.lst (cs ++ [c])))).set j (some (.obj cs.length))) else .bad
    | _ => .bad)
  | .exc c fs e => .exc c fs e
  | .bad => .bad
theorem Top.cell {K : KF} {H : Hp} {A : Pred} {p : Addr} {d : D} (t : Top K H A p d) : CellOk K H A p d := by
  cases d with
  | lst ds => obtain ⟨vs, e, r⟩ := t; exact ⟨vs, e, r⟩
  | dic b ks ws => obtain ⟨vs, e, r⟩ := t; exact ⟨vs, e, r⟩
  | _ => exact t.elim
theorem vs_newB {j : Nat} {pos' : Pos} (hN : X.N.Nodup) (hi : X.N[j]? = some x) (hx : Loc X.env.scope x) (hf : X.fn x = true ∨ X.env.scope.names.lookup x = some .local) (hp : (mdAt md w).dp = 3) (he : VXF X W md e g) (hs : swapsWith e (some (.Name x pos')) pos.line X.env = pure false)
    (ho : (mdAt md j).own = false) (hd : (mdAt md j).dp = 0) : VS X W md fr (.Assign [.Name x pos'] e pos) (dNewB w j g) :=
  ⟨(ps_set hN hi hx he.run hs hf).imp fun D σ H ⟨T0, T, H0, B, env, t0, R, p⟩ => ⟨T0, T, H0, B, env, t0, R, by
    unfold dNewB at p
    cases eg : g env with
    | exc c fs e => rw [eg] at p; exact fun T cls dd H' t R x => p T cls dd σ H' t R x
    | bad => rw [eg] at p; exact p
    | ok c e =>
      rw [eg] at p
      rintro T1 v H1 t1 R1 ⟨pt, rfl, tp, bp, np, t⟩
      cases ec : e[w]? with
      | none => simp only [ec] at p; exact p.elim
      | some o =>
      cases o with
      | none => simp only [ec] at p; exact p.elim
      | some d =>
      cases d with
      | lst cs =>
        simp only [ec, t.ld, if_true] at p
        obtain ⟨R2, el⟩ := R1.number hp ec tp bp (np w _ hp ec) t.cell
        exact p _ _ H1 (t1.number (hasW_iff.mpr ⟨w, hp⟩) pt) (R2.setShared ho hd (Rp.obj.mpr ⟨pt, rfl, by show (T1.l ++ [pt])[cs.length]? = some pt; rw [el, List.getElem?_append_right (Nat.le_refl _), Nat.sub_self]; rfl⟩))
      | _ => simp only [ec] at p; exact p.elim⟩⟩
/-! ### statements of such expressions -/
def dDropX (g : DXX) : DS := fun env => match g env with
  | .ok _ e => .nx e
  | .exc c fs e => .exc c fs e
  | .bad => .bad
theorem vs_exprX (he : VX X W md nw e g) (hs : swapsWith e none pos.line X.env = pure false) : VS X W md fr (.Expr e pos) (dDropX g) :=
  ⟨(ps_expr he.run hs).imp fun D σ H ⟨T0, T, H0, B, env, t0, R, p⟩ => ⟨T0, T, H0, B, env, t0, R, by
    unfold dDropX at p
    cases eg : g env with
    | exc c fs e => rw [eg] at p; exact fun T cls dd H' t R x => p T cls dd σ H' t R x
    | bad => rw [eg] at p; exact p
    | ok c e => rw [eg] at p; exact fun T1 v H1 t1 R1 _ => p T1 σ H1 t1 R1⟩⟩
def dSetX (j : Nat) (g : DXX) : DS := fun env => match g env with
  | .ok d e => .nx (e.set j (some d))
  | .exc c fs e => .exc c fs e
  | .bad => .bad
theorem vs_setX {j : Nat} {pos' : Pos} (hN : X.N.Nodup) (hi : X.N[j]? = some x) (hx : Loc X.env.scope x) (hf : X.fn x = true ∨ X.env.scope.names.lookup x = some .local) (he : VX X W md nw e g) (hs : swapsWith e (some (.Name x pos')) pos.line X.env = pure false)
    (ho : (mdAt md j).own = false) (hd : (mdAt md j).dp = 0) (hw : ((mdAt md j).nw && !nw) = false) : VS X W md fr (.Assign [.Name x pos'] e pos) (dSetX j g) :=
  ⟨(ps_set hN hi hx he.run hs hf).imp fun D σ H ⟨T0, T, H0, B, env, t0, R, p⟩ => ⟨T0, T, H0, B, env, t0, R, by
    unfold dSetX at p
    cases eg : g env with
    | exc c fs e => rw [eg] at p; exact fun T cls dd H' t R x => p T cls dd σ H' t R x
    | bad => rw [eg] at p; exact p
    | ok d e => rw [eg] at p; exact fun T1 v H1 t1 R1 r => p T1 _ H1 t1 (R1.setShared ho hd (r.weak fun a z => Avd.mono (fun e => by rw [e] at hw; simpa using hw) z))⟩⟩
/-- handed back, with the store -/
def rtW (w : Nat) (e : DEnv) (d : D) : Out := match e[w]? with
  | some (some cs) => .rt (.tup [d, cs])
  | _ => .bad
def dRetX (w : Nat) (g : DXX) : DS := fun env => match g env with
  | .ok d e => rtW w e d
  | .exc c fs e => .exc c fs e
  | .bad => .bad
theorem Rel.stoW {K : KM} {T : TL} {H0 B H : Hp} {σ : L2.St} {env : DEnv} (R : Rel K md T H0 B H σ env) (hp : (mdAt md w).dp = 3) {cs : D} (ec : env[w]? = some (some cs)) {A : Pred} (hA : ∀ a, A a → Avd md σ env T H0 false a) : StoW K T A H0 B H cs := by
  have S := R.sto w cs ec (by omega)
  rw [hp] at S
  refine ⟨Sto.weak S hA, R.tB, fun a h hb => R.tM a h ?_⟩
  cases e : H0 a with
  | none => rfl
  | some u =>
    obtain ⟨u', e⟩ := R.s0 _ _ e
    rw [hb] at e
    cases e
theorem vs_retX (hp : (mdAt md w).dp = 3) (he : VX X W md nw e g) : VS X W md false (.Return (some e) pos) (dRetX w g) :=
  ⟨(ps_ret he.run).imp fun D σ H ⟨T0, T, H0, B, env, t0, R, p⟩ => ⟨T0, T, H0, B, env, t0, R, by
    unfold dRetX at p
    cases eg : g env with
    | exc c fs e => rw [eg] at p; exact fun T cls dd H' t R x => p T cls dd σ H' t R x
    | bad => rw [eg] at p; exact p
    | ok d e =>
      rw [eg] at p
      intro T1 v H1 t1 R1 r
      cases ec : e[w]? with
      | none => simp only [rtW, ec] at p; exact p.elim
      | some o =>
      cases o with
      | none => simp only [rtW, ec] at p; exact p.elim
      | some cs =>
        simp only [rtW, ec] at p
        refine p T1 v H1 t1 R1.sB ?_
        rw [hasW_iff.mpr ⟨w, hp⟩]
        exact ⟨d, cs, rfl, R1.stoW hp ec fun a z => z.elim (fun y => .inr (.inl y)) fun y => (by cases y.1), r.weak fun a z => .inr (.inl z)⟩⟩⟩
/-- a value without lists and dicts -/
def xImm (g : DXX) : DXX := fun env => match g env with
  | .ok d e => if imm d then .ok d e else .bad
  | .exc c fs e => .exc c fs e
  | .bad => .bad
theorem vs_retXI (hp : (mdAt md w).dp = 3) (he : VX X W md nw e g) : VS X W md true (.Return (some e) pos) (dRetX w (xImm g)) :=
  ⟨(ps_ret he.run).imp fun D σ H ⟨T0, T, H0, B, env, t0, R, p⟩ => ⟨T0, T, H0, B, env, t0, R, by
    unfold dRetX xImm at p
    cases eg : g env with
    | exc c fs e => simp only [eg] at p; exact fun T cls dd H' t R x => p T cls dd σ H' t R x
    | bad => simp only [eg] at p; exact p
    | ok d e =>
      simp only [eg] at p
      intro T1 v H1 t1 R1 r
      cases im : imm d with
      | false => simp only [im] at p; exact p.elim
      | true =>
      simp only [im, if_true] at p
      cases ec : e[w]? with
      | none => simp only [rtW, ec] at p; exact p.elim
      | some o =>
      cases o with
      | none => simp only [rtW, ec] at p; exact p.elim
      | some cs =>
        simp only [rtW, ec] at p
        refine p T1 v H1 t1 R1.sB ?_
        rw [hasW_iff.mpr ⟨w, hp⟩]
        exact ⟨d, cs, rfl, R1.stoW hp ec fun a z => z.elim (fun y => .inr (.inl y)) fun y => (by rw [imm_ld im] at y; cases y.2.1), Rp.rpf (Rp.imm _ _ r im) (imm_ld im)⟩⟩⟩
/-- a new list or dict -/
theorem vs_retXF (hp : (mdAt md w).dp = 3) (he : VF X W md true e f) : VS X W md true (.Return (some e) pos) (dRetX w (xP f)) :=
  ⟨(ps_ret he.run).imp fun D σ H ⟨T0, T, H0, B, env, t0, R, p⟩ => ⟨T, H0, B, env, R, by
    unfold dRetX xP at p
    cases eg : f env with
    | exc c fs => simp only [eg] at p; exact fun cls dd H' s x => p T cls dd σ H' t0 (R.same s) x
    | bad => simp only [eg] at p; exact p
    | ok d =>
      simp only [eg] at p
      rintro v H1 s ⟨q, rfl, nq, t⟩
      have R1 := R.same s
      cases ec : env[w]? with
      | none => simp only [rtW, ec] at p; exact p.elim
      | some o =>
      cases o with
      | none => simp only [rtW, ec] at p; exact p.elim
      | some cs =>
        simp only [rtW, ec] at p
        refine p T _ H1 t0 R1.sB ?_
        rw [hasW_iff.mpr ⟨w, hp⟩]
        have R2 : Rel X.KM md ⟨fun a => T a ∨ a = q, T.l⟩ H0 B H1 σ env := R.addT nq s t.isMut
        have S2 := (R2.stoW hp ec (A := fun a => T a ∨ a = q) fun a z => .inr (.inl z)).sto
        refine ⟨d, cs, rfl, ⟨?_, R1.tB, (R1.stoW hp ec (A := T.p) fun a z => .inr (.inl z)).tM⟩, ?_⟩
        · obtain ⟨c', a1, a2, a3, a4⟩ := S2.ex
          refine ⟨c', a1, a2, a3, fun n a c ha hc => ?_⟩
          obtain ⟨⟨y1, y2⟩, y3⟩ := a4 n a c ha hc
          refine ⟨⟨y1.elim id fun y => ?_, y2⟩, y3.carry (.weak fun b z => z.elim .inl fun y => .inr (by have := y.2.2; injection this with this; exact this.symm)) fun u hu => hu⟩
          subst y
          obtain ⟨_, u, eu, _⟩ := cell_sc (R.sto w _ ec (by omega)) (List.mem_of_getElem? ha)
          rw [nq] at eu
          cases eu
        · refine t.rpf (fun b z => ?_) fun z => ?_
          · rcases z with (z | z) | z
            · exact .inl (.inr (.inl z))
            · exact .inl (.inr (.inr ⟨rfl, z⟩))
            · exact .inr z
          · rcases z with z | ⟨o, z⟩
            · obtain ⟨u, e⟩ := R.tB _ z
              rw [nq] at e; cases e
            · obtain ⟨u, z⟩ := R.s0 _ _ z
              rw [R.sB _ _ z] at nq; cases nq⟩⟩
end
end Dl
/-! Dl10l: numbered things written; loops over them; the defs. -/
namespace Dl
open PySem PySem.Spec PyProof.Rows L2 RZ RT
section
variable {X : Cx} {W : WX} {md : Mds} {fr st nw sa na sb nb : Bool} {e a b tg : Expr} {f fa fb : DX} {g : DXX} {gs : DXXs} {pos : Pos} {es : List Expr} {fs : DXs} {w i : Nat} {x : Str}
theorem sc_nb {K : KM} {T : TL} {H0 B H : Hp} {σ : L2.St} {env : DEnv} {a : Addr} (R : Rel K md T H0 B H σ env) (sc : SC true T H0 B a) (nf : ∀ o w, H a ≠ some (.frz o w)) : B a = none := sc.2.elim id fun ⟨o1, w1, h1⟩ => absurd (R.sB _ _ h1) (nf o1 w1)
/-- an owned list or dict is handed back, with the store -/
def dRetXO (w i : Nat) : DS := fun env => match env[i]? with
  | some (some d) => rtW w env d
  | _ => .bad
theorem vs_retXO {p2 : Pos} (hp : (mdAt md w).dp = 3) (hN : X.N[i]? = some x) (hv : Vis X.env.scope x) (hd : (x == ("__debug__" : Str)) = false) (hcd : (x == ("__classdict__" : Str)) = false) (ho : (mdAt md i).own = true) (hw : (mdAt md i).nw = true) :
    VS X W md true (.Return (some (.Name x p2)) pos) (dRetXO w i) :=
  ⟨(ps_ret (pe_var hN hv hd hcd)).imp fun D σ H ⟨T0, T, H0, B, env, t0, R, p⟩ => by
    unfold dRetXO at p
    cases e : env[i]? with
    | none => rw [e] at p; exact p.elim
    | some o =>
    cases o with
    | none => rw [e] at p; exact p.elim
    | some d =>
    simp only [e] at p
    cases ec : env[w]? with
    | none => simp only [rtW, ec] at p; exact p.elim
    | some o =>
    cases o with
    | none => simp only [rtW, ec] at p; exact p.elim
    | some cs =>
      simp only [rtW, ec] at p
      have key : ∀ v, σ[i]? = some (some v) → FRm X.KM (hasW md) true H0 B H T0 T v (.tup [d, cs]) := fun v ev => by
        rw [hasW_iff.mpr ⟨w, hp⟩]
        cases hl : isLD d with
        | false =>
          obtain ⟨v', ev', im, r⟩ := R.ownedI e ho hl
          rw [ev] at ev'
          cases ev'
          exact ⟨d, cs, rfl, R.stoW hp ec fun a z => z.elim (fun y => .inr (.inl y)) fun y => (by rw [hl] at y; cases y.2.1), Rp.rpf (Rp.imm _ _ r im) hl⟩
        | true =>
          obtain ⟨a, ev', oa, t⟩ := R.owned e ho hl
          rw [ev] at ev'
          cases ev'
          refine ⟨d, cs, rfl, R.stoW hp ec fun b z => z.elim (fun y => .inr (.inl y)) fun y => ?_, t.rpf (fun b z => ?_) fun z => ?_⟩
          · have := y.2.2
            injection this with this
            subst this
            exact .inl ⟨i, oa⟩
          · rcases z with (z | z) | z
            · exact .inr (.inl z)
            · exact .inr (.inr ⟨hw, z⟩)
            · subst z; exact .inl ⟨i, oa⟩
          · rcases z with z | ⟨o, z⟩
            · exact R.tO i a oa z
            · obtain ⟨u, z⟩ := R.s0 _ _ z
              rw [R.out i a oa] at z
              cases z
      cases hl : isLD d with
      | false =>
        obtain ⟨v, ev, _, _⟩ := R.ownedI e ho hl
        exact ⟨_, ev, p T _ H t0 R.sB (key _ ev)⟩
      | true =>
        obtain ⟨a, ev, _, _⟩ := R.owned e ho hl
        exact ⟨_, ev, p T _ H t0 R.sB (key _ ev)⟩⟩
/-! ### x[k] = e of a numbered list or dict -/
def setCell (w : Nat) (e : DEnv) (n : Nat) (c : D) : Out := match e[w]? with
  | some (some (.lst cs)) => .nx (e.set w (some (.lst (cs.set n c))))
  | _ => .bad
def dPutB (w : Nat) (fo fk f : DX) : DS := fun env => (f env).out env fun v => (fo env).out env fun o => (fk env).out env fun k => match o with
  | .obj n => (match cellAt w env n with
    | some c => (match putD c k v with
      | some c' => setCell w env n c'
      | none => .bad)
    | none => .bad)
  | _ => .bad
theorem vs_putB {o : Expr} {fo : DX} {so no : Bool} {spos : Pos} (hu : X.A.units + 1 < cLine) (hp : (mdAt md w).dp = 3) (hO : VE X W md so no o fo)
    (he : VE X W md true nw e f) (hb : VE X W md sb nb b fb) (hs : swapsWithSole [.Subscript o b spos] e pos.line X.env = pure false) (hws : swappedStores [.Subscript o b spos] e X.env = pure none)
    (h1 : (assignEach [.Subscript o b spos] X.env).map (·.2) = [assign (.Subscript o b spos) X.env])
    (has : ∀ v, assign (.Subscript o b spos) X.env v = (do
      let ov ← holding [v] (eval o X.env)
      let iv ← holding [v, ov] (eval b X.env)
      standAt spos
      holding [v, ov, iv] (setItem ov iv v)
      release [v, ov, iv] [])) : VS X W md fr (.Assign [.Subscript o b spos] e pos) (dPutB w fo fb f) := by
  refine ⟨(ps_asg he.run (pg_sub hO.run hb.run (set_any hu) has) hs hws h1).imp fun D σ H ⟨T0, T, H0, B, env, t0, R, p⟩ => ⟨T, H0, B, env, R, (out_of t0 R p).mono fun dv v H1 s _ q r => ⟨T, H0, B, env, R.same s, (out_of t0 (R.same s) q).mono fun dO vO H2 s2 _ q2 rO => ⟨T, H0, B, env, (R.same s).same s2, (out_of t0 ((R.same s).same s2) q2).mono fun dk k H3 s3 _ q3 rk => ?_⟩⟩⟩⟩
  have R3 := ((R.same s).same s2).same s3
  cases dO with
  | obj n =>
    obtain ⟨ad, rfl, ea⟩ := rO.obj
    cases ec : cellAt w env n with
    | none => simp only [ec] at q3; exact q3.elim
    | some c =>
    cases ep : putD c dk dv with
    | none => simp only [ec, ep] at q3; exact q3.elim
    | some c' =>
    simp only [ec, ep] at q3
    obtain ⟨cs, e1, e2, e3, sc, ok⟩ := R3.cell (by omega) ec ea
    have hn : n < cs.length := (List.getElem?_eq_some_iff.mp e2).1
    simp only [setCell, e1] at q3
    have rv : Rp (X.KM.at T) H3 (Avd md σ env T H0 false) v dv := (((r.strict.same s2).same s3)).weak fun b z => Avd.mono (by intro c; cases c) z
    have rk' : Rk sb (X.KM.at T) H3 (Avd md σ env T H0 nb) k dk := rk
    cases c with
    | lst ds =>
      obtain ⟨vs, el, rs⟩ := ok
      cases dk with
      | int j =>
        have ep : (ixN ds.length j).map (fun n => Dl.D.lst (ds.set n dv)) = some c' := ep
        obtain ⟨m, ej, e2'⟩ := Option.map_eq_some_iff.mp ep
        subst e2'
        have cu := carry_upd (K := X.KM.at T) (o := .lst (vs.set m v)) (A := Avd md σ env T H0 false) el rfl (by
          rw [hp] at sc; exact .inr (.inl sc.1))
        exact .inl ⟨ad, vs, j, m, rfl, rk.int, el, by rw [rs.length]; exact ej, q3 T σ _ t0 (R3.updCell hp e1 ea hn rfl (sc_nb R3 (by rw [hp] at sc; exact sc) fun o w z => by rw [el] at z; cases z) ⟨vs.set m v, upd_same, Rps.set (Rp.carry cu _ _ rv) m (Rps.carry cu _ _ rs)⟩)⟩
      | _ => cases ep
    | dic t ks ws =>
      obtain ⟨vs, el, rs⟩ := ok
      have ep : (if keyFits t dk && decide (ks.length < sizeLine) then some (Dl.D.dic t (putKs ks dk) (putWs ks ws dk dv)) else none) = some c' := ep
      by_cases hc : (keyFits t dk && decide (ks.length < sizeLine)) = true
      case neg => rw [if_neg hc] at ep; cases ep
      rw [if_pos hc] at ep
      cases ep
      rw [Bool.and_eq_true, decide_eq_true_eq] at hc
      obtain ⟨u0, eu0⟩ := el.there
      have mu : isMutO u0 = true := by
        cases t with
        | false => obtain ⟨kvs, e1, _⟩ := el; rw [e1] at eu0; cases eu0; rfl
        | true => obtain ⟨kvs, e1, _⟩ := el; rw [e1] at eu0; cases eu0; rfl
      have nfz : ∀ o w, H3 ad ≠ some (.frz o w) := fun o w z => by
        cases t with
        | false => obtain ⟨kvs, e1, _⟩ := el; rw [e1] at z; cases z
        | true => obtain ⟨kvs, e1, _⟩ := el; rw [e1] at z; cases z
      have ik : imm dk = true := by
        cases dk with
        | tup xs =>
          have hk : (keysOf xs).isSome = true := by
            cases t with
            | true => exact hc.1
            | false => cases hc.1
          obtain ⟨kk, hk⟩ := Option.isSome_iff_exists.mp hk
          rw [keysOf_eq hk]
          unfold imm
          have : ∀ l : List Key, imms (l.map keyD) = true := by
            intro l
            induction l with
            | nil => rfl
            | cons a r ih => unfold imms List.map; rw [Bool.and_eq_true]; exact ⟨by cases a <;> rfl, ih⟩
          exact this kk
        | int _ => rfl
        | str _ => rfl
        | obj _ => rfl
        | non => rfl
        | bl _ => rfl
        | lst _ => cases t <;> cases hc.1
        | frl _ => cases t <;> cases hc.1
        | ktp _ => cases t <;> cases hc.1
        | dic _ _ _ => cases t <;> cases hc.1
      obtain ⟨o2, vs2, dp2, dh2, rs2⟩ := el.dput (st := false) (A := Avd md σ env T H0 false) rs (show Rk false (X.KM.at T) H3 (Avd md σ env T H0 false) k dk from .of (Rp.imm _ _ rk.free ik)) rv hc.1 hc.2
      have cu := carry_upd (K := X.KM.at T) (o := o2) (A := Avd md σ env T H0 false) eu0 mu (by
        rw [hp] at sc; exact .inr (.inl sc.1))
      have mo : isMutO o2 = true := by
        obtain ⟨u, hu⟩ := dh2.there
        cases t with
        | false => obtain ⟨kvs, e1, _⟩ := dh2; subst e1; rfl
        | true => obtain ⟨kvs, e1, _⟩ := dh2; subst e1; rfl
      exact .inr ⟨ad, upd H3 ad o2, rfl, dp2, q3 T σ _ t0 (R3.updCell hp e1 ea hn mo (sc_nb R3 (by rw [hp] at sc; exact sc) nfz) ⟨vs2, dh2.mono fun u z => by rw [upd_same, z], Rps.carry cu _ _ rs2⟩)⟩
    | _ => cases ep
  | _ => exact q3.elim
/-! ### for k in x of a numbered dict: locked, read only -/
def lockD (c : D) : D := .tup [.non, c]
def lockE (w : Nat) (e : DEnv) (n : Nat) (c : D) : DEnv := match e[w]? with
  | some (some (.lst cs)) => e.set w (some (.lst (cs.set n (lockD c))))
  | _ => e
open Classical in
noncomputable def endB (w n : Nat) (c : D) : Out → Out
  | .nx e => if cellAt w e n = some (lockD c) then setCell w e n c else .bad
  | _ => .bad
noncomputable def dForB (w i : Nat) (gd : D → DEnv → Option DEnv) (body : DS) (ks : List Nat) : DS := fun env => match env[i]? with
  | some (some (.obj n)) => (match cellAt w env n with
    | some (.dic t keys ws) => endB w n (.dic t keys ws) (forGo gd body ks keys (lockE w env n (.dic t keys ws)))
    | _ => .bad)
  | _ => .bad
theorem relFixB {K : KM} {T : TL} {H0 B H : Hp} {σ : L2.St} {env : DEnv} (R : Rel K md T H0 B H σ env) (hp : (mdAt md w).dp = 3) {a : Addr} {od : Obj} {u : HO} (hT : T a) (nB : B a = none) (hf : H a = some (.frz od u)) : Rel K md T H0 (upd B a (.frz od u)) H σ env := by
  refine ⟨fun b o e => ?_, fun b o e => ?_, R.tB, R.len, R.slot, fun j b o => ?_, R.sep, R.tO, R.st, R.tM, fun j d e hd h3 => ?_, fun j d e hd => ?_⟩
  · obtain ⟨u', e⟩ := R.s0 b o e
    exact ⟨u', by rw [upd_ne fun z => by subst z; rw [nB] at e; cases e]; exact e⟩
  · by_cases z : b = a
    · subst z; rw [upd_same] at e; cases e; exact hf
    · rw [upd_ne z] at e; exact R.sB b o e
  · rw [upd_ne fun z => by subst z; exact R.tO j b o hT]
    exact R.out j b o
  · have : j = w := R.st.one j w hd (by omega)
    subst this
    omega
  · refine (R.sto j d e hd).carry rfl (.weak fun _ z => z) (fun _ _ _ z => z) fun b x y => ⟨x, ?_⟩
    by_cases z : b = a
    · subst z; exact .inr ⟨od, u, upd_same⟩
    · rcases y with y | ⟨o1, w1, y⟩
      · exact .inl (by rw [upd_ne z]; exact y)
      · exact .inr ⟨o1, w1, by rw [upd_ne z]; exact y⟩
open Classical in
theorem vs_forB {i0 : Nat} {x0 : Str} {p0 : Pos} {body : List Stmt} {gd : D → DEnv → Option DEnv} {sl ks : List Nat} {g : DS} (hp : PassesOwn (model X.prog X.w) X.A X.env X.xe) (hc : X.calm = true) (hN : X.N[i0]? = some x0) (hv : Vis X.env.scope x0) (hd : (x0 == ("__debug__" : Str)) = false) (hcd : (x0 == ("__classdict__" : Str)) = false) (ho : (mdAt md i0).own = false) (hdp : (mdAt md i0).dp = 0) (hw3 : (mdAt md w).dp = 3)
    (hg : VG X md false tg gd sl) (hb : VSs X W md fr body g) (hs : ∀ x, foldedSetIterable (.Name x0 p0) X.env x = pure x) : VS X W md fr (.For tg (.Name x0 p0) body [] pos) (dForB w i0 gd g ks) := by
  refine ⟨(ps_lock (ps_for hp hc (pi_keys (tg := tg) (pe_var (pos := p0) hN hv hd hcd)) hg.run hb.run hs)).imp fun D σ H ⟨T0, T, H0, B, env, t0, R, p⟩ => ?_⟩
  unfold dForB at p
  obtain ⟨T0, p, t0, el⟩ : ∃ T0' : TL, SP0 X.KM W md fr T0' H0 B _ D ∧ TIn (hasW md) T0' B T ∧ T0'.l = T.l := ⟨⟨T0.p, T.l⟩, p.raise t0, t0.self, rfl⟩
  cases hl : env[i0]? with
  | none => simp only [hl] at p; exact p.elim
  | some o =>
  cases o with
  | none => simp only [hl] at p; exact p.elim
  | some d0 =>
  cases d0 with
  | obj n =>
    simp only [hl] at p
    obtain ⟨v, ev0, r0⟩ := R.shared hl ho hdp
    obtain ⟨a0, rfl, ea0⟩ := Rp.obj.mp r0
    cases ec : cellAt w env n with
    | none => simp only [ec] at p; exact p.elim
    | some c =>
    cases c with
    | dic t keys ws =>
      simp only [ec] at p
      obtain ⟨cs, e1, e2, e3, sc, ok⟩ := R.cell (by omega) ec ea0
      rw [hw3] at sc
      have hn : n < cs.length := (List.getElem?_eq_some_iff.mp e2).1
      obtain ⟨vs, hdic, rs⟩ := ok
      obtain ⟨u, hu, mu⟩ : ∃ u, H a0 = some u ∧ isDicO u = true := by
        cases t with
        | false => obtain ⟨kvs, h, _⟩ := hdic; exact ⟨_, h, rfl⟩
        | true => obtain ⟨kvs, h, _⟩ := hdic; exact ⟨_, h, rfl⟩
      have nB : B a0 = none := sc_nb R sc fun o w z => by rw [hu] at z; cases z; cases mu
      have hdu : DicH (fun x => x = u) t keys vs := hdic.mono fun x z => by rw [hu] at z; cases z; rfl
      have mfr : ∀ od, isMutO (.frz od u) = true := fun od => by cases u <;> first | rfl | cases mu
      refine ⟨a0, u, hu, isDicO_Mut mu, fun od => ?_⟩
      have eL : lockE w env n (.dic t keys ws) = env.set w (some (.lst (cs.set n (lockD (.dic t keys ws))))) := by unfold lockE; rw [e1]
      rw [eL] at p
      have cu := carry_upd (K := X.KM.at T) (o := .frz od u) (A := Avd md σ env T H0 false) hu (isDicO_mut mu) (.inr (.inl sc.1))
      have R1 : Rel X.KM md T H0 B (upd H a0 (.frz od u)) σ (env.set w (some (.lst (cs.set n (lockD (.dic t keys ws)))))) := R.updCell hw3 e1 ea0 hn (mfr od) nB ⟨od, u, vs, upd_same, hdu, Rps.carry cu _ _ rs⟩
      have R2 := relFixB R1 (w := w) hw3 sc.1 nB upd_same
      have t1 : TIn (hasW md) ⟨fun b => T0 b ∨ b = a0, T.l⟩ (upd B a0 (.frz od u)) T := ⟨fun b z => z.elim (t0.le b) fun y => by rw [y]; exact sc.1, fun b z => by
        rcases t0.out b z with y | y
        · exact .inl (.inl y)
        · by_cases q : b = a0
          · exact .inl (.inr q)
          · exact .inr (by rw [upd_ne q]; exact y), fun b z => by
        by_cases q : b = a0
        · subst q; exact ⟨_, upd_same⟩
        · rcases z with z | z
          · obtain ⟨x, e⟩ := t0.old b z
            exact ⟨x, by rw [upd_ne q]; exact e⟩
          · exact absurd z q, fun _ _ z => z, fun h => by exact absurd (hasW_iff.mpr ⟨w, hw3⟩) (by rw [h]; exact Bool.false_ne_true)⟩
      have sBB : Same B (upd B a0 (.frz od u)) := fun b o e => by rw [upd_ne fun z => by subst z; rw [nB] at e; cases e]; exact e
      have p1 : ∀ o : Out, SP0 X.KM W md fr T0 H0 B (endB w n (.dic t keys ws) o) D → SP0 X.KM W md fr ⟨fun b => T0 b ∨ b = a0, T.l⟩ H0 (upd B a0 (.frz od u)) o ⟨fun σ' H' => H' a0 = some (.frz od u) ∧ D.nx σ' (upd H' a0 u), fun v H' => H' a0 = some (.frz od u) ∧ D.rt v (upd H' a0 u), fun σ' H' => H' a0 = some (.frz od u) ∧ D.bk σ' (upd H' a0 u), fun σ' H' => H' a0 = some (.frz od u) ∧ D.ct σ' (upd H' a0 u)⟩ := fun o q => by
        cases o with
        | nx e =>
          intro T' σ' H' t' R'
          have f := R'.sB a0 _ (upd_same (H := B))
          refine ⟨f, ?_⟩
          have q : SP0 X.KM W md fr T0 H0 B (if cellAt w e n = some (lockD (.dic t keys ws)) then setCell w e n (.dic t keys ws) else .bad) D := q
          by_cases hce : cellAt w e n = some (lockD (.dic t keys ws))
          case neg => rw [if_neg hce] at q; exact q.elim
          rw [if_pos hce] at q
          have ea' : T'.l[n]? = some a0 := t'.lp n a0 ea0
          have R3 := R'.unbase R.s0 sBB
          obtain ⟨cs', c1, c2, c3, sc', ok'⟩ := R3.cell (by omega) hce ea'
          rw [hw3] at sc'
          have hn' : n < cs'.length := (List.getElem?_eq_some_iff.mp c2).1
          obtain ⟨od', u', vs', h1, h2, r3⟩ := ok'
          rw [f] at h1
          cases h1
          have cu' := carry_upd (K := X.KM.at T') (o := u) (A := Avd md σ' e T' H0 false) f (mfr od) (.inr (.inl sc'.1))
          have R4 : Rel X.KM md T' H0 B (upd H' a0 u) σ' (e.set w (some (.lst (cs'.set n (.dic t keys ws))))) := R3.updCell hw3 c1 ea' hn' (isDicO_mut mu) nB ⟨vs', h2.mono fun x z => by rw [upd_same, z], Rps.carry cu' _ _ r3⟩
          simp only [setCell, c1] at q
          refine q T' σ' _ ⟨fun b z => t'.le b (.inl z), fun b z => ?_, t0.old, fun m a h => t'.lp m a (by rw [el] at h; exact h), fun h => absurd (hasW_iff.mpr ⟨w, hw3⟩) (by rw [h]; exact Bool.false_ne_true)⟩ R4
          rcases t'.out b z with (y | y) | y
          · exact .inl y
          · subst y; exact .inr nB
          · by_cases z2 : b = a0
            · subst z2; exact .inr nB
            · rw [upd_ne z2] at y; exact .inr y
        | _ => exact q.elim
      have p2 := p1 _ p
      have nW : ¬ WrP md σ (env.set w (some (.lst (cs.set n (lockD (.dic t keys ws)))))) T (upd B a0 (.frz od u)) a0 := fun z => by
        rcases z with ⟨j, o⟩ | ⟨_, z⟩
        · exact R1.tO j a0 o sc.1
        · rw [upd_same] at z; cases z
      have fin := fun J it => for_core (na := false) (sl := sl) (g := g) (gd := gd) (fr := fr) (J := J) t1 R2 p2 it
      refine ⟨_, ev0, a0, od, rfl, ?_⟩
      cases t with
      | false =>
        obtain ⟨kvs, h, rfl, _⟩ := hdic
        rw [hu] at h
        cases h
        exact .inl ⟨kvs, upd_same, fin _ (itd_keysK upd_same fun z => nW z.2)⟩
      | true =>
        obtain ⟨kvs, h, rfl, _⟩ := hdic
        rw [hu] at h
        cases h
        exact .inr ⟨kvs, upd_same, fin _ (itd_keysT upd_same fun z => nW z.2)⟩
    | _ => simp only [ec] at p; exact p.elim
  | _ => simp only [hl] at p; exact p.elim
end
end Dl
/-! Dl10m: defs that work on a store handed to them, or on one of their own. -/
namespace Dl
open PySem PySem.Spec PyProof.Rows L2 RZ RT
/-! ### a store of its own -/
section
variable {X : Cx} {W : WX} {md : Mds} {fr st nw : Bool} {e : Expr} {f : DX} {g : DXX} {pos : Pos} {es : List Expr} {w : Nat}
/-! ### a new list or dict, numbered at once -/
def xNum (w : Nat) (g : DXX) : DXX := fun env => match g env with
  | .ok c e => (match e[w]? with
    | some (some (.lst cs)) => if isLD c then .ok (.obj cs.length) (e.set w (some (.lst (cs ++ [c])))) else .bad
    | _ => .bad)
  | .exc c fs e => .exc c fs e
  | .bad => .bad
theorem vx_num (hp : (mdAt md w).dp = 3) (he : VXF X W md e g) : VX X W md nw e (xNum w g) := ⟨he.run.imp fun σ H Q ⟨T0, T, H0, B, env, t0, R, p⟩ => ⟨T0, T, H0, B, env, t0, R, by
  unfold xNum at p
  cases eg : g env with
  | exc c fs e => rw [eg] at p; exact p
  | bad => rw [eg] at p; exact p
  | ok c e =>
    rw [eg] at p
    rintro T1 v H1 t1 R1 ⟨pt, rfl, tp, bp, np, t⟩
    cases ec : e[w]? with
    | none => simp only [ec] at p; exact p.elim
    | some o =>
    cases o with
    | none => simp only [ec] at p; exact p.elim
    | some d =>
    cases d with
    | lst cs =>
      simp only [ec, t.ld, if_true] at p
      obtain ⟨R2, el⟩ := R1.number hp ec tp bp (np w _ hp ec) t.cell
      exact p _ _ H1 (t1.number (hasW_iff.mpr ⟨w, hp⟩) pt) R2 (Rp.obj.mpr ⟨pt, rfl, by show (T1.l ++ [pt])[cs.length]? = some pt; rw [el, List.getElem?_append_right (Nat.le_refl _), Nat.sub_self]; rfl⟩)
    | _ => simp only [ec] at p; exact p.elim⟩⟩
/-! ### list(..) of what such a def gives -/
def xList (g : DXX) : DXX := fun env => match g env with
  | .ok d e => (match gList d with
    | some xs => .ok (.lst xs) e
    | none => .bad)
  | .exc c fs e => .exc c fs e
  | .bad => .bad
theorem vxf_list {p : Pos} (hc : X.calm = true) (hb : BltAt X "list" (.type "list")) (ha : VX X W md nw e g) (hs : starless e = true) : VXF X W md (.Call (.Name "list" p) [e] [] pos) (xList g) := by
  have hP : PA X [e] (fun σ H Q => tX X.KM W md nw g σ H fun v H' => Q [v] H') := (pa_cons ha.run pa_nil (notStar hs)).imp fun σ H Q h => h
  refine ⟨(pe_callTy (cr_listAll hc) hb.gl hb.mg hb.bt hP hb.nm hb.db (notStar hs) (backTo_any rfl)).imp fun σ H Q ⟨T0, T, H0, B, env, t0, R, q⟩ => ⟨T0, T, H0, B, env, t0, R, ?_⟩⟩
  unfold xList at q
  cases eg : g env with
  | exc c fs e => rw [eg] at q; exact q
  | bad => rw [eg] at q; exact q
  | ok d e1 =>
    rw [eg] at q
    intro T1 v H1 t1 R1 r1
    cases el : gList d with
    | none => simp only [el] at q; exact q.elim
    | some xs =>
    simp only [el] at q
    have fin : ∀ {vs : List V} {l : Addr}, Rps (X.KM.at T1) H1 (Avd md σ e1 T1 H0 nw) vs xs → H1 l = none → Q (.ref l) (upd H1 l (.lst vs)) := fun {vs l} r nl => by
      have R2 : Rel X.KM md ⟨fun a => T1 a ∨ a = l, T1.l⟩ H0 B (upd H1 l (.lst vs)) σ e1 := R1.addT nl (same_new nl) ⟨_, upd_same, rfl⟩
      have nB : B l = none := by
        cases e : B l with
        | none => rfl
        | some u => rw [R1.sB _ _ e] at nl; cases nl
      refine q ⟨fun a => T1 a ∨ a = l, T1.l⟩ _ _ ⟨fun a z => .inl (t1.le a z), fun a z => z.elim (t1.out a) fun y => by subst y; exact .inr nB, t1.old, t1.lp, t1.lx⟩ R2 ⟨l, rfl, .inr rfl, nB, fun i1 cs1 h1 c1 z => ?_, vs, upd_same, (r.new nl).weak fun a z => ?_⟩
      · obtain ⟨_, u, eu, _⟩ := cell_sc (R1.sto i1 _ c1 (by omega)) z
        rw [nl] at eu
        cases eu
      · rcases z with z | (z | z) | z
        · exact .inl (.inl z)
        · exact .inl (.inr (.inl z))
        · exact .inr z
        · cases z.1
    cases d with
    | lst ds =>
      cases el
      obtain ⟨a, vs, rfl, _, h, t⟩ := Rp.lst.mp r1
      exact .inl (.inl ⟨a, vs, rfl, .inl (SqL.of h), fun l nl => fin t nl⟩)
    | frl ds => cases el; obtain ⟨a, vs, rfl, h, t⟩ := Rp.frl.mp r1; exact .inl (.inl ⟨a, vs, rfl, .inl h.sq, fun l nl => fin t nl⟩)
    | tup ds => cases el; obtain ⟨a, vs, rfl, h, t⟩ := Rp.tup.mp r1; exact .inl (.inl ⟨a, vs, rfl, .inr (SqT.of h), fun l nl => fin t nl⟩)
    | ktp ds => cases el; obtain ⟨a, vs, rfl, h, t⟩ := Rp.ktp.mp r1; exact .inl (.inl ⟨a, vs, rfl, .inr h, fun l nl => fin t nl⟩)
    | dic t ks ws =>
      cases t with
      | false => cases el
      | true =>
        cases el
        obtain ⟨a, vs, rfl, _, h, _⟩ := Rp.dic.mp r1
        obtain ⟨kvs, h1, h2, h3⟩ := h
        subst h2
        refine .inr ⟨a, kvs, rfl, h1, fun p bs np ik => fin (isKeys_rp ik) np⟩
    | _ => cases el
/-- a new list whose items are free of lists is handed back -/
def xImmL (g : DXX) : DXX := fun env => match g env with
  | .ok d e => if immL d then .ok d e else .bad
  | .exc c fs e => .exc c fs e
  | .bad => .bad
theorem vs_retXL (hp : (mdAt md w).dp = 3) (he : VXF X W md e g) : VS X W md true (.Return (some e) pos) (dRetX w (xImmL g)) :=
  ⟨(ps_ret he.run).imp fun D σ H ⟨T0, T, H0, B, env, t0, R, p⟩ => ⟨T0, T, H0, B, env, t0, R, by
    unfold dRetX xImmL at p
    cases eg : g env with
    | exc c fs e => simp only [eg] at p; exact fun T cls dd H' t R x => p T cls dd σ H' t R x
    | bad => simp only [eg] at p; exact p
    | ok d e =>
      simp only [eg] at p
      rintro T1 v H1 t1 R1 ⟨pt, rfl, tp, bp, np, t⟩
      cases im : immL d with
      | false => simp only [im] at p; exact p.elim
      | true =>
      simp only [im, if_true] at p
      cases ec : e[w]? with
      | none => simp only [rtW, ec] at p; exact p.elim
      | some o =>
      cases o with
      | none => simp only [rtW, ec] at p; exact p.elim
      | some cs =>
        simp only [rtW, ec] at p
        have nH0 : H0 pt = none := by
          cases e : H0 pt with
          | none => rfl
          | some u =>
            obtain ⟨u', e⟩ := R1.s0 _ _ e
            rw [bp] at e
            cases e
        have SW := R1.stoW hp ec (A := T1.p) fun a z => .inr (.inl z)
        refine p ⟨fun a => T1 a ∧ a ≠ pt, T1.l⟩ _ H1 ⟨fun a z => ⟨t1.le a z, fun y => ?_⟩, fun a z => t1.out a z.1, t1.old, t1.lp, t1.lx⟩ R1.sB ?_
        · subst y
          obtain ⟨u, e⟩ := t1.old _ z
          rw [bp] at e
          cases e
        rw [hasW_iff.mpr ⟨w, hp⟩]
        refine ⟨d, cs, rfl, ⟨?_, fun a z => SW.tB a z.1, fun a z hb => SW.tM a z.1 hb⟩, ?_⟩
        · obtain ⟨c', a1, a2, a3, a4⟩ := SW.sto.ex
          refine ⟨c', a1, a2, a3, fun n a c ha hc => ?_⟩
          obtain ⟨⟨y1, y2⟩, y3⟩ := a4 n a c ha hc
          refine ⟨⟨⟨y1, fun y => ?_⟩, y2⟩, y3.carry (.weak fun b z => z.elim (fun y => y.1) fun y => by have := y.2.2; injection this with this; subst this; exact tp) fun u hu => hu⟩
          subst y
          exact np w _ hp ec (List.mem_of_getElem? ha)
        · refine (t.imm im).rpf (A := fun a => (T1 a ∧ a ≠ pt ∨ ∃ o, H0 a = some o) ∨ a = pt) (fun b z => z) fun z => ?_
          rcases z with z | ⟨o, z⟩
          · exact z.2 rfl
          · rw [nH0] at z; cases z⟩⟩
end
end Dl
/-! Dl10n: [e for k in d] of an own dict: locked while it runs, read only within; what it gives holds no lists. -/
namespace Dl
open PySem PySem.Spec PyProof.Rows L2
theorem compGo_imm {gd : D → DEnv → Option DEnv} {tt fe : DX} {env : DEnv} : ∀ (ds xs : List D), compGo gd tt (dImm fe) env ds = some xs → imms xs = true
  | [], xs, h => by cases h; rfl
  | d :: r, xs, h => by
    unfold compGo at h
    cases eg : gd d env with
    | none => rw [eg] at h; cases h
    | some env1 =>
      rw [eg] at h
      have h : (match tt env1 with
        | .ok (.bl true) => (match dImm fe env1 with
          | .ok y => (compGo gd tt (dImm fe) env r).map (y :: ·)
          | _ => none)
        | .ok (.bl false) => compGo gd tt (dImm fe) env r
        | _ => none) = some xs := h
      split at h
      · split at h
        · next y ey =>
          obtain ⟨rest, hr, rfl⟩ := Option.map_eq_some_iff.mp h
          have ih := compGo_imm r rest hr
          have : imm y = true := by
            have ey : ((fe env1).bind fun d => if imm d then RG.ok d else .bad) = .ok y := ey
            cases ef : fe env1 with
            | ok z =>
              rw [ef] at ey
              have ey : (if imm z then RG.ok z else .bad) = RG.ok y := ey
              by_cases c : imm z = true
              · rw [if_pos c] at ey; cases ey; exact c
              · rw [if_neg c] at ey; cases ey
            | exc c fs => rw [ef] at ey; cases ey
            | bad => rw [ef] at ey; cases ey
          show (imm y && imms rest) = true
          rw [this, ih]
          rfl
        · cases h
      · exact compGo_imm r xs h
      · cases h
def dCompK (i : Nat) (gd : D → DEnv → Option DEnv) (tt fe : DX) (vs : List Nat) : DX := fun env => match env[i]? with
  | some (some (.dic _ keys _)) => dComp (fun _ => .ok keys) gd tt (dImm fe) vs env
  | _ => .bad
section
variable {X : Cx} {W : WX} {md : Mds} {nw na : Bool} {tg : Expr} {pos p0 : Pos}
theorem vf_compK {i0 : Nat} {x0 : Str} {elt : Expr} {ifs : List Expr} {scope : Scope} {own : List (Str × Nat)} {gd : D → DEnv → Option DEnv} {tt fe : DX} {sl : List Nat} (hc : X.calm = true) (hNN : X.N.Nodup) (hN : X.N[i0]? = some x0) (hv : Vis X.env.scope x0) (hd : (x0 == ("__debug__" : Str)) = false) (hcd : (x0 == ("__classdict__" : Str)) = false) (ho : (mdAt md i0).own = true) (ok : BlkOk X.N X.env.scope scope own)
    (hsh : shAll (mdK md i0) (own.map (·.2)) = true) (hsl : ∀ j ∈ sl, j ∈ own.map (·.2))
    (hg : ∀ (s : Shared) (H : Hp) (C : Addr) (cl : List (Str × Addr)) (fp : List Addr), VG (X.blk s H scope (compEnvC scope cl C X.env) fp) (mdK md i0) na tg gd sl)
    (ht : ∀ (s : Shared) (H : Hp) (C : Addr) (cl : List (Str × Addr)) (fp : List Addr), VTs (X.blk s H scope (compEnvC scope cl C X.env) fp) W0 (mdK md i0) ifs tt)
    (he : ∀ (s : Shared) (H : Hp) (C : Addr) (cl : List (Str × Addr)) (fp : List Addr), VE (X.blk s H scope (compEnvC scope cl C X.env) fp) W0 (mdK md i0) true nw elt fe) (hs : ∀ x, foldedSetIterable (.Name x0 p0) X.env x = pure x) :
    VF X W md true (.ListComp elt [⟨tg, .Name x0 p0, ifs, 0⟩] scope pos) (dCompK i0 gd tt fe (own.map (·.2))) := by
  refine ⟨(pe_lock (pe_lc (g := tDG X.KM (mdK md i0) na gd sl) (tt := tDT X.KM W0 (mdK md i0) tt) (te := tD X.KM W0 (mdK md i0) true true (dImm fe)) hc hNN (pi_keys (tg := tg) (pe_var (pos := p0) hN hv hd hcd)) ok (fun s H C cl fp => (hg s H C cl fp).run) (fun s H C cl fp => (ht s H C cl fp).run) (fun s H C cl fp => (he s H C cl fp).imm.run) hs)).imp fun σ H Q ⟨T, H0, B, env, R, p⟩ => ?_⟩
  unfold dCompK at p
  cases hl : env[i0]? with
  | none => rw [hl] at p; exact p.elim
  | some o =>
  cases o with
  | none => rw [hl] at p; exact p.elim
  | some d0 =>
  cases d0 with
  | dic t keys ws =>
    rw [hl] at p
    obtain ⟨a0, ev0, oa0, top⟩ := R.owned hl ho rfl
    obtain ⟨u, hu, mu⟩ : ∃ u, H a0 = some u ∧ isDicO u = true := by
      obtain ⟨vs, h, _⟩ := top
      cases t with
      | false => obtain ⟨kvs, h, _⟩ := h; exact ⟨_, h, rfl⟩
      | true => obtain ⟨kvs, h, _⟩ := h; exact ⟨_, h, rfl⟩
    refine ⟨a0, u, hu, isDicO_Mut mu, fun od => ?_⟩
    have R1 : Rel X.KM (mdK md i0) T H0 B (upd H a0 (.frz od u)) σ env := R.freeze hl oa0 hu mu top
    have nW : ¬ WrP (mdK md i0) σ env T B a0 := fun z => by
      rcases z with ⟨j, o⟩ | ⟨z, _⟩
      · obtain ⟨ne, o⟩ := ownAt_K o
        exact ne (R.sep _ _ _ o oa0)
      · exact R.tO _ _ oa0 z
    have p : EP0 X.KM W σ H (if keys.length ≤ sizeLine then (match compGo gd tt (dImm fe) (wipeD env (own.map (·.2))) keys with
      | some xs => RG.ok (D.lst xs)
      | none => .bad) else .bad) fun d v H' => (∃ p, v = .ref p ∧ H p = none ∧ Top (X.KM.at T) H' (fun a => Avd md σ env T H0 true a ∨ a = p) p d) → Q v H' := p
    by_cases hz : keys.length ≤ sizeLine
    case neg => rw [if_neg hz] at p; exact p.elim
    rw [if_pos hz] at p
    cases hx : compGo gd tt (dImm fe) (wipeD env (own.map (·.2))) keys with
    | none => rw [hx] at p; exact p.elim
    | some xs =>
      rw [hx] at p
      have ix := compGo_imm keys xs hx
      have fin : ∀ L accV H2, (upd H a0 (.frz od u)) L = none → Same (upd H a0 (.frz od u)) H2 → H2 L = some (.lst accV) → Rps (X.KM.at T) H2 (fun a => Avd (mdK md i0) σ env T H0 true a ∨ a = L) accV xs → H2 a0 = some (.frz od u) ∧ Q (.ref L) (upd H2 a0 u) := fun L accV H2 nL s2 eL rA => by
        have ne : L ≠ a0 := fun z => by subst z; rw [upd_same] at nL; cases nL
        have f := s2 _ _ (upd_same (H := H) (a := a0) (o := .frz od u))
        refine ⟨f, p (.ref L) (upd H2 a0 u) (fun a o eo => ?_) ⟨L, rfl, by rw [upd_ne ne] at nL; exact nL, accV, by rw [upd_ne ne]; exact eL, (Rps.thaw f mu xs accV rA).imm xs accV ix⟩⟩
        by_cases z : a = a0
        · subst z; rw [upd_same]; rw [hu] at eo; exact eo
        · rw [upd_ne z]; exact s2 a o (by rw [upd_ne z]; exact eo)
      have core := fun J it => comp_core (X := X) (md := mdK md i0) (na := na) (nw := true) (bo := false) (J := J) (Q := fun v H' => H' a0 = some (.frz od u) ∧ Q v (upd H' a0 u)) hsh hsl R1 it hz hx fin
      obtain ⟨vs, hdic, _⟩ := top
      refine ⟨_, ev0, a0, od, rfl, ?_⟩
      cases t with
      | false =>
        obtain ⟨kvs, h, rfl, _⟩ := hdic
        rw [hu] at h
        cases h
        exact .inl ⟨kvs, upd_same, core _ (itd_keysK upd_same fun z => nW z.2)⟩
      | true =>
        obtain ⟨kvs, h, rfl, _⟩ := hdic
        rw [hu] at h
        cases h
        exact .inr ⟨kvs, upd_same, core _ (itd_keysT upd_same fun z => nW z.2)⟩
  | _ => rw [hl] at p; exact p.elim
end
end Dl
/-! Dl10o: list(range(n)) as a value; sum(d.values()). -/
namespace Dl
open PySem PySem.Spec PyProof.Rows L2
section
variable {X : Cx} {W : WX} {md : Mds} {st nw : Bool} {e a : Expr} {f fa : DX} {td : TE}
def dListRg (fa : DX) : DX := fun env => (fa env).bind fun x => match x with
  | .int j => if decide (0 ≤ j) && decide (j ≤ 1000000) then .ok (.lst ((List.range j.toNat).map fun (i : Nat) => D.int (i : Int))) else .bad
  | _ => .bad
theorem rps_range {K : KF} {H : Hp} {A : Pred} : ∀ l : List Nat, Rps K H A (l.map fun i => V.int (0 + (i : Nat))) (l.map fun (i : Nat) => D.int (i : Int))
  | [] => .nil
  | i :: l => .cons (Rp.int.mpr (by simp)) (rps_range l)
theorem vf_listRg {p p2 pos pos2 : Pos} (hc : X.calm = true) (hg : Gl X "list") (hm : X.mg "list" = none) (hg2 : Gl X "range") (hm2 : X.mg "range" = none) (ha : VE X W md st nw a fa) (hs : starless a = true) :
    VF X W md true (.Call (.Name "list" p) [.Call (.Name "range" p2) [a] [] pos2] [] pos) (dListRg fa) := by
  refine ⟨(pe_listRg hc hg hm (prg_1 hg2 hm2 ha.run (notStar hs)) (notStar rfl)).imp fun σ H Q ⟨T, H0, B, env, R, p⟩ => ⟨T, H0, B, env, R, p.bind.mono fun d v H1 s1 _ p1 rv => ?_⟩⟩
  cases d with
  | int j =>
    have p1 : EP0 X.KM W σ H1 (if decide (0 ≤ j) && decide (j ≤ 1000000) then RG.ok (D.lst ((List.range j.toNat).map fun (i : Nat) => D.int (i : Int))) else RG.bad) _ := p1
    by_cases hl : (decide (0 ≤ j) && decide (j ≤ 1000000)) = true
    · rw [if_pos hl] at p1
      simp only [Bool.and_eq_true, decide_eq_true_eq] at hl
      refine ⟨j, rv.int, .of_le (by decide) (by omega) (by decide) hl.1, fun q nq => p1 _ _ (same_new nq) ⟨q, rfl, Same.free s1 nq, _, upd_same, ?_⟩⟩
      unfold rgV
      rw [show (j - 0).toNat = j.toNat by simp]
      exact rps_range _
    · rw [if_neg hl] at p1
      exact p1.elim
  | _ => exact p1.elim
/-! ### sum(d.values()) -/
def tSumV (td : TE) : TE := fun σ H Q => td σ H fun x H1 => ∃ (d : Addr) (kvs : List (List Key × V)) (ns : List Int), x = .ref d ∧ Rd H1 d (.dT kvs) ∧ kvs.map (·.2) = ns.map V.int ∧ Q (.int ns.sum) H1
theorem sum_walk {prog : Program} {w : World} {A : Around} {E Q : Value → Shared → Prop} {s : Shared} {v d : Addr} {es : Array DictEntry} {ep : Nat} (hh : A.handled = none) (hv : s.heap.IsValuesView v d) (hm : s.heap.DictRaw d es ep) (ns : List Int) (hn : es.size = ns.length) (hval : ∀ i (hi : i < es.size), ∃ t n, es[i].val = .int n t ∧ ns[i]? = some n)
    (h : ∀ h' tk t', (∀ b o, s.heap.get? b = some o → h'.get? b = some o) → Q (.int ns.sum t') { s with heap := h', toks := tk }) : wpAny (model prog w) A (call (.builtin "sum") [.ref v]) Q E s := by
  have hd : d < s.heap.objs.size := let ⟨_, e, _⟩ := hm; Heap.lt_size e
  refine call_sum_walkAnyS (wpAny_pyIter_values_raw hv hm ?_)
  refine ⟨s.heap.objs.size, _, _, _, es.size, _, _, fun i => (ns[i]?).getD 0, rfl, (Walks.rawValues (A := A.in1) hh s.heap.objs.size d (Nat.ne_of_lt hd) es ep).toS, ⟨⟨_, Heap.get?_push_size _ rfl, rfl, rfl⟩, hm.at fun o e => Heap.get?_push_of_some _ e⟩, fun b hb => ?_, fun i v hi => ?_, fun s' t' mv => ?_⟩
  · show b < (s.heap.push _).objs.size
    rw [Heap.size_push]
    rcases List.mem_cons.mp hb with e | hb
    · rw [e]; exact Nat.lt_succ_self _
    · rw [List.mem_singleton.mp hb]; exact Nat.lt_succ_of_lt hd
  · obtain ⟨hi, rfl⟩ := hi
    obtain ⟨t, n, e1, e2⟩ := hval i hi
    exact ⟨t, by rw [e1]; show Value.int n t = Value.int ((ns[i]?).getD 0) t; rw [e2]; rfl⟩
  · have hk : ∀ b o, s.heap.get? b = some o → s'.heap.get? b = some o := fun b o e =>
      mv.heap b o (fun hI => absurd (Heap.lt_size e) (by rw [List.mem_singleton.mp hI]; exact Nat.lt_irrefl _)) (Heap.get?_push_of_some _ e)
    have hs : preSum (fun i => (ns[i]?).getD 0) es.size = ns.sum := by
      have := preSum_list (h := fun | .int i => i | _ => 0) (ns.map V.int) (fun j => (ns[j]?).getD 0) (fun i x hx => by
        rw [List.getElem?_map] at hx
        cases e : ns[i]? with
        | none => rw [e] at hx; cases hx
        | some n => rw [e] at hx; cases hx; rfl) ns.length (by simp)
      rw [hn, this, ← List.map_take, List.map_map, List.take_length]
      congr 1
      exact List.map_id' ns
    rw [hs, Moved.eq_with mv]
    exact h s'.heap s'.toks t' hk
theorem pe_sumV {p0 apos cpos pos : Pos} (hc : X.calm = true) (hgs : Gl X "sum") (hms : X.mg "sum" = none) (he : PE X e td) (hbase : attributeBase e "values" X.env (eval e X.env) = eval e X.env) (hline : (apos.endLine == cpos.line) = true)
    (hs1 : starEach [.Call (.Attribute e "values" apos) [] [] cpos] X.env = (false, eval (.Call (.Attribute e "values" apos) [] [] cpos) X.env) :: starEach [] X.env := by rfl) (hp1 : (backTo pos (starEach [] X.env)).any (·.1) = false := by rfl) :
    PE X (.Call (.Name "sum" p0) [.Call (.Attribute e "values" apos) [] [] cpos] [] pos) (tSumV td) := by
  refine ⟨fun pins s σ H Q I h => ?_⟩
  refine wpAny_Call_Name_kw (ld_blt I hgs hms boot_sum ?_)
  refine PyProof.Rows.callWith_builtin1 ?_ hs1 hp1
  rw [hs1]
  show wpAny _ _ (spliced ((false, eval (.Call (.Attribute e "values" apos) [] [] cpos) X.env) :: backTo pos (starEach [] X.env))) _ _ s
  refine Calls.spliced_cons ?_
  refine wpAny_Call_method (T := "dict") (id := "dict.values") hbase rfl hline F.plainAttrs_dict F.slot_dict_values F.type_dict_values (thn (he.run pins s σ H _ I h) fun u s1 ⟨x, H1, I1, rx, d, kvs, ns, ex, hd, hv, q⟩ => ?_)
  subst ex
  obtain rfl : u = Value.ref d := rx
  obtain ⟨z, hs, ks, pr, o, es, ep, ho, hx, hdt, hent, hn⟩ := (show ObjOk X.prog X.w H1 s1.heap d (.dT kvs) from hd.ok I1.hok)
  have raw : s1.heap.DictRaw d es ep := ⟨o, ho, hx, hdt⟩
  have l1 : es.size = ks.length := size_of_entries hent
  have l2 : kvs.length = ks.length := Paired.length pr
  have l3 : kvs.length = ns.length := by have := congrArg List.length hv; simpa using this
  have val : ∀ i (hi : i < es.size), ∃ t n, es[i].val = .int n t ∧ ns[i]? = some n := fun i hi => by
    obtain ⟨kv, hkv⟩ : ∃ kv, kvs[i]? = some kv := ⟨kvs[i]'(by omega), List.getElem?_eq_getElem (by omega)⟩
    obtain ⟨k, hk, _, _, rel⟩ := paired_get pr hkv
    obtain ⟨n, hn'⟩ : ∃ n, ns[i]? = some n := ⟨ns[i]'(by omega), List.getElem?_eq_getElem (by omega)⟩
    have e1 := entry_at hent i
    rw [hk, Array.getElem?_eq_getElem hi] at e1
    have e1 : es[i] = entryOfKey (tupleKind (mixKind X.prog X.w)) k := Option.some.inj e1
    have e2 : kv.2 = V.int n := by
      have : (kvs.map (·.2))[i]? = (ns.map V.int)[i]? := by rw [hv]
      rw [List.getElem?_map, List.getElem?_map, hkv, hn'] at this
      exact Option.some.inj this
    rw [e2] at rel
    obtain ⟨t, ht⟩ := rel
    exact ⟨t, n, by rw [e1]; exact ht, hn'⟩
  refine ⟨raw.typeIs, ?_, ?_⟩
  · intro b hb
    cases hb
    exact ⟨o, ho, hx.2.1⟩
  have I2 : Inv X pins σ H1 { s1 with heap := s1.heap.push { cls := .type "dict_values", data := .fields #[.ref d] } } := I1.kept (t' := s1.toks) fun b ob q => Heap.get?_push_of_some _ q
  show wpAny _ _ (callWith cpos (.builtin "dict.values") [.ref d] [] []) _ X.xe s1
  refine method_meetsIn F.slot_dict_values F.entry_dict_values rfl (PySem.evalArgs_none ⟨rfl, raw.typeIs, F.args_dict_values_1 _, _, meets_dict_values_raw d hs, ⟨es, ep, raw⟩, ?_⟩)
  refine Calls.spliced_nil ?_
  refine sum_walk (d := d) (I2.ok.hd hc) ⟨_, Heap.get?_push_size _ rfl, rfl, rfl⟩ (raw.at fun o e => Heap.get?_push_of_some _ e) ns (by omega) val fun h' tk t' hk => ?_
  exact ⟨.int _, H1, I2.kept (t' := tk) hk, ⟨t', rfl⟩, q⟩
def dSumV (f : DX) : DX := fun env => (f env).bind fun d => match d with
  | .dic true _ ws => .ofO ((intsOf ws).map fun ns => D.int ns.sum)
  | _ => .bad
theorem ve_sumV {p0 apos cpos pos : Pos} (hc : X.calm = true) (hgs : Gl X "sum") (hms : X.mg "sum" = none) (he : VE X W md st nw e f) (hbase : attributeBase e "values" X.env (eval e X.env) = eval e X.env) (hline : (apos.endLine == cpos.line) = true) :
    VE X W md true true (.Call (.Name "sum" p0) [.Call (.Attribute e "values" apos) [] [] cpos] [] pos) (dSumV f) := by
  refine ⟨(pe_sumV hc hgs hms he.run hbase hline).imp fun σ H Q ⟨T, H0, B, env, R, p⟩ => ⟨T, H0, B, env, R, p.bind.mono fun d v H1 s1 _ p1 r1 => ?_⟩⟩
  cases d with
  | dic t ks ws =>
    cases t with
    | false => exact p1.elim
    | true =>
      obtain ⟨l, vs, rfl, h, r⟩ := r1.dic
      have p1 : EP0 X.KM W σ H1 (RG.ofO ((intsOf ws).map fun ns => D.int ns.sum)) fun d v H' => Rk true (X.KM.at T) H' (Avd md σ env T H0 true) v d → Q v H' := p1
      cases ei : intsOf ws with
      | none => rw [ei] at p1; exact p1.elim
      | some ns =>
        rw [ei] at p1
        rw [intsOf_eq ei] at r
        obtain ⟨kvs, e, _, ev⟩ := h
        exact ⟨l, kvs, ns, rfl, e, by rw [← r.ints, ev], p1 _ _ (Same.refl _) (.of (Rp.int.mpr rfl))⟩
  | _ => exact p1.elim
end
end Dl
/-! Dl10p: x[k].append(e) of a told tuple: x is forgotten. -/
namespace Dl
open PySem PySem.Spec PyProof.Rows L2
section
variable {K : KM} {md : Mds} {T : TL} {H0 B H H' : Hp} {σ : L2.St} {env : DEnv}
theorem Rel.updDeepN (R : Rel K md T H0 B H σ env) {i : Nat} {a : Addr} {u o : HO} {d : D} (hp : (mdAt md i).dp ≠ 0) (hp3 : (mdAt md i).dp < 3) (ei : env[i]? = some (some d)) (hT : T a) (nB : B a = none) (hu : H a = some u) (mu : isMutO u = true) (mo : isMutO o = true) : Rel K md T H0 B (L2.upd H a o) σ (env.set i none) := by
  have ho := own_no R.st hp
  have c : ∀ nw, Carry (K.at T) H (L2.upd H a o) (Avd md σ env T H0 nw) (Avd md σ env T H0 nw) := fun nw => carry_upd hu mu (.inr (.inl hT))
  refine ⟨R.s0, fun b w eb => ?_, fun b hb => ?_, by simp [R.len], fun j d2 e hd => ?_, fun j b o => R.out j b ((ownAt_env ho).mp o), fun j k b o o' => R.sep j k b ((ownAt_env ho).mp o) ((ownAt_env ho).mp o'), fun j b o => R.tO j b ((ownAt_env ho).mp o), R.st, fun b hb hn => ?_, fun j d2 e hd h3 => ?_, fun j d2 e hd => absurd hd (no3 R.st hp hp3 j)⟩
  · have : b ≠ a := fun z => by subst z; rw [nB] at eb; cases eb
    rw [upd_ne this]
    exact R.sB b w eb
  · by_cases z : b = a
    · subst z; exact ⟨o, upd_same⟩
    · obtain ⟨w, ew⟩ := R.tB b hb
      exact ⟨w, by rw [upd_ne z]; exact ew⟩
  · rw [avd_env ho]
    have hj : j ≠ i := fun z => by subst z; exact hp hd
    rw [List.getElem?_set_ne (Ne.symm hj)] at e
    obtain ⟨v, ev, q⟩ := R.slot j d2 e hd
    refine ⟨v, ev, ?_⟩
    unfold SlotOk at *
    split at q
    · next h =>
      rw [if_pos h]
      refine q.carry (c _) fun b w e1 hl ew => ?_
      subst e1
      have : b ≠ a := fun y => by
        subst y
        exact R.tO j b ⟨h, ⟨d2, e, hl⟩, ev⟩ hT
      rw [upd_ne this]
      exact ew
    · next h => rw [if_neg h]; exact Rp.carry (c _) d2 v q
  · by_cases z : b = a
    · subst z; exact ⟨o, upd_same, mo⟩
    · obtain ⟨w, ew, mw⟩ := R.tM b hb hn
      exact ⟨w, by rw [upd_ne z]; exact ew, mw⟩
  · have : j = i := R.st.one j i hd hp
    subst this
    exact absurd rfl (kill_lookup e).1
end
section
variable {X : Cx} {W : WX} {md : Mds} {fr st nw sa na sb nb : Bool} {e a b tg : Expr} {f fa fb fe : DX} {pos : Pos} {es : List Expr} {fs : DXs} {g : DS} {i : Nat} {x : Str}
def dAtT (i : Nat) (fk : DX) (go : List D → List D → DS) : DS := fun env => match env[i]? with
  | some (some (.tup ds)) => (fk env).out env fun k => match k with
    | .int j => (match atI ds j with
      | some (.lst w) => go ds w env
      | _ => .bad)
    | _ => .bad
  | _ => .bad
def dAppT (i : Nat) (fk fe : DX) : DS := dAtT i fk fun ds w env => (fe env).out env fun _ => if w.length < sizeLine then .nx (env.set i none) else .bad
theorem atT {K : KF} {H : Hp} {S : Pred} {v : V} {ds w : List D} {j : Int} (h : DpOk K H S 1 v (.tup ds)) (e : atI ds j = some (.lst w)) : ∃ a vs l us, v = .ref a ∧ H a = some (.tup vs) ∧ atI vs j = some (.ref l) ∧ S l ∧ H l = some (.lst us) ∧ us.length = w.length := by
  rcases h with h | ⟨n, a, vs, e, _⟩
  · obtain ⟨a, vs, rfl, ea, r⟩ := Rp.tup.mp h
    obtain ⟨u, eu, q⟩ := r.atI e
    obtain ⟨l, us, rfl, nl, el, rl⟩ := Rp.lst.mp q
    exact ⟨a, vs, l, us, rfl, ea, eu, Classical.not_not.mp nl, el, rl.length⟩
  · cases e
theorem vs_appT {p2 spos apos cpos : Pos} (hu : X.A.units + 1 < cLine) (hN : X.N[i]? = some x) (hv : Vis X.env.scope x) (hd : (x == ("__debug__" : Str)) = false) (hcd : (x == ("__classdict__" : Str)) = false) (hp : (mdAt md i).dp = 1)
    (hb : VE X W md sb nb b fb) (hix : PlainIx b) (he : VE X W md st nw e fe) (hs : starless e = true) (hbase : attributeBase (.Subscript (.Name x p2) b spos) "append" X.env (eval (.Subscript (.Name x p2) b spos) X.env) = eval (.Subscript (.Name x p2) b spos) X.env) (hline : (apos.endLine == cpos.line) = true) :
    VS X W md fr (.Expr (.Call (.Attribute (.Subscript (.Name x p2) b spos) "append" apos) [e] [] cpos) pos) (dAppT i fb fe) := by
  refine ⟨(ps_expr (pe_bm PySem.F.plainAttrs_list PySem.F.slot_list_append PySem.F.type_list_append mt_append (pe_ix (ix_any hu) (pe_var hN hv hd hcd) hb.run hix) (pa_cons he.run pa_nil (notStar hs)) hbase (by rw [notStar hs]; rfl) hline (notStar hs) (backTo_any rfl)) rfl).imp fun D σ H ⟨T0, T, H0, B, env, t0, R, q⟩ => ?_⟩
  have hp0 : (mdAt md i).dp ≠ 0 := by rw [hp]; decide
  unfold dAppT dAtT at q
  cases ee : env[i]? with
  | none => rw [ee] at q; exact q.elim
  | some o =>
  cases o with
  | none => rw [ee] at q; exact q.elim
  | some d =>
  rw [ee] at q
  cases d with
  | tup ds =>
    obtain ⟨v, ev, _⟩ := R.deep i _ ee hp0 (by rw [hp]; decide)
    refine ⟨v, ev, T, H0, B, env, R, (out_of t0 R q).mono fun dk k H1 s1 _ q1 r1 => ?_⟩
    have R1 := R.same s1
    cases dk with
    | int j =>
      have q1 : SP0 X.KM W md fr T0 H0 B (match atI ds j with
        | some (.lst w) => (fe env).out env fun _ => if w.length < sizeLine then .nx (env.set i none) else .bad
        | _ => .bad) D := q1
      cases ea : atI ds j with
      | none => rw [ea] at q1; exact q1.elim
      | some dw =>
        rw [ea] at q1
        cases dw with
        | lst w =>
          obtain ⟨v', ev', qd⟩ := R1.deep i _ ee hp0 (by rw [hp]; decide)
          rw [ev] at ev'
          cases ev'
          rw [hp] at qd
          obtain ⟨a, vs, l, us, rfl, eva, el, sl, eul, lul⟩ := atT qd ea
          have q1 : SP0 X.KM W md fr T0 H0 B ((fe env).out env fun _ => if w.length < sizeLine then .nx (env.set i none) else .bad) D := q1
          have ek : k = .int j := r1.int
          refine .inl (.inr (.inl ⟨a, vs, j, .ref l, rfl, ek, SqT.of eva, el, .inl ⟨rfl, us, SqL.of eul⟩, T, H0, B, env, R1, (out_of t0 R1 q1).mono fun dv vv H2 s2 _ q2 r2 => ?_⟩))
          have R2 := R1.same s2
          by_cases hz : w.length < sizeLine
          case neg => rw [if_neg hz] at q2; exact q2.elim
          rw [if_pos hz] at q2
          have eul2 : H2 l = some (.lst us) := s2 _ _ eul
          have q2 : ∀ T σ' H', TIn (hasW md) T0 B T → Rel X.KM md T H0 B H' σ' (env.set i none) → D.nx σ' H' := q2
          refine ⟨l, us, vv, rfl, rfl, eul2, by rw [lul]; exact hz, q2 T σ _ t0 (R2.updDeepN hp0 (by rw [hp]; decide) ee sl.1 sl.2 eul2 rfl rfl)⟩
        | _ => exact q1.elim
    | _ => exact q1.elim
  | _ => exact q.elim
end
end Dl
/-! Dl10q: a tuple of new lists, told and unpacked into own slots. -/
namespace Dl
open PySem PySem.Spec PyProof.Rows L2
theorem AlVs.nil {K : KF} {H H' : Hp} : AlVs K H H' [] [] := ⟨[], [], rfl, rfl, .nil, rfl, fun j b w e => by cases e⟩
def dAlL (f : DX) : DX := fun env => (f env).bind fun d => match d with
  | .lst w => if imms w then .ok (.lst w) else .bad
  | _ => .bad
def dAls (f : DX) (fs : DXs) : DXs := fun env => (dAlL f env).bind fun x => (fs env).bind fun xs => .ok (x :: xs)
section
variable {X : Cx} {W : WX} {md : Mds} {st nw fr : Bool} {e : Expr} {es : List Expr} {f : DX} {fs : DXs} {pos : Pos} {T0 T : TL} {H0 B H H' : Hp} {σ : L2.St} {env : DEnv}
/-! ### the def: return (.., ..) -/
/-! ### unpacked -/
def cutH (H : Hp) (bs : List Addr) : Hp := fun a => if a ∈ bs then none else H a
theorem cutH_out {bs : List Addr} {a : Addr} (h : a ∉ bs) : cutH H bs a = H a := if_neg h
def setVs : L2.St → List Nat → List Addr → L2.St
  | σ, i :: is, b :: bs => setVs (σ.set i (some (.ref b))) is bs
  | σ, _, _ => σ
def setDs : DEnv → List Nat → List D → DEnv
  | env, i :: is, d :: ds => setDs (env.set i (some d)) is ds
  | env, _, _ => env
theorem setOwnAll {K : KM} : ∀ (is : List Nat) (bs : List Addr) (ws : List (List D)) {σ : L2.St} {env : DEnv}, is.length = bs.length → bs.length = ws.length → bs.Nodup → (∀ i ∈ is, (mdAt md i).own = true) → Rel K md T H0 B (cutH H' bs) σ env →
    (∀ (j : Nat) (b : Addr) (w : List D), bs[j]? = some b → ws[j]? = some w → imms w = true ∧ ∃ us, H' b = some (.lst us) ∧ Rps (K.at T) H' (fun _ => False) us w) → Rel K md T H0 B H' (setVs σ is bs) (setDs env is (ws.map D.lst))
  | [], [], ws, σ, env, _, _, _, _, R, _ => by
    have : cutH H' [] = H' := by funext a; exact if_neg (by simp)
    rw [this] at R
    cases ws <;> exact R
  | i :: is, b :: bs, w :: ws, σ, env, h1, h2, nd, ho, R, all => by
    obtain ⟨n1, n2⟩ := List.nodup_cons.mp nd
    obtain ⟨im, us, eb, ru⟩ := all 0 b w rfl rfl
    have at_ : ∀ {a : Addr} {o : HO}, H' a = some o → (∀ us, o ≠ .lst us) → cutH H' bs a = some o := fun {a o} e ne => by
      rw [cutH_out]
      · exact e
      · intro z
        obtain ⟨j, hj⟩ := List.getElem?_of_mem z
        have hl : j < ws.length := by
          have := (List.getElem?_eq_some_iff.mp hj).1
          simp at h2
          omega
        obtain ⟨_, us', e', _⟩ := all (j + 1) a ws[j] hj (List.getElem?_eq_getElem hl)
        rw [e] at e'
        cases e'
        exact ne _ rfl
    have c : Carry (K.at T) H' (cutH H' bs) (fun a => a ∈ bs) (fun _ => False) := by
      refine ⟨fun a xs e => at_ e (fun _ z => by cases z), fun a xs e => ?_, fun a xs e => ?_, fun a xs na e => ⟨fun z => z, by rw [cutH_out na]; exact e⟩, fun a u na e => ⟨fun z => z, ?_⟩⟩
      · rcases e with e | e
        · rcases e with e | ⟨o, e⟩
          · exact .inl (.inl (at_ e fun _ z => by cases z))
          · exact .inl (.inr ⟨o, at_ e fun _ z => by cases z⟩)
        · exact .inr e
      · rcases e with ⟨o, e⟩ | e
        · exact .inl ⟨o, at_ e fun _ z => by cases z⟩
        · exact .inr e
      · rcases e with e | ⟨o, e⟩
        · exact .inl (by rw [cutH_out na]; exact e)
        · exact .inr ⟨o, by rw [cutH_out na]; exact e⟩
    have ru2 : Rps (K.at T) (cutH H' bs) (fun _ => False) us w := Rps.carry c _ _ (Rps.imm (A' := fun a => a ∈ bs) _ _ ru im)
    have s : Same (cutH H' (b :: bs)) (cutH H' bs) := fun a o e => by
      unfold cutH at e ⊢
      by_cases z : a ∈ b :: bs
      · rw [if_pos z] at e; cases e
      · rw [if_neg z] at e
        rw [if_neg fun y => z (List.mem_cons_of_mem _ y)]
        exact e
    have nb : cutH H' (b :: bs) b = none := if_pos List.mem_cons_self
    have R1 := R.setOwn (nw := true) (d := .lst w) s (ho i List.mem_cons_self) (by cases (mdAt md i).nw <;> rfl) nb ⟨us, by rw [cutH_out n1]; exact eb, Rps.imm _ _ ru2 im⟩
    exact setOwnAll is bs ws (by simpa using h1) (by simpa using h2) n2 (fun j hj => ho j (List.mem_cons_of_mem _ hj)) R1 fun j c u hc hu => all (j + 1) c u hc hu
def dUnpA (is : List Nat) (g : DF') (fs : DXs) : DS := fun env => ((fs env).bind g).out env fun d => match d with
  | .tup ds => if ds.length = is.length then .nx (setDs env is ds) else .bad
  | _ => .bad
def gNames : List Nat → TGs
  | [] => gNil
  | i :: is => gCons (gName i) (gNames is)
theorem gNames_of : ∀ (is : List Nat) (bs : List Addr) (σ : L2.St) (H : Hp) (Q : L2.St → Hp → Prop), bs.length = is.length → Q (setVs σ is bs) H → gNames is (bs.map V.ref) σ H Q
  | [], [], σ, H, Q, _, h => ⟨rfl, h⟩
  | i :: is, b :: bs, σ, H, Q, l, h => ⟨_, _, rfl, gNames_of is bs _ H Q (by simpa using l) h⟩
theorem unpA_reading {ar : Nat} {g : DF'} {D : Ends} {is : List Nat} (hl : ∀ env ds, fs env = .ok ds → ds.length = ar) (ho : ∀ i ∈ is, (mdAt md i).own = true) (w : tS X.KM W md fr (dUnpA is g fs) D σ H) :
    tCallS (spA X.KM ar g) (WE W) (tDs X.KM W md st nw fs) σ H fun v H' => gTup X.K is.length (gNames is) v σ H' D.nx := by
  obtain ⟨T0, T, H0, B, env, t0, R, p⟩ := w
  have p : EP0 (β := V) X.KM W σ H ((fs env).bind g) fun d _ H' => SP0 X.KM W md fr T0 H0 B (match d with
    | .tup ds => if ds.length = is.length then .nx (setDs env is ds) else .bad
    | _ => .bad) D := out_of t0 R p
  refine ⟨T, H0, B, env, R, p.bind.mono fun ds vs H1 s1 eq p1 r => ⟨⟨fun _ => False, T.l⟩, ds, fun _ z => z.elim, r.free, hl env ds eq, ?_⟩⟩
  have R1 := R.same s1
  cases e : g ds with
  | ok d =>
    rw [e] at p1
    intro v H' s al
    obtain ⟨a, vs', ds', rfl, rfl, ea, bs, ws, rfl, rfl, nd, ln, all⟩ := al
    have p1 := p1 (.ref a) H' s
    have p1 : SP0 X.KM W md fr T0 H0 B (if (ws.map Dl.D.lst).length = is.length then .nx (setDs env is (ws.map Dl.D.lst)) else .bad) D := p1
    by_cases z : (ws.map Dl.D.lst).length = is.length
    case neg => rw [if_neg z] at p1; exact p1.elim
    rw [if_pos z] at p1
    rw [List.length_map] at z
    have sc : Same H1 (cutH H' bs) := fun c o eo => by
      rw [cutH_out]
      · exact s _ _ eo
      · intro y
        obtain ⟨j, hj⟩ := List.getElem?_of_mem y
        have hjl : j < ws.length := by rw [← ln]; exact (List.getElem?_eq_some_iff.mp hj).1
        obtain ⟨n1, _⟩ := all j c ws[j] hj (List.getElem?_eq_getElem hjl)
        rw [eo] at n1
        cases n1
    refine ⟨a, bs.map V.ref, rfl, SqT.of ea, by rw [List.length_map]; omega, gNames_of is bs σ H' D.nx (by omega) (p1 T _ H' t0 ?_)⟩
    refine setOwnAll is bs ws (by omega) ln nd ho (R1.same sc) fun j b w hb hw => ?_
    obtain ⟨_, n2, us, n3, n4⟩ := all j b w hb hw
    exact ⟨n2, us, n3, n4⟩
  | exc c fs => rw [e] at p1; exact p1
  | bad => rw [e] at p1; exact p1
theorem vs_unpA {k n : Nat} {F : AEnt} {p spos tpos : Pos} {is : List Nat} {tes : List Expr} (hc : X.calm = true) (hg' : PGs X tes (gNames is)) (hn : (assignEach tes X.env).length = is.length) (hst : (assignEach tes X.env).findIdx? (·.1) = none)
    (ho : ∀ i ∈ is, (mdAt md i).own = true) (hF : AAt X k F) (hr : Room k X.A) (hg : Gl X F.name) (tk : Takes X W) (ha : VA X W md st nw (e :: es) fs) (hl : ∀ env ds, fs env = .ok ds → ds.length = F.ar)
    (hdb : (F.name == ("__debug__" : Str)) = false) (hs : (e :: es).all starless = true) (hsw : swapsWithSole [.Tuple tes n tpos] (.Call (.Name F.name p) (e :: es) [] pos) spos.line X.env = pure false) (hw : swappedStores [.Tuple tes n tpos] (.Call (.Name F.name p) (e :: es) [] pos) X.env = pure none)
    (h1 : (assignEach [.Tuple tes n tpos] X.env).map (·.2) = [assign (.Tuple tes n tpos) X.env]) : VS X W md fr (.Assign [.Tuple tes n tpos] (.Call (.Name F.name p) (e :: es) [] pos) spos) (dUnpA is F.den fs) := by
  obtain ⟨f, fd, ps, ok, hm, hk, hb⟩ := hF.ex
  rw [List.all_cons, Bool.and_eq_true] at hs
  exact ⟨(ps_asg (pe_callS ok hr hg hm hk hb (fun σ => passAt tk σ) ha.run hdb (notStar hs.1) (backTo_any hs.2)) (pg_tup hc hg' hn hst) hsw hw h1).imp fun D σ H w => unpA_reading hl ho w⟩
end
end Dl
/-! Dl10r: a dict of lists that only one slot reaches is told. -/
namespace Dl
open PySem PySem.Spec PyProof.Rows L2
section
variable {X : Cx} {W : WX} {md : Mds} {i : Nat} {x : Str} {pos p2 : Pos}
theorem vs_retD (hN : X.N[i]? = some x) (hv : Vis X.env.scope x) (hd : (x == ("__debug__" : Str)) = false) (hcd : (x == ("__classdict__" : Str)) = false) (hp : (mdAt md i).dp = 2) (hW : hasW md = false) :
    VS X W md true (.Return (some (.Name x p2)) pos) (dRet (dVar i)) :=
  ⟨(ps_ret (pe_var hN hv hd hcd)).imp fun D σ H ⟨T0, T, H0, B, env, t0, R, p⟩ => by
    unfold dRet dVar at p
    cases e : env[i]? with
    | none => rw [e] at p; exact p.elim
    | some o =>
      cases o with
      | none => rw [e] at p; exact p.elim
      | some d =>
        rw [e] at p
        obtain ⟨v, ev, ad, kvs, bs, ws, rfl, sp, hk, rfl, hv', nd, hl, hw⟩ := R.deep2 hp e
        have nold : ∀ a, B a = none → ¬ ∃ o, H0 a = some o := fun a nb ⟨o, eo⟩ => by
          obtain ⟨u, eu⟩ := R.s0 _ _ eo
          rw [nb] at eu
          cases eu
        have go : ∀ {bs : List Addr} {ws : List (List Dl.D)}, bs.length = ws.length → (∀ (j : Nat) (b : Addr) (w : List Dl.D), bs[j]? = some b → ws[j]? = some w → b ≠ ad ∧ B b = none ∧ imms w = true ∧ ∃ us, H b = some (.lst us) ∧ Rps (X.KM.at T) H (fun _ => False) us w) → Rps (X.KM.at T) H (fun a => (∃ o, H0 a = some o) ∨ a = ad) (bs.map V.ref) (ws.map Dl.D.lst) := by
          intro bs
          induction bs with
          | nil => intro ws hl _; cases ws with | nil => exact .nil | cons _ _ => cases hl
          | cons b bs ih =>
            intro ws hl h
            cases ws with
            | nil => cases hl
            | cons w ws =>
              obtain ⟨ne, sb, im, us, eb, r⟩ := h 0 b w rfl rfl
              exact .cons (Rp.lst.mpr ⟨b, us, rfl, fun z => z.elim (nold b sb) ne, eb, Rps.imm _ _ r im⟩) (ih (by simpa using hl) fun k b' w' h1 h2 => h (k + 1) b' w' h1 h2)
        refine ⟨_, ev, p T _ H t0 R.sB (frm t0 hW (show Rpf (X.KM.at T) H (fun a => ∃ o, H0 a = some o) (.ref ad) (.dic true (kvs.map tupK) (ws.map Dl.D.lst)) from ⟨ad, rfl, nold ad sp.2, bs.map V.ref, ⟨kvs, hk, rfl, hv'⟩, go hl fun j b w h1 h2 => ?_⟩))⟩
        obtain ⟨sb, im, us, eb, r⟩ := hw j b w h1 h2
        exact ⟨fun y => (List.nodup_cons.mp nd).1 (by subst y; exact List.mem_of_getElem? h1), sb.2, im, us, eb, r⟩⟩
end
end Dl
/-! Dl11: the reader. -/
namespace Dl
open PySem PySem.Spec PyProof.Rows L2 RZ RT
/-! ### within a comprehension -/
def relC (scope sc : Scope) : Scope := { scope with names := scope.names.map fun (n, k) => if (k == .free && sc.kind == .function && sc.names.lookup n == some .cell) then (n, .cell) else (n, k) }
def Cfg.blk (C : Cfg) (scope : Scope) : Cfg := { C with sc := relC scope C.sc, fn := fun x => scope.names.lookup x == some .cell, tr := false }
theorem COk.blk {C : Cfg} {X : Cx} {W : WX} (h : COk C X W) {scope : Scope} (hk : scope.kind = .function) (s : Shared) (H : Hp) (D : Addr) (cl : List (Str × Addr)) (fp : List Addr) : COk (C.blk scope) (X.blk s H scope (compEnvC scope cl D X.env) fp) W0 where
  n := h.n
  nd := h.nd
  sc := by
    show relabel scope X.env = relC scope C.sc
    unfold relabel relC Env.kindOf
    rw [h.sc]
  calm := h.calm
  room := h.room
  blt := h.blt
  fns := fun F hF => ⟨(h.fns F hF).ex⟩
  cons := fun p hp => ⟨(h.cons p hp).ex⟩
  tk := takes0
  po := PassesOwn.never
  fn := fun x hx => hx
  kd := hk
  exs := h.exs
  tr := fun z => nomatch z
  wf := fun F hF => ⟨(h.wf F hF).ex⟩
  af := fun F hF => ⟨(h.af F hF).ex⟩
section
variable (r : Rec) (C : Cfg)
theorem _root_.Dl.COk.glm {C : Cfg} {X : Cx} {W : WX} (h : COk C X W) {x : Str} (hb : bltOk C x = true) : Gl X x ∧ X.mg x = none := by
  unfold bltOk at hb
  simp only [Bool.and_eq_true] at hb
  exact ⟨h.gl hb.1, h.blt x (by simpa using hb.2.1)⟩
def Cfg.setMd (C : Cfg) (md : Mds) : Cfg := { C with md := md }
theorem COk.setMd {C : Cfg} {X : Cx} {W : WX} (h : COk C X W) (md : Mds) : COk (C.setMd md) X W := ⟨h.n, h.nd, h.sc, h.calm, h.room, h.blt, h.fns, h.cons, h.tk, h.po, h.fn, h.kd, h.exs, h.tr, h.wf, h.af⟩
/-! ### values -/
def RE.imm {C : Cfg} {e : Expr} (x : RE C e) (n : Bool) : RE C e := if n && !x.nw then ⟨true, true, dImm x.f, fun X W h => (x.ok X W h).imm⟩ else x
def cIfE (c a b : Expr) (pos : Pos) : Option (RE C (.IfExp c a b pos)) := match r.t C c, r.e C a, r.e C b with
  | some x, some y, some z => some ⟨y.st && z.st, y.nw && z.nw, dIf x.f y.f z.f, fun X W h => ve_if (x.ok X W h) ((y.ok X W h).to and_l and_l) ((z.ok X W h).to and_r and_r)⟩
  | _, _, _ => none
def cTup (es : List Expr) (k : Nat) (pos : Pos) : Option (RE C (.Tuple es k pos)) := match cArgs r C es with
  | some a => if hs : a.st = true then some ⟨true, a.nw, dTup a.f, fun X W h => ve_tup ((a.ok X W h).to (by rw [hs]; rfl) (by cases a.nw <;> rfl))⟩ else none
  | none => none
def cCallE (x : Str) (p : Pos) (es : List Expr) (pos : Pos) : Option (RE C (.Call (.Name x p) es [] pos)) := match es with
  | [e, .Name y p2] => if hx : x = ("isinstance" : Str) then (match cInst r C p e y p2 pos with
      | some i => some ⟨i.st, i.nw, i.f, fun X W h => by rw [hx]; exact i.ok X W h⟩
      | none => none) else cCall r C x p [e, .Name y p2] pos
  | [e] => (match r.e C e with
    | none => none
    | some v => if hb : bltOk C x = true ∧ starless e = true then
      (if h1 : x = ("max" : Str) then some ⟨true, true, dCallO gMaxA (dCons v.f dNil), fun X W h => by subst h1; exact ve_bltS ((cr_max h.calm).or (cr_maxD h.calm (by have := h.room.un; omega))) cd_maxA sc_maxA (h.bltAt hb.1 (by decide +kernel)) (va_cons (v.ok X W h) va_nil (notStar hb.2)) (by rw [List.all_cons, hb.2]; rfl)⟩
      else if h1 : x = ("min" : Str) then some ⟨true, true, dCallO gMinA (dCons v.f dNil), fun X W h => by subst h1; exact ve_bltS ((cr_min h.calm).or (cr_minD h.calm (by have := h.room.un; omega))) cd_minA sc_minA (h.bltAt hb.1 (by decide +kernel)) (va_cons (v.ok X W h) va_nil (notStar hb.2)) (by rw [List.all_cons, hb.2]; rfl)⟩
      else if h1 : x = ("int" : Str) then some ⟨true, true, dCallO gInt (dCons v.f dNil), fun X W h => by subst h1; exact ve_btyS call_int1 cd_int sc_int (h.bltAt hb.1 (by decide +kernel)) (va_cons (v.ok X W h) va_nil (notStar hb.2)) (by rw [List.all_cons, hb.2]; rfl)⟩
      else cCall r C x p [e] pos) else cCall r C x p [e] pos)
  | es => cCall r C x p es pos
/-- d.get(k, e) -/
def cGet (x : Str) (p : Pos) (at_ : Str) (apos : Pos) (a b : Expr) (cpos : Pos) : Option (RE C (.Call (.Attribute (.Name x p) at_ apos) [a, b] [] cpos)) := match r.e C (.Name x p), r.e C a, r.e C b with
  | some o, some k, some d => if hc : at_ = ("get" : Str) ∧ d.st = true ∧ starless a = true ∧ starless b = true ∧ (apos.endLine == cpos.line) = true then
      some ⟨true, o.nw && d.nw, dGet o.f k.f d.f, fun X W h => by
        rw [hc.1]
        exact ve_get (by have := h.room.un; omega) (o.ok X W h) (k.ok X W h) ((d.ok X W h).to (by rw [hc.2.1]; rfl) (by cases d.nw <;> rfl)) hc.2.2.1 hc.2.2.2.1 rfl hc.2.2.2.2⟩ else none
  | _, _, _ => none
/-- an entry of a dict of the module -/
def cKIx (a b : Expr) (pos : Pos) : Option (RE C (.Subscript a b pos)) := match a with
  | .Name x px => (match slot C x with
    | some _ => none
    | none => (match hc : C.cons.find? (fun p => decide (p.1 = x)) with
      | some p => (match hd : p.2 with
        | .dic t ks ws => if hp : plainIx b = true ∧ isGl (lk C x) = true ∧ okNm x = true then (match r.e C b with
            | some v => some ⟨true, true, dUn (gKIx ks ws) v.f, fun X W h => ve_kix (hd ▸ find_con C hc h) (h.gl hp.2.1) (okNm1 hp.2.2) (v.ok X W h) (plainIx_ok hp.1)⟩
            | none => none) else none
        | _ => none)
      | none => none))
  | _ => none
def strsD : List D → Option (List Str)
  | [] => some []
  | .str z :: r => (strsD r).map (z :: ·)
  | _ => none
theorem strsD_ok : ∀ {ds : List D} {ys : List Str}, strsD ds = some ys → ds = ys.map D.str
  | [], ys, h => by cases h; rfl
  | d :: r, ys, h => by
    cases d with
    | str z =>
      unfold strsD at h
      cases e : strsD r with
      | none => rw [e] at h; cases h
      | some zs => rw [e] at h; cases h; rw [strsD_ok e]; rfl
    | _ => cases h
/-- t.index(e), t a tuple of texts of the module -/
def cTIndex (x : Str) (px : Pos) (at_ : Str) (apos : Pos) (a : Expr) (cpos : Pos) : Option (RE C (.Call (.Attribute (.Name x px) at_ apos) [a] [] cpos)) := match slot C x with
  | some _ => none
  | none => (match hc : C.cons.find? (fun p => decide (p.1 = x)) with
    | some p => (match hd : p.2 with
      | .ktp ds => (match hs : strsD ds, r.e C a with
        | some ys, some v => if hp : (at_ = ("index" : Str) ∧ starless a = true) ∧ (apos.endLine == cpos.line) = true ∧ isGl (lk C x) = true ∧ okNm x = true then
            some ⟨true, true, dUn (gTIndex ys) v.f, fun X W h => by
              rw [hp.1.1]
              exact ve_tindex (by have := find_con C hc h; rw [hd, strsD_ok hs] at this; exact this) (h.gl hp.2.2.1) (okNm1 hp.2.2.2) (v.ok X W h) hp.1.2 rfl hp.2.1⟩ else none
        | _, _ => none)
      | _ => none)
    | none => none)
/-- the store's slot, as it is held -/
def cSw : Option {w : Nat // 3 ≤ (mdAt C.md w).dp} := match C.sw with
  | some w => if h : 3 ≤ (mdAt C.md w).dp then some ⟨w, h⟩ else none
  | none => none
def isBx (x : Str) : Bool := match slot C x with
  | some i => C.bx.contains i
  | none => false
/-- a name; of a numbered thing what stands there -/
def cNameB (x : Str) (pos : Pos) : Option (RE C (.Name x pos)) := match cName C x pos with
  | none => none
  | some v => if isBx C x then (match cSw C with
    | some ⟨w, hw⟩ => some ⟨false, false, dDer w v.f, fun X W h => ve_der hw (v.ok X W h)⟩
    | none => none) else some v
/-- sum(x.values()) -/
def cSumV (x : Str) (p : Pos) (es : List Expr) (pos : Pos) : Option (RE C (.Call (.Name x p) es [] pos)) := match es with
  | [.Call (.Attribute (.Name y py) at_ apos) [] [] cpos] => (match r.e C (.Name y py) with
    | some v => if hc : x = ("sum" : Str) ∧ at_ = ("values" : Str) ∧ (apos.endLine == cpos.line) = true ∧ bltOk C ("sum" : Str) = true then
        some ⟨true, true, dSumV v.f, fun X W h => by
          obtain ⟨rfl, rfl, h3, h4⟩ := hc
          exact ve_sumV h.calm (h.glm h4).1 (h.glm h4).2 (v.ok X W h) rfl h3⟩ else none
    | none => none)
  | _ => none
/-- a value -/
def stepE (e : Expr) : Option (RE C e) := match e with
  | .Name x pos => cNameB C x pos
  | .Constant c j pos => cConst C c j pos
  | .BinOp a op b pos => cBin r C a op b pos
  | .UnaryOp op a pos => cUn r C op a pos
  | .Compare a [op] [b] pos => cCmp r C a op b pos
  | .BoolOp .And es pos => cAnd r C pos es
  | .BoolOp .Or es pos => cOr r C pos es
  | .IfExp c a b pos => cIfE r C c a b pos
  | .Subscript a b pos => (match cKIx r C a b pos with
    | some v => some v
    | none => (match cSub r C a b pos with
      | some v => some v
      | none => (r.f C false (.Subscript a b pos)).map RF.re))
  | .Call (.Attribute (.Name x p) at_ apos) [a] [] cpos => (match cTIndex r C x p at_ apos a cpos with
    | some v => some v
    | none => (r.f C false (.Call (.Attribute (.Name x p) at_ apos) [a] [] cpos)).map RF.re)
  | .Tuple es k pos => cTup r C es k pos
  | .Call (.Name x p) es [] pos => (match cCallE r C x p es pos with
    | some v => some v
    | none => (match cSumV r C x p es pos with
      | some v => some v
      | none => (r.f C false (.Call (.Name x p) es [] pos)).map RF.re))
  | .Call (.Attribute (.Name x p) at_ apos) [a, b] [] cpos => cGet r C x p at_ apos a b cpos
  | e => (r.f C false e).map RF.re
/-! ### new lists and dicts -/
def isLstE : Expr → Bool
  | .List _ _ => true
  | _ => false
/-- what makes a new list -/
def freshE : Expr → Bool
  | .ListComp _ _ _ _ => true
  | .List _ _ => true
  | .Call (.Name n _) _ _ _ => n == ("list" : Str) || n == ("sorted" : Str)
  | _ => false
/-- a new list as a value, nothing old within -/
def _root_.Dl.RF.reI {C : Cfg} {e : Expr} (r : RF C e) : RE C e := if h : r.nw = true then r.re else ⟨true, true, dImmL r.f, fun X W k => (r.ok X W k).immL.ve⟩
def cNew (n : Bool) (e : Expr) : Option (RE C e) := if n && freshE e then (r.f C (isLstE e) e).map RF.reI else r.e C e
def cArgsN (n : Bool) : (es : List Expr) → Option (RA C es)
  | [] => some ⟨true, true, dNil, dNil_len, fun X W h => va_nil⟩
  | e :: es => match cNew r C n e, cArgsN n es with
    | some a, some b => if hs : starless e = true then
      (let a := a.imm n
      some ⟨a.st && b.st, a.nw && b.nw, dCons a.f b.f, dCons_len b.len, fun X W h => va_cons ((a.ok X W h).to and_l and_l) ((b.ok X W h).to and_r and_r) (notStar hs)⟩) else none
    | _, _ => none
def cLst (n : Bool) (es : List Expr) (pos : Pos) : Option (RF C (.List es pos)) := match cArgsN r C n es with
  | some a => if hs : a.st = true then some ⟨a.nw, dLst a.f, fun X W h => vf_lst ((a.ok X W h).to (by rw [hs]; rfl) (by cases a.nw <;> rfl))⟩ else none
  | none => none
def cCallF (x : Str) (p : Pos) (es : List Expr) (pos : Pos) : Option (RF C (.Call (.Name x p) es [] pos)) := match es with
  | [] => none
  | e :: es => match cArgs r C (e :: es) with
    | none => none
    | some a => if hs : (e :: es).all starless = true then
      (match findF C x with
      | some ⟨F, hm, hn⟩ => if hg : isGl (lk C x) = true ∧ okNm x = true ∧ F.ar = (e :: es).length ∧ F.fresh = true then
          some ⟨true, dCallF F.den a.f, fun X W h => by subst hn; exact vf_call hg.2.2.2 (h.fns F hm) h.room (h.gl hg.1) h.tk (a.ok X W h) (fun env ds q => by rw [hg.2.2.1]; exact a.len env ds q) (okNm1 hg.2.1) hs⟩
        else none
      | none => if hb : bltOk C x = true then
          (if h1 : x = ("list" : Str) then some ⟨a.nw, dListOf a.f, fun X W h => by subst h1; exact vf_list h.calm (h.bltAt hb (by decide +kernel)) (a.ok X W h) hs⟩
          else if h1 : x = ("sorted" : Str) then some ⟨a.nw, dSorted a.f, fun X W h => by subst h1; exact vf_sorted (by have := h.room.un; omega) (h.bltAt hb (by decide +kernel)) (a.ok X W h) hs⟩
          else if h1 : x = ("dict" : Str) then some ⟨a.nw, dDictOf a.f, fun X W h => by subst h1; exact vf_dictOf h.calm (by have := h.room.un; omega) (h.bltAt hb (by decide +kernel)) (a.ok X W h) hs⟩
          else none) else none)
      else none
/-! ### targets -/
def cTgName (nw : Bool) (x : Str) (pos : Pos) : Option (RGt C nw (.Name x pos)) := match hs : slot C x with
  | some i => if hv : isLoc (lk C x) = true ∧ (C.fn x || isLocal (lk C x)) = true ∧ (mdAt C.md i).own = false ∧ (mdAt C.md i).dp = 0 ∧ ((mdAt C.md i).nw && !nw) = false then
      some ⟨[i], gdName i, fun X W h => vg_name h.nodup (h.slot hs) (h.loc hv.1) (h.stores hv.2.1) hv.2.2.1 hv.2.2.2.1 hv.2.2.2.2⟩ else none
  | none => none
theorem assign_cons {e : Expr} {es : List Expr} {env : Env} (h : starless e = true) : assignEach (e :: es) env = (false, assign e env) :: assignEach es env := by
  cases e <;> first | rfl | cases h
theorem assign_len {es : List Expr} {env : Env} (h : es.all starless = true) : (assignEach es env).length = es.length ∧ (assignEach es env).findIdx? (·.1) = none := by
  induction es with
  | nil => exact ⟨rfl, rfl⟩
  | cons e es ih =>
    rw [List.all_cons, Bool.and_eq_true] at h
    obtain ⟨i1, i2⟩ := ih h.2
    rw [assign_cons h.1]
    refine ⟨by simp [i1], ?_⟩
    rw [List.findIdx?_cons]
    simp [i2]
def cTgs (nw : Bool) : (es : List Expr) → Option (RGs C nw es)
  | [] => some ⟨[], gdNil, fun X W h => vgs_nil⟩
  | .Name x p :: es => match cTgName C nw x p, cTgs nw es with
    | some a, some b => some ⟨a.sl ++ b.sl, gdCons a.gd b.gd, fun X W h => vgs_cons (a.ok X W h) (b.ok X W h) (by rw [assign_cons rfl]; rfl)⟩
    | _, _ => none
  | _ => none
def cTg (nw : Bool) (e : Expr) : Option (RGt C nw e) := match e with
  | .Name x pos => cTgName C nw x pos
  | .Tuple es k pos => (match cTgs C nw es with
    | some a => if hs : es.all starless = true then some ⟨a.sl, gdTup es.length a.gd, fun X W h => vg_tup h.calm (a.ok X W h) (assign_len hs).1 (assign_len hs).2⟩ else none
    | none => none)
  | _ => none
/-! ### what is walked -/
structure RI2 (C : Cfg) (bo : Bool) (tg e : Expr) where
  nw : Bool
  f : DXs
  ok : ∀ X W, COk C X W → VI X W C.md bo nw tg e f
def cItV (bo : Bool) (tg e : Expr) : Option (RI2 C bo tg e) := match r.e C e with
  | some x => if hb : (!bo && !x.st) = false then some ⟨x.nw, dItems x.f, fun X W h => vi_seq (x.ok X W h) hb⟩ else none
  | none => none
def cIt1 (bo : Bool) (tg : Expr) (x : Str) (p : Pos) (a : Expr) (pos : Pos) : Option (RI2 C bo tg (.Call (.Name x p) [a] [] pos)) :=
  if hx : x = ("range" : Str) then (match r.e C a with
    | some v => if hb : bltOk C ("range" : Str) = true ∧ starless a = true then some ⟨true, dRange1 v.f, fun X W h => by subst hx; exact vi_range1 (h.glm hb.1).1 (h.glm hb.1).2 (v.ok X W h) hb.2⟩ else none
    | none => none)
  else if hx : x = ("enumerate" : Str) then (match tg with
    | .Tuple elts kk tpos => (match r.e C a with
      | some v => if hb : bltOk C ("enumerate" : Str) = true ∧ starless a = true ∧ (!bo && !v.st) = false then some ⟨v.nw, dEnum v.f, fun X W h => by subst hx; exact vi_enum (h.glm hb.1).1 (h.glm hb.1).2 (v.ok X W h) hb.2.2 hb.2.1⟩ else none
      | none => none)
    | _ => none)
  else if hx : x = ("reversed" : Str) then (match a with
    | .Call (.Name y p2) [b] [] pos2 => if hy : y = ("range" : Str) then (match r.e C b with
        | some v => if hb : bltOk C ("reversed" : Str) = true ∧ bltOk C ("range" : Str) = true ∧ starless b = true then some ⟨true, dRevR v.f, fun X W h => by subst hx; subst hy; exact vi_revR (h.glm hb.1).1 (h.glm hb.1).2 (h.glm hb.2.1).1 (h.glm hb.2.1).2 (v.ok X W h) hb.2.2⟩ else none
        | none => none)
      else (match r.e C (.Call (.Name y p2) [b] [] pos2) with
        | some v => if hb : bltOk C ("reversed" : Str) = true ∧ (!bo && !v.st) = false then some ⟨v.nw, dRev v.f, fun X W h => by subst hx; exact vi_rev (h.glm hb.1).1 (h.glm hb.1).2 (v.ok X W h) hb.2 rfl⟩ else none
        | none => none)
    | a => (match r.e C a with
      | some v => if hb : bltOk C ("reversed" : Str) = true ∧ starless a = true ∧ (!bo && !v.st) = false then some ⟨v.nw, dRev v.f, fun X W h => by subst hx; exact vi_rev (h.glm hb.1).1 (h.glm hb.1).2 (v.ok X W h) hb.2.2 hb.2.1⟩ else none
      | none => none))
  else cItV r C bo tg (.Call (.Name x p) [a] [] pos)
def cIt2 (bo : Bool) (tg : Expr) (x : Str) (p : Pos) (a b : Expr) (pos : Pos) : Option (RI2 C bo tg (.Call (.Name x p) [a, b] [] pos)) :=
  if hx : x = ("range" : Str) then (match r.e C a, r.e C b with
    | some v, some w => if hb : bltOk C ("range" : Str) = true ∧ starless a = true ∧ starless b = true then some ⟨true, dRange2 v.f w.f, fun X W h => by subst hx; exact vi_range2 (h.glm hb.1).1 (h.glm hb.1).2 (v.ok X W h) (w.ok X W h) hb.2.1 hb.2.2⟩ else none
    | _, _ => none)
  else if hx : x = ("zip" : Str) then (match tg with
    | .Tuple elts kk tpos => (match r.e C a, r.e C b with
      | some v, some w => if hb : bltOk C ("zip" : Str) = true ∧ starless a = true ∧ starless b = true ∧ (!bo && !v.st) = false ∧ (!bo && !w.st) = false then
          some ⟨v.nw && w.nw, dZip v.f w.f, fun X W h => by subst hx; exact vi_zip (h.glm hb.1).1 (h.glm hb.1).2 (v.ok X W h) (w.ok X W h) hb.2.2.2.1 hb.2.2.2.2 hb.2.1 hb.2.2.1⟩ else none
      | _, _ => none)
    | _ => none)
  else cItV r C bo tg (.Call (.Name x p) [a, b] [] pos)
def cIt (bo : Bool) (tg e : Expr) : Option (RI2 C bo tg e) := match e with
  | .Call (.Name x p) [a] [] pos => cIt1 r C bo tg x p a pos
  | .Call (.Name x p) [a, b] [] pos => cIt2 r C bo tg x p a b pos
  | e => cItV r C bo tg e
/-! ### comprehensions -/
def ownOf (scope : Scope) : List (Str × Nat) := scope.names.filterMap fun y => match y.2 with
  | .local => (slot C y.1).map fun i => (y.1, i)
  | .cell => (slot C y.1).map fun i => (y.1, i)
  | _ => none
structure RTs (C : Cfg) (ifs : List Expr) where
  f : DX
  ok : ∀ X W, COk C X W → VTs X W C.md ifs f
def cIfs (C : Cfg) (ifs : List Expr) : Option (RTs C ifs) := match ifs with
  | [] => some ⟨dC (.bl true), fun X W h => vts_nil⟩
  | [e] => (match r.t C e with
    | some x => some ⟨x.f, fun X W h => vts_one (x.ok X W h)⟩
    | none => none)
  | _ => none
/-- the parts of a comprehension -/
structure RC (C : Cfg) (elt tg iter : Expr) (ifs : List Expr) (scope : Scope) where
  it : RI2 C true tg iter
  tg : RGt (C.blk scope) it.nw tg
  tt : RTs (C.blk scope) ifs
  nw : Bool
  fe : DX
  fok : ∀ X W, COk (C.blk scope) X W → VE X W C.md true nw elt fe
  bk : blkC C.N C.sc scope (ownOf C scope) = true
  sh : shAll C.md ((ownOf C scope).map (·.2)) = true
  sl : (tg.sl.all fun j => ((ownOf C scope).map (·.2)).contains j) = true
  ns : notSet iter = true
def cComp (n : Bool) (elt tg iter : Expr) (ifs : List Expr) (scope : Scope) : Option (RC C elt tg iter ifs scope) := match cIt r C true tg iter with
  | some i => (match cTg (C.blk scope) i.nw tg, cIfs r (C.blk scope) ifs, cNew r (C.blk scope) n elt with
    | some g, some t, some x =>
      (let x := x.imm n
      if h : x.st = true ∧ blkC C.N C.sc scope (ownOf C scope) = true ∧ shAll C.md ((ownOf C scope).map (·.2)) = true ∧ (g.sl.all fun j => ((ownOf C scope).map (·.2)).contains j) = true ∧ notSet iter = true then
        some ⟨i, g, t, x.nw, x.f, fun X W k => (x.ok X W k).to (by rw [h.1]; rfl) (by cases x.nw <;> rfl), h.2.1, h.2.2.1, h.2.2.2.1, h.2.2.2.2⟩ else none)
    | _, _, _ => none)
  | none => none
def RC.den {C : Cfg} {elt tg iter : Expr} {ifs : List Expr} {scope : Scope} (c : RC C elt tg iter ifs scope) : DX := dComp c.it.f c.tg.gd c.tt.f c.fe ((ownOf C scope).map (·.2))
theorem RC.blkok {C : Cfg} {elt tg iter : Expr} {ifs : List Expr} {scope : Scope} (c : RC C elt tg iter ifs scope) {X : Cx} {W : WX} (h : COk C X W) : BlkOk X.N X.env.scope scope (ownOf C scope) := by
  rw [h.n, h.sc]
  exact blkOk_by c.bk
theorem RC.vf {C : Cfg} {elt tg iter : Expr} {ifs : List Expr} {scope : Scope} (c : RC C elt tg iter ifs scope) {pos : Pos} {X : Cx} {W : WX} (h : COk C X W) : VF X W C.md c.nw (.ListComp elt [⟨tg, iter, ifs, 0⟩] scope pos) c.den :=
  vf_comp (bo := true) h.calm h.nodup (c.it.ok X W h) (c.blkok h) c.sh (fun j hj => by have := List.all_eq_true.mp c.sl j hj; simpa using this)
    (fun s H D cl fp => c.tg.ok _ _ (h.blk (c.blkok h).kind s H D cl fp)) (fun s H D cl fp => c.tt.ok _ _ (h.blk (c.blkok h).kind s H D cl fp)) (fun s H D cl fp => c.fok _ _ (h.blk (c.blkok h).kind s H D cl fp)) (fold_none c.ns)
/-! ### {"a": 1, ..} -/
structure RP (C : Cfg) (pos : Pos) (keys : List (Option Expr)) (vals : List Expr) where
  ks : List Str
  fs : DXs
  len : ks.length = keys.length
  ok : ∀ X W, COk C X W → VPs X W C.md true pos keys vals ks fs
def cPs (pos : Pos) : (keys : List (Option Expr)) → (vals : List Expr) → Option (RP C pos keys vals)
  | [], [] => some ⟨[], dNil, rfl, fun X W h => vps_nil⟩
  | some (.Constant (.str x) j kp) :: keys, e :: vals => (match r.e C e, cPs pos keys vals with
    | some v, some t => if hc : v.st = true ∧ v.nw = true then some ⟨x :: t.ks, dCons v.f t.fs, by rw [List.length_cons, List.length_cons, t.len], fun X W h => vps_cons ((v.ok X W h).to (by rw [hc.1]; rfl) (by rw [hc.2]; rfl)) (t.ok X W h)⟩ else none
    | _, _ => none)
  | _, _ => none
def cDict (keys : List (Option Expr)) (vals : List Expr) (pos : Pos) : Option (RF C (.Dict keys vals pos)) := match cPs r C pos keys vals with
  | some t => if hc : keys.all (·.isSome) = true ∧ keys.length = vals.length ∧ keys.length ≠ 0 ∧ keys.length ≤ 15 ∧ t.ks.Nodup then
      some ⟨true, dDict t.ks t.fs, fun X W h => vf_dict (t.ok X W h) hc.1 hc.2.1 (fun e => hc.2.2.1 (by rw [e]; rfl)) hc.2.2.2.1 hc.2.2.2.2 t.len⟩ else none
  | none => none
/-- over an own dict -/
def cCompK (elt tg iter : Expr) (ifs : List Expr) (scope : Scope) (pos : Pos) : Option (RF C (.ListComp elt [⟨tg, iter, ifs, 0⟩] scope pos)) := match iter with
  | .Name x0 p0 => (match hs : slot C x0 with
    | some i0 => if C.dk.contains i0 then
      (match cTg ((C.setMd (mdK C.md i0)).blk scope) true tg, cIfs r ((C.setMd (mdK C.md i0)).blk scope) ifs, r.e ((C.setMd (mdK C.md i0)).blk scope) elt with
      | some g, some t, some x => if h : x.st = true ∧ blkC C.N C.sc scope (ownOf C scope) = true ∧ shAll (mdK C.md i0) ((ownOf C scope).map (·.2)) = true ∧ (g.sl.all fun j => ((ownOf C scope).map (·.2)).contains j) = true ∧ isVis (lk C x0) = true ∧ okNm x0 = true ∧ (mdAt C.md i0).own = true then
          some ⟨true, dCompK i0 g.gd t.f x.f ((ownOf C scope).map (·.2)), fun X W k => by
            obtain ⟨h1, h2, h3, h4, h5, h6, h7⟩ := h
            have bk : BlkOk X.N X.env.scope scope (ownOf C scope) := by
              rw [k.n, k.sc]
              exact blkOk_by h2
            exact vf_compK (nw := x.nw) k.calm k.nodup (k.slot hs) (k.vis h5) (okNm1 h6) (okNm2 h6) h7 bk h3 (fun j hj => by have := List.all_eq_true.mp h4 j hj; simpa using this)
              (fun s H D cl fp => g.ok _ _ ((k.setMd _).blk bk.kind s H D cl fp)) (fun s H D cl fp => t.ok _ _ ((k.setMd _).blk bk.kind s H D cl fp)) (fun s H D cl fp => (x.ok _ _ ((k.setMd _).blk bk.kind s H D cl fp)).to (by rw [h1]; rfl) (by cases x.nw <;> rfl)) (fold_none rfl)⟩ else none
      | _, _, _ => none) else none
    | none => none)
  | _ => none
/-- list(range(n)) -/
def cListRg (x : Str) (p : Pos) (es : List Expr) (pos : Pos) : Option (RF C (.Call (.Name x p) es [] pos)) := match es with
  | [.Call (.Name y p2) [a] [] pos2] => (match r.e C a with
    | some v => if hc : x = ("list" : Str) ∧ y = ("range" : Str) ∧ starless a = true ∧ bltOk C ("list" : Str) = true ∧ bltOk C ("range" : Str) = true then
        some ⟨true, dListRg v.f, fun X W h => by
          obtain ⟨rfl, rfl, h3, h4, h5⟩ := hc
          exact vf_listRg h.calm (h.glm h4).1 (h.glm h4).2 (h.glm h5).1 (h.glm h5).2 (v.ok X W h) h3⟩ else none
    | none => none)
  | _ => none
/-- a new list or dict; n: nothing old within -/
def stepF (n : Bool) (e : Expr) : Option (RF C e) := match e with
  | .List es pos => cLst r C n es pos
  | .Dict [] [] pos => some ⟨true, dC (.dic C.dt [] []), fun X W h => vf_dnew _⟩
  | .Dict [some k] [v] pos => (match cDict r C [some k] [v] pos with
    | some d => some d
    | none => (match r.e C k, r.e C v with
      | some a, some b => if hc : b.st = true then some ⟨true, dDict1 a.f b.f, fun X W h => vf_dict1 (by have := h.room.un; omega) (a.ok X W h) ((b.ok X W h).to (s2 := true) (n2 := b.nw) (by rw [hc]; rfl) (by cases b.nw <;> rfl))⟩ else none
      | _, _ => none))
  | .Dict keys vals pos => cDict r C keys vals pos
  | .Call (.Name x p) es [] pos => (match cCallF r C x p es pos with
    | some v => some v
    | none => cListRg r C x p es pos)
  | .ListComp elt [⟨tg, iter, ifs, 0⟩] scope pos => (match cCompK r C elt tg iter ifs scope pos with
    | some c => some c
    | none => (match cComp r C n elt tg iter ifs scope with
      | some c => some ⟨c.nw, c.den, fun X W h => c.vf h⟩
      | none => none))
  | .BinOp a .Add b pos => (match r.e C a, r.e C b with
    | some x, some y => some ⟨x.nw && y.nw, dBin gCatL x.f y.f, fun X W h => vf_cat (x.ok X W h) (y.ok X W h)⟩
    | _, _ => none)
  | .Subscript e (.Slice none none (some (.UnaryOp .USub (.Constant (.int 1) k p1) p2)) p3) pos => (match r.e C e with
    | some x => some ⟨x.nw, dRevL x.f, fun X W h => vf_revL (x.ok X W h)⟩
    | none => none)
  | .Subscript e (.Slice lo hi none p2) pos => (match r.e C e, cPart r C lo, cPart r C hi with
    | some x, some l, some h => some ⟨x.nw, dSlL x.f l.1 h.1, fun X W k => vf_slice (x.ok X W k) (l.2 X W k) (h.2 X W k)⟩
    | _, _, _ => none)
  | _ => none
end
section
variable (r : Rec) (C : Cfg)
/-- k not in x of a dict of lists -/
def cNotInD (a : Expr) (x : Str) (p pos : Pos) : Option (RT C (.Compare a [.NotIn] [.Name x p] pos)) := match hs : slot C x with
  | none => none
  | some i => match r.e C a with
    | none => none
    | some v => if hm : (mdAt C.md i).dp = 2 ∧ isVis (lk C x) = true ∧ okNm x = true then
        some ⟨dNotInD i v.f, fun X W h => vt_notInD (by have := h.room.un; omega) (h.slot hs) (h.vis hm.2.1) (okNm1 hm.2.2) (okNm2 hm.2.2) hm.1 (v.ok X W h) (marks_none rfl)⟩ else none
def stepT2 (e : Expr) : Option (RT C e) := match e with
  | .Compare a [.NotIn] [.Name x p] pos => (match cNotInD r C a x p pos with
    | some v => some v
    | none => stepT r C (.Compare a [.NotIn] [.Name x p] pos))
  | e => stepT r C e
end
def mkRec : Nat → Rec
  | 0 => ⟨fun _ _ => none, fun _ _ _ => none, fun _ _ => none⟩
  | n + 1 => ⟨fun C e => stepE (mkRec n) C e, fun C k e => stepF (mkRec n) C k e, fun C e => stepT2 (mkRec n) C e⟩
end Dl
/-! Dl12: the reader of statements and defs. -/
namespace Dl
open PySem PySem.Spec PyProof.Rows L2 RZ RT
structure RS (C : Cfg) (fr : Bool) (s : Stmt) where
  f : DS
  ok : ∀ X W, COk C X W → VS X W C.md fr s f
structure RSs (C : Cfg) (fr : Bool) (s : List Stmt) where
  f : DS
  ok : ∀ X W, COk C X W → VSs X W C.md fr s f
structure RQ (C : Cfg) (e : Expr) where
  f : DX
  ok : ∀ X W, COk C X W → VQ X W C.md e f
structure RQs (C : Cfg) (e : List Expr) where
  f : DXs
  ok : ∀ X W, COk C X W → VQs X W C.md e f
theorem sw_val {elt : Expr} {gs : List Comprehension} {scope : Scope} {pos py : Pos} {y : Str} {l : Nat} {env : Env} (hk : env.scope.kind = .function) :
    swapsWith (.ListComp elt gs scope pos) (some (.Name y py)) l env = pure ((env.scope.names.lookup y == some NameKind.local) && (py.line == pos.line) && !(scope.names.any fun (n, k) => n == y && (k == .local || k == .cell))) := by
  have hb : env.blockKind = .function := by unfold Env.blockKind; rw [hk]; rfl
  unfold swapsWith
  simp only [hb, Env.kindOf, Expr.pos]
  rfl
theorem sole_none {t e : Expr} {l : Nat} {env : Env} (h : notComp e = true) : swapsWithSole [t] e l env = pure false := by
  unfold swapsWithSole
  exact swap_none h
theorem sws_two {x y : Str} {px py pt pt2 : Pos} {kt k2 : Nat} {a b : Expr} {env : Env} (hk : env.scope.kind = .function) (hx : env.scope.names.lookup x = some .local) (hy : env.scope.names.lookup y = some .local) (hl : (py.line == px.line) = true) (hxy : x ≠ y)
    (ha : starless a = true) (hb : starless b = true) (hf : [a, b].all (foldedForSure 8) = false) (hc : [a, b].all (constantsAlone 8) = false) : swappedStores [.Tuple [.Name x px, .Name y py] kt pt] (.Tuple [a, b] k2 pt2) env = pure (some [x, y]) := by
  have hbk : env.blockKind = .function := by unfold Env.blockKind; rw [hk]; rfl
  have hyx : ¬ y = x := fun e => hxy e.symm
  have st : ∀ e : Expr, starless e = true → (match e with | .Starred .. => true | _ => false) = false := fun e h => by cases e <;> first | rfl | cases h
  unfold swappedStores
  simp only [hbk, Env.kindOf, List.length_cons, List.length_nil, List.any_cons, List.any_nil, st a ha, st b hb, List.filterMap_cons, List.filterMap_nil, hx, hy, Expr.pos, List.head?_cons, Option.map_some, Option.getD_some, hl, hf, hc]
  simp [hl, hxy, hyx, List.eraseDups_cons]
  intro h
  rcases h with h | h
  · cases a <;> first | (cases ha; done) | cases h
  · cases b <;> first | (cases hb; done) | cases h
theorem sws_three {x y z : Str} {px py pz pt pt2 : Pos} {kt k2 : Nat} {a b c : Expr} {env : Env} (hk : env.scope.kind = .function) (hx : env.scope.names.lookup x = some .local) (hy : env.scope.names.lookup y = some .local) (hz : env.scope.names.lookup z = some .local) (hl : (py.line == px.line) = true) (hl2 : (pz.line == px.line) = true) (hxy : x ≠ y) (hxz : x ≠ z) (hyz : y ≠ z)
    (ha : starless a = true) (hb : starless b = true) (hd : starless c = true) (hf : [a, b, c].all (foldedForSure 8) = false) (hc : [a, b, c].all (constantsAlone 8) = false) : swappedStores [.Tuple [.Name x px, .Name y py, .Name z pz] kt pt] (.Tuple [a, b, c] k2 pt2) env = pure (some [x, y, z]) := by
  have hbk : env.blockKind = .function := by unfold Env.blockKind; rw [hk]; rfl
  have st : ∀ e : Expr, starless e = true → (match e with | .Starred .. => true | _ => false) = false := fun e h => by cases e <;> first | rfl | cases h
  have e1 : ¬ y = x := fun e => hxy e.symm
  have e2 : ¬ z = x := fun e => hxz e.symm
  have e3 : ¬ z = y := fun e => hyz e.symm
  unfold swappedStores
  simp only [hbk, Env.kindOf, List.length_cons, List.length_nil, List.any_cons, List.any_nil, st a ha, st b hb, st c hd, List.filterMap_cons, List.filterMap_nil, hx, hy, hz, Expr.pos, List.head?_cons, Option.map_some, Option.getD_some, hl, hl2, hf, hc]
  simp [hl, hl2, hxy, hxz, hyz, e1, e2, e3, List.eraseDups_cons]
  intro h
  rcases h with h | h | h
  · cases a <;> first | (cases ha; done) | cases h
  · cases b <;> first | (cases hb; done) | cases h
  · cases c <;> first | (cases hd; done) | cases h
section
variable (r : Rec) (C : Cfg) (fr : Bool)
/-! ### x = e -/
def cSet (x : Str) (px : Pos) (e : Expr) (pos : Pos) : Option (RS C fr (.Assign [.Name x px] e pos)) := match hs : slot C x with
  | none => none
  | some i => if hv : isLoc (lk C x) = true ∧ (C.fn x || isLocal (lk C x)) = true ∧ (mdAt C.md i).dp = 0 then
    (match e with
    | .ListComp elt [⟨tg, iter, ifs, 0⟩] scope lpos => (match cComp r C (mdAt C.md i).nw elt tg iter ifs scope with
      | some c => if hw : ((mdAt C.md i).nw && !c.nw) = false then
          (match hb : ((C.sc.names.lookup x == some NameKind.local) && (px.line == lpos.line) && !(scope.names.any fun (n, k) => n == x && (k == .local || k == .cell))) with
          | true => if hl : isLocal (lk C x) = true then some ⟨dSet i c.den, fun X W h => by
              refine vs_setLc (bo := true) (tg := tg) h.calm h.nodup (h.slot hs) (h.local hl) ?_ (c.it.ok X W h) (c.blkok h) c.sh (fun j hj => by have := List.all_eq_true.mp c.sl j hj; simpa using this)
                (fun s H D cl fp => c.tg.ok _ _ (h.blk (c.blkok h).kind s H D cl fp)) (fun s H D cl fp => c.tt.ok _ _ (h.blk (c.blkok h).kind s H D cl fp)) (fun s H D cl fp => c.fok _ _ (h.blk (c.blkok h).kind s H D cl fp)) (fold_none c.ns) hv.2.2 hw
              rw [sw_val (by rw [h.sc]; exact h.kd), h.sc, hb]⟩ else none
          | false => if ho : (mdAt C.md i).own = true then some ⟨dSet i c.den, fun X W h => vs_setF h.nodup (h.slot hs) (h.loc hv.1) (h.stores hv.2.1) (c.vf h) (by rw [sw_val (by rw [h.sc]; exact h.kd), h.sc, hb]) ho hw⟩
            else some ⟨dSet i c.den, fun X W h => vs_set h.nodup (h.slot hs) (h.loc hv.1) (h.stores hv.2.1) (c.vf h).ve (by rw [sw_val (by rw [h.sc]; exact h.kd), h.sc, hb]) (by simpa using ho) hv.2.2 hw⟩) else none
      | none => none)
    | .Name y py => (match hj : slot C y with
      | some j => if hm : (mdAt C.md j).own = true ∧ i ≠ j ∧ isVis (lk C y) = true ∧ okNm y = true ∧ ((mdAt C.md i).nw && !(mdAt C.md j).nw) = false then
            some ⟨dMove i j, fun X W h => vs_move hm.2.1 h.nodup (h.slot hs) (h.loc hv.1) (h.stores hv.2.1) (h.slot hj) (h.vis hm.2.2.1) (okNm1 hm.2.2.2.1) (okNm2 hm.2.2.2.1) hm.1 hv.2.2 hm.2.2.2.2⟩
          else (match r.e C (.Name y py) with
            | some v => (let v := v.imm (mdAt C.md i).nw
              if hc : v.st = true ∧ (mdAt C.md i).own = false ∧ ((mdAt C.md i).nw && !v.nw) = false then some ⟨dSet i v.f, fun X W h => vs_set h.nodup (h.slot hs) (h.loc hv.1) (h.stores hv.2.1) ((v.ok X W h).to (by rw [hc.1]; rfl) (by cases v.nw <;> rfl)) (swap_none rfl) hc.2.1 hv.2.2 hc.2.2⟩ else none)
            | none => none)
      | none => (match r.e C (.Name y py) with
            | some v => if hc : v.st = true ∧ (mdAt C.md i).own = false ∧ ((mdAt C.md i).nw && !v.nw) = false then some ⟨dSet i v.f, fun X W h => vs_set h.nodup (h.slot hs) (h.loc hv.1) (h.stores hv.2.1) ((v.ok X W h).to (by rw [hc.1]; rfl) (by cases v.nw <;> rfl)) (swap_none rfl) hc.2.1 hv.2.2 hc.2.2⟩ else none
            | none => none))
    | e => if ho : (mdAt C.md i).own = true then
          (match r.f C (mdAt C.md i).nw e with
          | some v => if hc : notComp e = true then
              (if hw : ((mdAt C.md i).nw && !v.nw) = false then some ⟨dSet i v.f, fun X W h => vs_setF h.nodup (h.slot hs) (h.loc hv.1) (h.stores hv.2.1) (v.ok X W h) (swap_none hc) ho hw⟩
              else some ⟨dSet i (dImmL v.f), fun X W h => vs_setF h.nodup (h.slot hs) (h.loc hv.1) (h.stores hv.2.1) (v.ok X W h).immL (swap_none hc) ho (by cases (mdAt C.md i).nw <;> rfl)⟩) else none
          | none => (match r.e C e with
            | some v => if hc : notComp e = true then some ⟨dSet i (dImm v.f), fun X W h => vs_setI h.nodup (h.slot hs) (h.loc hv.1) (h.stores hv.2.1) (v.ok X W h) (swap_none hc) hv.2.2⟩ else none
            | none => none))
        else (match r.e C e with
          | some v => (let v := v.imm (mdAt C.md i).nw
            if hc : notComp e = true ∧ v.st = true ∧ ((mdAt C.md i).nw && !v.nw) = false then some ⟨dSet i v.f, fun X W h => vs_set h.nodup (h.slot hs) (h.loc hv.1) (h.stores hv.2.1) ((v.ok X W h).to (by rw [hc.2.1]; rfl) (by cases v.nw <;> rfl)) (swap_none hc.1) (by simpa using ho) hv.2.2 hc.2.2⟩ else none)
          | none => none)) else none
/-- own slot := a call whose answer is new, or without lists -/
def cSetCall (x : Str) (px : Pos) (f : Str) (pf : Pos) (es : List Expr) (cpos pos : Pos) : Option (RS C fr (.Assign [.Name x px] (.Call (.Name f pf) es [] cpos) pos)) := match es with
  | [] => none
  | e :: es => match hs : slot C x with
    | none => none
    | some i => match cArgs r C (e :: es) with
      | none => none
      | some a => match findF C f with
        | none => none
        | some ⟨F, hm, hn⟩ => if hv : (isLoc (lk C x) = true ∧ (C.fn x || isLocal (lk C x)) = true ∧ (mdAt C.md i).dp = 0 ∧ (mdAt C.md i).own = true) ∧ (e :: es).all starless = true ∧ isGl (lk C f) = true ∧ okNm f = true ∧ F.ar = (e :: es).length ∧ F.fresh = true then
            some ⟨dSet i (dCallA F.den a.f), fun X W h => by subst hn; exact vs_setCall h.nodup (h.slot hs) (h.loc hv.1.1) (h.stores hv.1.2.1) hv.2.2.2.2.2 (h.fns F hm) h.room (h.gl hv.2.2.1) h.tk (a.ok X W h) (fun env ds q => by rw [hv.2.2.2.2.1]; exact a.len env ds q) (okNm1 hv.2.2.2.1) hv.2.1 (swap_none rfl) hv.1.2.2.2 hv.1.2.2.1⟩
          else none
/-- a told value that only this slot reaches -/
def cSetCall1 (x : Str) (px : Pos) (f : Str) (pf : Pos) (es : List Expr) (cpos pos : Pos) : Option (RS C fr (.Assign [.Name x px] (.Call (.Name f pf) es [] cpos) pos)) := match es with
  | [] => none
  | e :: es => match hs : slot C x with
    | none => none
    | some i => if (mdAt C.md i).dp = 1 then (match cArgs r C (e :: es) with
      | none => none
      | some a => match findF C f with
        | none => none
        | some ⟨F, hm, hn⟩ => if hv : (isLoc (lk C x) = true ∧ (C.fn x || isLocal (lk C x)) = true ∧ (mdAt C.md i).dp = 1) ∧ (e :: es).all starless = true ∧ isGl (lk C f) = true ∧ okNm f = true ∧ F.ar = (e :: es).length ∧ F.fresh = true then
            some ⟨dSet i (dCall1 F.den a.f), fun X W h => by subst hn; exact vs_setCall1 h.nodup (h.slot hs) (h.loc hv.1.1) (h.stores hv.1.2.1) hv.2.2.2.2.2 (h.fns F hm) h.room (h.gl hv.2.2.1) h.tk (a.ok X W h) (fun env ds q => by rw [hv.2.2.2.2.1]; exact a.len env ds q) (okNm1 hv.2.2.2.1) hv.2.1 (swap_none rfl) hv.1.2.2⟩
          else none) else none
def cSetA (x : Str) (px : Pos) (e : Expr) (pos : Pos) : Option (RS C fr (.Assign [.Name x px] e pos)) := match e with
  | .Dict [] [] lp => (match hs : slot C x with
    | some i => if hm : (mdAt C.md i).dp = 2 ∧ isLoc (lk C x) = true ∧ (C.fn x || isLocal (lk C x)) = true then
        some ⟨dSet i (dC (.dic true [] [])), fun X W h => vs_newD h.nodup (h.slot hs) (h.loc hm.2.1) (h.stores hm.2.2) (swap_none rfl) hm.1⟩
      else cSet r C fr x px (.Dict [] [] lp) pos
    | none => none)
  | .Call (.Name f pf) es [] cpos => (match cSetCall r C fr x px f pf es cpos pos with
    | some v => some v
    | none => (match cSetCall1 r C fr x px f pf es cpos pos with
      | some v => some v
      | none => cSet r C fr x px (.Call (.Name f pf) es [] cpos) pos))
  | e => cSet r C fr x px e pos
/-! ### return -/
def cQ0 (e : Expr) : Option (RQ C e) := match r.e C e with
  | some v => (let v := v.imm true
    if hc : v.st = true ∧ v.nw = true then some ⟨v.f, fun X W h => ((v.ok X W h).to (by rw [hc.1]; rfl) (by rw [hc.2]; rfl)).vq⟩ else none)
  | none => none
def cQ (e : Expr) : Option (RQ C e) := match e with
  | .Name x pos => (match hs : slot C x with
    | some i => if hm : (mdAt C.md i).own = true ∧ (mdAt C.md i).nw = true ∧ isVis (lk C x) = true ∧ okNm x = true then some ⟨dVar i, fun X W h => vq_own (h.slot hs) (h.vis hm.2.2.1) (okNm1 hm.2.2.2) (okNm2 hm.2.2.2) hm.1 hm.2.1⟩ else cQ0 r C (.Name x pos)
    | none => cQ0 r C (.Name x pos))
  | e => if freshE e = true then (match r.f C true e with
      | some v => if hw : v.nw = true then some ⟨v.f, fun X W h => (hw ▸ v.ok X W h : VF X W C.md true _ _).vq⟩ else some ⟨dImmL v.f, fun X W h => (v.ok X W h).immL.vq⟩
      | none => none) else cQ0 r C e
def cQs : (es : List Expr) → Option (RQs C es)
  | [] => some ⟨dNil, fun X W h => vqs_nil⟩
  | e :: es => match cQ r C e, cQs es with
    | some a, some b => if hs : starless e = true then some ⟨dCons a.f b.f, fun X W h => vqs_cons (a.ok X W h) (b.ok X W h) (notStar hs)⟩ else none
    | _, _ => none
def cRet0 (hW : hasW C.md = false) (e : Expr) (pos : Pos) : Option (RS C true (.Return (some e) pos)) := match r.f C true e with
  | some v => if hw : v.nw = true then some ⟨dRet v.f, fun X W h => vs_retF hW (hw ▸ v.ok X W h)⟩ else some ⟨dRet (dImmL v.f), fun X W h => vs_retF hW (v.ok X W h).immL⟩
  | none => (match r.e C e with
    | some v => if hc : v.st = true ∧ v.nw = true then some ⟨dRetV v.f, fun X W h => vs_retV hW ((v.ok X W h).to (by rw [hc.1]; rfl) (by rw [hc.2]; rfl))⟩
        else some ⟨dRet (dImm v.f), fun X W h => vs_retI hW (v.ok X W h)⟩
    | none => none)
def cRetP (hW : hasW C.md = false) (e : Expr) (pos : Pos) : Option (RS C fr (.Return (some e) pos)) := match fr with
  | true => (match e with
    | .Name x px => (match hs : slot C x with
      | some i => if hm : (mdAt C.md i).own = true ∧ (mdAt C.md i).nw = true ∧ isVis (lk C x) = true ∧ okNm x = true then some ⟨dRet (dVar i), fun X W h => vs_retO (h.slot hs) (h.vis hm.2.2.1) (okNm1 hm.2.2.2) (okNm2 hm.2.2.2) hm.1 hm.2.1 hW⟩ else if hm : (mdAt C.md i).dp = 2 ∧ isVis (lk C x) = true ∧ okNm x = true then some ⟨dRet (dVar i), fun X W h => vs_retD (h.slot hs) (h.vis hm.2.1) (okNm1 hm.2.2) (okNm2 hm.2.2) hm.1 hW⟩ else cRet0 r C hW (.Name x px) pos
      | none => cRet0 r C hW (.Name x px) pos)
    | .Tuple es k p => (match cQs r C es with
      | some v => some ⟨dRetV (dTup v.f), fun X W h => vs_retQ hW (vq_tup (v.ok X W h))⟩
      | none => none)
    | e => if C.pl pos.line then (match r.e C e with
        | some v => some ⟨dRet (dImm v.f), fun X W h => vs_retI hW (v.ok X W h)⟩
        | none => none) else cRet0 r C hW e pos)
  | false => (match r.e C e with
    | some v => if hc : v.st = true then some ⟨dRet v.f, fun X W h => vs_ret (nw := v.nw) hW ((v.ok X W h).to (by rw [hc]; rfl) (by cases v.nw <;> rfl))⟩ else none
    | none => none)
def cRet (e : Expr) (pos : Pos) : Option (RS C fr (.Return (some e) pos)) := if hW : hasW C.md = false then cRetP r C fr hW e pos else none
/-! ### other statements -/
def cApp (x : Str) (p2 : Pos) (at_ : Str) (apos : Pos) (a : Expr) (cpos pos : Pos) : Option (RS C fr (.Expr (.Call (.Attribute (.Name x p2) at_ apos) [a] [] cpos) pos)) := match hs : slot C x with
  | none => none
  | some i => match cNew r C (mdAt C.md i).nw a with
    | none => none
    | some v => (let v := v.imm (mdAt C.md i).nw
      if hm : at_ = ("append" : Str) ∧ (mdAt C.md i).own = true ∧ isVis (lk C x) = true ∧ okNm x = true ∧ ((mdAt C.md i).nw && !v.nw) = false ∧ v.st = true ∧ starless a = true ∧ (apos.endLine == cpos.line) = true then
        some ⟨dApp i v.f, fun X W h => by
          rw [hm.1]
          exact vs_app (h.slot hs) (h.vis hm.2.2.1) (okNm1 hm.2.2.2.1) (okNm2 hm.2.2.2.1) hm.2.1 hm.2.2.2.2.1 ((v.ok X W h).to (by rw [hm.2.2.2.2.2.1]; rfl) (by cases v.nw <;> rfl)) hm.2.2.2.2.2.2.1 rfl hm.2.2.2.2.2.2.2⟩
      else none)
def cIns (x : Str) (p2 : Pos) (at_ : Str) (apos : Pos) (a b : Expr) (cpos pos : Pos) : Option (RS C fr (.Expr (.Call (.Attribute (.Name x p2) at_ apos) [a, b] [] cpos) pos)) := match hs : slot C x with
  | none => none
  | some i => match cArgsN r C (mdAt C.md i).nw [a, b] with
    | none => none
    | some v => if hm : at_ = ("insert" : Str) ∧ (mdAt C.md i).own = true ∧ isVis (lk C x) = true ∧ okNm x = true ∧ ((mdAt C.md i).nw && !v.nw) = false ∧ v.st = true ∧ starless a = true ∧ starless b = true ∧ (apos.endLine == cpos.line) = true then
        some ⟨dIns i v.f, fun X W h => by
          obtain ⟨h1, h2, h3, h4, h5, h6, h7, h8, h9⟩ := hm
          rw [h1]
          exact vs_ins (h.slot hs) (h.vis h3) (okNm1 h4) (okNm2 h4) h2 h5 ((v.ok X W h).to (by rw [h6]; rfl) (by cases v.nw <;> rfl)) h7 h8 rfl h9⟩
      else none
def cPut (x : Str) (p2 : Pos) (b : Expr) (spos : Pos) (e : Expr) (pos : Pos) : Option (RS C fr (.Assign [.Subscript (.Name x p2) b spos] e pos)) := match hs : slot C x with
  | none => none
  | some i => match r.e C b, r.e C e with
    | some k, some v => (let v := v.imm (mdAt C.md i).nw
      if hm : (mdAt C.md i).own = true ∧ isVis (lk C x) = true ∧ okNm x = true ∧ ((mdAt C.md i).nw && !v.nw) = false ∧ v.st = true ∧ plainIx b = true ∧ notComp e = true then
        some ⟨dPut i k.f v.f, fun X W h => vs_put (by have := h.room.un; omega) (h.slot hs) (h.vis hm.2.1) (okNm1 hm.2.2.1) (okNm2 hm.2.2.1) hm.1 hm.2.2.2.1 ((v.ok X W h).to (by rw [hm.2.2.2.2.1]; rfl) (by cases v.nw <;> rfl)) (k.ok X W h)
          (sole_none hm.2.2.2.2.2.2) (sws_none rfl rfl) rfl (fun w => by cases b <;> first | rfl | cases hm.2.2.2.2.2.1)⟩
      else none)
    | _, _ => none
/-- x[k] = [] of a dict of lists -/
def cPutN (x : Str) (p2 : Pos) (b : Expr) (spos lp pos : Pos) : Option (RS C fr (.Assign [.Subscript (.Name x p2) b spos] (.List [] lp) pos)) := match hs : slot C x with
  | none => none
  | some i => match r.e C b with
    | none => none
    | some k => if hm : (mdAt C.md i).dp = 2 ∧ isVis (lk C x) = true ∧ okNm x = true ∧ plainIx b = true then
        some ⟨dPutN i k.f, fun X W h => vs_putN (by have := h.room.un; omega) (h.slot hs) (h.vis hm.2.1) (okNm1 hm.2.2.1) (okNm2 hm.2.2.1) hm.1 (k.ok X W h) (sole_none rfl) (sws_none rfl rfl) rfl (fun w => by cases b <;> first | rfl | cases hm.2.2.2)⟩ else none
def cPutA (x : Str) (p2 : Pos) (b : Expr) (spos : Pos) (e : Expr) (pos : Pos) : Option (RS C fr (.Assign [.Subscript (.Name x p2) b spos] e pos)) := match e with
  | .List [] lp => (match cPutN r C fr x p2 b spos lp pos with
    | some v => some v
    | none => cPut r C fr x p2 b spos (.List [] lp) pos)
  | e => cPut r C fr x p2 b spos e pos
/-- x[k].append(e) of a dict of lists -/
def cAppD (x : Str) (p2 : Pos) (b : Expr) (spos : Pos) (at_ : Str) (apos : Pos) (a : Expr) (cpos pos : Pos) : Option (RS C fr (.Expr (.Call (.Attribute (.Subscript (.Name x p2) b spos) at_ apos) [a] [] cpos) pos)) := match hs : slot C x with
  | none => none
  | some i => match r.e C b, r.e C a with
    | some k, some v => if hm : at_ = ("append" : Str) ∧ (mdAt C.md i).dp = 2 ∧ isVis (lk C x) = true ∧ okNm x = true ∧ plainIx b = true ∧ starless a = true ∧ (apos.endLine == cpos.line) = true then
        some ⟨dAppD i k.f v.f, fun X W h => by
          rw [hm.1]
          exact vs_appD (by have := h.room.un; omega) (h.slot hs) (h.vis hm.2.2.1) (okNm1 hm.2.2.2.1) (okNm2 hm.2.2.2.1) hm.2.1 (k.ok X W h) (plainIx_ok hm.2.2.2.2.1) (v.ok X W h) hm.2.2.2.2.2.1 rfl hm.2.2.2.2.2.2⟩ else none
    | _, _ => none
/-- x[k].append(e), x[k].clear() of a told list of lists -/
def cApp1 (x : Str) (p2 : Pos) (b : Expr) (spos : Pos) (at_ : Str) (apos : Pos) (a : Expr) (cpos pos : Pos) : Option (RS C fr (.Expr (.Call (.Attribute (.Subscript (.Name x p2) b spos) at_ apos) [a] [] cpos) pos)) := match hs : slot C x with
  | none => none
  | some i => if (mdAt C.md i).dp = 1 then (match r.e C b, r.e C a with
    | some k, some v => if hm : at_ = ("append" : Str) ∧ (mdAt C.md i).dp = 1 ∧ isVis (lk C x) = true ∧ okNm x = true ∧ plainIx b = true ∧ starless a = true ∧ (apos.endLine == cpos.line) = true then
        (if C.dk.contains i then some ⟨dAppT i k.f v.f, fun X W h => by
          rw [hm.1]
          exact vs_appT (by have := h.room.un; omega) (h.slot hs) (h.vis hm.2.2.1) (okNm1 hm.2.2.2.1) (okNm2 hm.2.2.2.1) hm.2.1 (k.ok X W h) (plainIx_ok hm.2.2.2.2.1) (v.ok X W h) hm.2.2.2.2.2.1 rfl hm.2.2.2.2.2.2⟩
        else some ⟨dApp1 i k.f v.f, fun X W h => by
          rw [hm.1]
          exact vs_app1 (by have := h.room.un; omega) (h.slot hs) (h.vis hm.2.2.1) (okNm1 hm.2.2.2.1) (okNm2 hm.2.2.2.1) hm.2.1 (k.ok X W h) (plainIx_ok hm.2.2.2.2.1) (v.ok X W h) hm.2.2.2.2.2.1 rfl hm.2.2.2.2.2.2⟩) else none
    | _, _ => none) else none
def cClr1 (x : Str) (p2 : Pos) (b : Expr) (spos : Pos) (at_ : Str) (apos : Pos) (cpos pos : Pos) : Option (RS C fr (.Expr (.Call (.Attribute (.Subscript (.Name x p2) b spos) at_ apos) [] [] cpos) pos)) := match hs : slot C x with
  | none => none
  | some i => match r.e C b with
    | some k => if hm : at_ = ("clear" : Str) ∧ (mdAt C.md i).dp = 1 ∧ isVis (lk C x) = true ∧ okNm x = true ∧ plainIx b = true ∧ (apos.endLine == cpos.line) = true then
        some ⟨dClr1 i k.f, fun X W h => by
          rw [hm.1]
          exact vs_clr1 (by have := h.room.un; omega) (h.slot hs) (h.vis hm.2.2.1) (okNm1 hm.2.2.2.1) (okNm2 hm.2.2.2.1) hm.2.1 (k.ok X W h) (plainIx_ok hm.2.2.2.2.1) rfl hm.2.2.2.2.2⟩ else none
    | _ => none
/-- x.append(e) of what is gone -/
def cAppG (x : Str) (p2 : Pos) (at_ : Str) (apos : Pos) (a : Expr) (cpos pos : Pos) : Option (RS C fr (.Expr (.Call (.Attribute (.Name x p2) at_ apos) [a] [] cpos) pos)) := match hs : slot C x with
  | none => none
  | some i => if (mdAt C.md i).dp = 1 then (match cArgsN r C true [a] with
    | some v => if hm : at_ = ("append" : Str) ∧ (mdAt C.md i).dp = 1 ∧ isVis (lk C x) = true ∧ okNm x = true ∧ starless a = true ∧ (apos.endLine == cpos.line) = true then
        some ⟨dAppG i v.f, fun X W h => by
          rw [hm.1]
          exact vs_appG (h.slot hs) (h.vis hm.2.2.1) (okNm1 hm.2.2.2.1) (okNm2 hm.2.2.2.1) hm.2.1 (v.ok X W h) hm.2.2.2.2.1 rfl hm.2.2.2.2.2⟩ else none
    | none => none) else none
/-- for y in x: y.append(e) of a told tuple of lists -/
def cForApp (y : Str) (p1 : Pos) (x : Str) (p2 : Pos) (body : List Stmt) (pos : Pos) : Option (RS C fr (.For (.Name y p1) (.Name x p2) body [] pos)) := match body with
  | [.Expr (.Call (.Attribute (.Name z p3) at_ apos) [a] [] cpos) pos2] => (match hs : slot C x, hr : slot C y with
    | some i, some j => if (mdAt C.md i).dp = 1 then (match r.e C a with
      | some v => if hm : (at_ = ("append" : Str) ∧ z = y ∧ (mdAt C.md i).dp = 1) ∧ (isVis (lk C x) = true ∧ okNm x = true) ∧ (isLoc (lk C y) = true ∧ (C.fn y || isLocal (lk C y)) = true ∧ isVis (lk C y) = true ∧ okNm y = true) ∧ starless a = true ∧ (apos.endLine == cpos.line) = true then
          some ⟨dForApp i j v.f, fun X W h => by
            obtain ⟨⟨h1, h2, h3⟩, ⟨h4, h5⟩, ⟨h6, h7, h8, h9⟩, h10, h11⟩ := hm
            subst h1 h2
            exact vs_forApp h.po h.calm h.nodup (h.slot hs) (h.vis h4) (okNm1 h5) (okNm2 h5) (h.slot hr) (h.loc h6) (h.stores h7) (h.vis h8) (okNm1 h9) (okNm2 h9) h3 (v.ok X W h) h10 rfl h11 (fold_none rfl)⟩ else none
      | none => none) else none
    | _, _ => none)
  | _ => none
/-- a test that may read a told value that only one slot reaches -/
def cT1 (c : Expr) : Option (RT C c) := match r.t C c with
  | some x => some x
  | none => (let i := C.md.findIdx fun m => m.dp == 1
    if hp : (mdAt C.md i).dp = 1 then (match r.t (C.setMd (mdK C.md i)) c with
      | some x => some ⟨dT1 i x.f, fun X W h => vt_one hp (x.ok X W (h.setMd _))⟩
      | none => none) else none)
structure RNs (C : Cfg) (tes : List Expr) where
  is : List Nat
  own : (is.all fun i => (mdAt C.md i).own) = true
  len : tes.length = is.length
  ok : ∀ X W, COk C X W → PGs X tes (gNames is)
def cNs : (tes : List Expr) → Option (RNs C tes)
  | [] => some ⟨[], rfl, rfl, fun X W h => pgs_nil⟩
  | .Name x p :: tes => (match hs : slot C x, cNs tes with
    | some i, some t => if hv : isLoc (lk C x) = true ∧ (C.fn x || isLocal (lk C x)) = true ∧ (mdAt C.md i).own = true then
        some ⟨i :: t.is, by rw [List.all_cons, hv.2.2, t.own]; rfl, by rw [List.length_cons, List.length_cons, t.len], fun X W h => pgs_cons (pg_name h.nodup (h.slot hs) (h.loc hv.1) (h.stores hv.2.1)) (t.ok X W h) (by rw [assign_cons rfl]; rfl)⟩ else none
    | _, _ => none)
  | _ => none
/-- a, b, .. = f(..), f tells new lists, each reached once -/
def cUnpA (tes : List Expr) (n : Nat) (tp : Pos) (x : Str) (p : Pos) (es : List Expr) (cpos pos : Pos) : Option (RS C fr (.Assign [.Tuple tes n tp] (.Call (.Name x p) es [] cpos) pos)) := match hf : C.afns.find? (fun F => decide (F.name = x)) with
  | none => none
  | some F => (match es with
    | [] => none
    | e :: es => (match cNs C tes, cArgs r C (e :: es) with
      | some t, some a => if hc : F.ar = (e :: es).length ∧ isGl (lk C x) = true ∧ okNm x = true ∧ (e :: es).all starless = true ∧ tes.all starless = true then
          some ⟨dUnpA t.is F.den a.f, fun X W h => by
            obtain ⟨h1, h2, h3, h4, h5⟩ := hc
            have hn : F.name = x := by simpa using List.find?_some hf
            subst hn
            exact vs_unpA h.calm (t.ok X W h) (by rw [(assign_len h5).1, t.len]) (assign_len h5).2 (fun i hi => List.all_eq_true.mp t.own i hi) (h.af F (List.mem_of_find?_eq_some hf)) h.room (h.gl h2) h.tk (a.ok X W h) (fun env ds q => by rw [h1]; exact a.len env ds q) (okNm1 h3) h4 (sole_none rfl) (sws_none rfl rfl) rfl⟩ else none
      | _, _ => none))
def cUnp0 (es : List Expr) (k : Nat) (tp : Pos) (e : Expr) (pos : Pos) : Option (RS C fr (.Assign [.Tuple es k tp] e pos)) := match r.e C e with
  | some v => (match cTg C v.nw (.Tuple es k tp) with
    | some g => if hc : v.st = true ∧ notComp e = true ∧ isTupE e = false then some ⟨dUnp g.gd v.f, fun X W h => vs_unp ((v.ok X W h).to (by rw [hc.1]; rfl) (by cases v.nw <;> rfl)) (g.ok X W h) (sole_none hc.2.1) (sws_none (by rw [hc.2.2]; rfl) rfl) rfl⟩ else none
    | none => none)
  | none => none
def cUnp (es : List Expr) (k : Nat) (tp : Pos) (e : Expr) (pos : Pos) : Option (RS C fr (.Assign [.Tuple es k tp] e pos)) := match e with
  | .Name x0 p0 => (match hs : slot C x0 with
    | some i0 => if hm : (mdAt C.md i0).own = true ∧ isVis (lk C x0) = true ∧ okNm x0 = true then
        (match cTg C (mdAt C.md i0).nw (.Tuple es k tp) with
        | some g => some ⟨dUnpC i0 g.gd, fun X W h => vs_unpC (h.slot hs) (h.vis hm.2.1) (okNm1 hm.2.2) (okNm2 hm.2.2) hm.1 (g.ok X W h) (sole_none rfl) (sws_none rfl rfl) rfl⟩
        | none => none) else cUnp0 r C fr es k tp (.Name x0 p0) pos
    | none => cUnp0 r C fr es k tp (.Name x0 p0) pos)
  | e => cUnp0 r C fr es k tp e pos
theorem sws_cell2 {x y : Str} {px py pt pt2 : Pos} {kt k2 : Nat} {a b : Expr} {env : Env} (h : env.scope.names.lookup x = some .cell ∨ env.scope.names.lookup y = some .cell) : swappedStores [.Tuple [.Name x px, .Name y py] kt pt] (.Tuple [a, b] k2 pt2) env = pure none := by
  unfold swappedStores
  rcases h with h | h
  all_goals
    simp only [Env.kindOf, List.length_cons, List.length_nil, List.filterMap_cons, List.filterMap_nil, h]
    repeat' split
    all_goals first
      | rfl
      | (exfalso; simp_all; done)
      | (simp_all; done)
      | skip
def cParC (x y : Str) (px py pt pt2 : Pos) (kt k2 : Nat) (a b : Expr) (pos : Pos) : Option (RS C fr (.Assign [.Tuple [.Name x px, .Name y py] kt pt] (.Tuple [a, b] k2 pt2) pos)) := match r.e C (.Tuple [a, b] k2 pt2) with
  | some v => (match cTg C v.nw (.Tuple [.Name x px, .Name y py] kt pt) with
    | some g => if hc : v.st = true ∧ (lk C x = some .cell ∨ lk C y = some .cell) then some ⟨dUnp g.gd v.f, fun X W h => vs_unp ((v.ok X W h).to (by rw [hc.1]; rfl) (by cases v.nw <;> rfl)) (g.ok X W h) (sole_none rfl) (sws_cell2 (by rw [h.sc]; exact hc.2)) rfl⟩ else none
    | none => none)
  | none => none
def cPar2 (x y : Str) (px py pt pt2 : Pos) (kt k2 : Nat) (a b : Expr) (pos : Pos) : Option (RS C fr (.Assign [.Tuple [.Name x px, .Name y py] kt pt] (.Tuple [a, b] k2 pt2) pos)) := match hi : slot C x, hj : slot C y, cArgs r C [a, b] with
  | some i, some j, some v => if hm : i ≠ j ∧ isLocal (lk C x) = true ∧ isLocal (lk C y) = true ∧ v.st = true ∧ (py.line == px.line) = true ∧ x ≠ y ∧ starless a = true ∧ starless b = true ∧ [a, b].all (foldedForSure 8) = false ∧ [a, b].all (constantsAlone 8) = false ∧
        ((mdAt C.md i).own = false ∧ (mdAt C.md j).own = false ∧ (mdAt C.md i).dp = 0 ∧ (mdAt C.md j).dp = 0) ∧ ((mdAt C.md i).nw && !v.nw) = false ∧ ((mdAt C.md j).nw && !v.nw) = false then
      some ⟨dParL [i, j] v.f, fun X W h => by
        obtain ⟨h1, h2, h3, h4, h5, h6, h7, h8, h9, h10, ⟨h11, h12, h15, h16⟩, h13, h14⟩ := hm
        exact vs_par2 (nw := v.nw) h.calm h.nodup (h.slot hi) (h.slot hj) h1 (h.local h2) (h.local h3) ((v.ok X W h).to (by rw [h4]; rfl) (by cases v.nw <;> rfl)) (sws_two (by rw [h.sc]; exact h.kd) (h.local h2) (h.local h3) h5 h6 h7 h8 h9 h10) (sole_none rfl) h11 h12 h15 h16 h13 h14⟩ else none
  | _, _, _ => none
def cPar3 (x y z : Str) (px py pz pt pt2 : Pos) (kt k2 : Nat) (a b c : Expr) (pos : Pos) : Option (RS C fr (.Assign [.Tuple [.Name x px, .Name y py, .Name z pz] kt pt] (.Tuple [a, b, c] k2 pt2) pos)) := match hi : slot C x, hj : slot C y, hl : slot C z, cArgs r C [a, b, c] with
  | some i, some j, some l, some v => if hm : (i ≠ j ∧ i ≠ l ∧ j ≠ l) ∧ (isLocal (lk C x) = true ∧ isLocal (lk C y) = true ∧ isLocal (lk C z) = true) ∧ v.st = true ∧ ((py.line == px.line) = true ∧ (pz.line == px.line) = true) ∧ (x ≠ y ∧ x ≠ z ∧ y ≠ z) ∧ (starless a = true ∧ starless b = true ∧ starless c = true) ∧ [a, b, c].all (foldedForSure 8) = false ∧ [a, b, c].all (constantsAlone 8) = false ∧
        ((mdAt C.md i).own = false ∧ (mdAt C.md j).own = false ∧ (mdAt C.md l).own = false ∧ (mdAt C.md i).dp = 0 ∧ (mdAt C.md j).dp = 0 ∧ (mdAt C.md l).dp = 0) ∧ ((mdAt C.md i).nw && !v.nw) = false ∧ ((mdAt C.md j).nw && !v.nw) = false ∧ ((mdAt C.md l).nw && !v.nw) = false then
      some ⟨dParL [i, j, l] v.f, fun X W h => by
        obtain ⟨⟨a1, a2, a3⟩, ⟨b1, b2, b3⟩, c1, ⟨d1, d2⟩, ⟨e1, e2, e3⟩, ⟨f1, f2, f3⟩, g1, g2, ⟨i1, i2, i3, p1, p2, p3⟩, j1, j2, j3⟩ := hm
        exact vs_par3 (nw := v.nw) h.calm h.nodup (h.slot hi) (h.slot hj) (h.slot hl) a1 a2 a3 (h.local b1) (h.local b2) (h.local b3) ((v.ok X W h).to (by rw [c1]; rfl) (by cases v.nw <;> rfl)) (sws_three (by rw [h.sc]; exact h.kd) (h.local b1) (h.local b2) (h.local b3) d1 d2 e1 e2 e3 f1 f2 f3 g1 g2) (sole_none rfl) i1 i2 i3 p1 p2 p3 j1 j2 j3⟩ else none
  | _, _, _, _ => none
/-! ### raise E(..) -/
def findX (x : Str) : Option {E : ExEnt // E ∈ C.exs ∧ E.name = x} := match h : C.exs.find? (fun E => decide (E.name = x)) with
  | some E => some ⟨E, List.mem_of_find?_eq_some h, by simpa using List.find?_some h⟩
  | none => none
theorem COk.exAt {X : Cx} {W : WX} (h : COk C X W) {E : ExEnt} (m : E ∈ C.exs) : ∃ j, Room (j + 1) X.A ∧ ExAt X j E := by
  obtain ⟨j, hj, e⟩ := h.exs E m
  exact ⟨j, h.room.mono hj, e⟩
def cRaise (x : Str) (p : Pos) (es : List Expr) (pos pos2 : Pos) : Option (RS C fr (.Raise (some (.Call (.Name x p) es [] pos)) none pos2)) := match es with
  | [] => none
  | e :: es => match findX C x, cArgs r C (e :: es) with
    | some ⟨E, hm, hn⟩, some a => if hc : isGl (lk C x) = true ∧ okNm x = true ∧ (e :: es).all starless = true ∧ E.ps.length ≤ 1000 then
        some ⟨dRaise E a.f, fun X W h => by
          subst hn
          obtain ⟨j, hr, hE⟩ := h.exAt C hm
          exact vs_raise h.calm h.tk hE hr (h.gl hc.1) (okNm1 hc.2.1) hc.2.2.2 (a.ok X W h) hc.2.2.1⟩ else none
    | _, _ => none
def cExpr (e : Expr) (pos : Pos) : Option (RS C fr (.Expr e pos)) := match r.e C e with
  | some v => if hn : notComp e = true then some ⟨dDrop v.f, fun X W h => vs_expr (v.ok X W h) (swap_none hn)⟩ else none
  | none => none
end
/-! ### defs that work on the store -/
structure RX (C : Cfg) (e : Expr) where
  f : DXX
  ok : ∀ X W, COk C X W → VX X W C.md false e f
structure RXs (C : Cfg) (es : List Expr) where
  f : DXXs
  len : ∀ env ds e, f env = .ok ds e → ds.length = es.length
  ok : ∀ X W, COk C X W → VXs X W C.md false es f
structure RXF (C : Cfg) (e : Expr) where
  f : DXX
  ok : ∀ X W, COk C X W → VXF X W C.md e f
theorem xCons_len {f : DXX} {fs : DXXs} {n : Nat} (h : ∀ env ds e, fs env = .ok ds e → ds.length = n) : ∀ env ds e, xCons f fs env = .ok ds e → ds.length = n + 1 := fun env ds e q => by
  unfold xCons at q
  cases h1 : f env with
  | exc c fs e => rw [h1] at q; cases q
  | bad => rw [h1] at q; cases q
  | ok d e1 =>
    rw [h1] at q
    have q : (match fs e1 with
      | .ok ds e2 => RGX.ok (d :: ds) e2
      | .exc c fs e => .exc c fs e
      | .bad => .bad) = .ok ds e := q
    cases h2 : fs e1 with
    | exc c fs e => rw [h2] at q; cases q
    | bad => rw [h2] at q; cases q
    | ok r e2 => rw [h2] at q; cases q; simp [h e1 r _ h2]
section
variable (r : Rec) (C : Cfg) (fr : Bool)
def cW : Option {w : Nat // (mdAt C.md w).dp = 3} := match C.sw with
  | some w => if h : (mdAt C.md w).dp = 3 then some ⟨w, h⟩ else none
  | none => none
def findW (x : Str) : Option {F : WEnt // F ∈ C.wfns ∧ F.name = x} := match h : C.wfns.find? (fun F => decide (F.name = x)) with
  | some F => some ⟨F, List.mem_of_find?_eq_some h, by simpa using List.find?_some h⟩
  | none => none
def xPure (e : Expr) (v : RE C e) : Option (RX C e) := if hc : v.st = true then some ⟨xP v.f, fun X W h => vx_pure ((v.ok X W h).to (by rw [hc]; rfl) rfl)⟩ else none
def xArg (e : Expr) : Option (RX C e) := match e with
  | .Name x pos => if isBx C x then (match cName C x pos with
      | some v => xPure C _ v
      | none => none) else (match r.e C (.Name x pos) with
      | some v => xPure C _ v
      | none => none)
  | .Dict [] [] pos => (match cW C, r.f C false (.Dict [] [] pos) with
    | some ⟨w, hw⟩, some v => some ⟨xNum w (xP v.f), fun X W h => vx_num hw (vxf_pure (v.ok X W h))⟩
    | _, _ => none)
  | e => (match r.e C e with
    | some v => xPure C _ v
    | none => none)
def xArgs : (es : List Expr) → Option (RXs C es)
  | [] => some ⟨xPs dNil, fun env ds e q => by cases q; rfl, fun X W h => vxs_nil⟩
  | e :: es => match xArg r C e, xArgs es with
    | some a, some b => if hs : starless e = true then some ⟨xCons a.f b.f, xCons_len b.len, fun X W h => vxs_cons (a.ok X W h) (b.ok X W h) (notStar hs)⟩ else none
    | _, _ => none
def xCall (x : Str) (p : Pos) (es : List Expr) (pos : Pos) : Option (RX C (.Call (.Name x p) es [] pos)) := match es with
  | [] => none
  | e :: es => match cW C, findW C x, xArgs r C (e :: es) with
    | some ⟨w, hw⟩, some ⟨F, hm, hn⟩, some a => if hg : isGl (lk C x) = true ∧ okNm x = true ∧ F.ar = (e :: es).length ∧ (e :: es).all starless = true then
        some ⟨xCallW w F.den a.f, fun X W h => by subst hn; exact (vx_call hw (h.wf F hm) h.room (h.gl hg.1) h.tk (a.ok X W h) (fun env ds e q => by rw [hg.2.2.1]; exact a.len env ds e q) (okNm1 hg.2.1) hg.2.2.2).old⟩ else none
    | _, _, _ => none
def xCallFr (x : Str) (p : Pos) (es : List Expr) (pos : Pos) : Option (RXF C (.Call (.Name x p) es [] pos)) := match es with
  | [] => none
  | e :: es => match cW C, findW C x, xArgs r C (e :: es) with
    | some ⟨w, hw⟩, some ⟨F, hm, hn⟩, some a => if hg : isGl (lk C x) = true ∧ okNm x = true ∧ F.ar = (e :: es).length ∧ (e :: es).all starless = true ∧ F.fresh = true then
        some ⟨xCallWF w F.den a.f, fun X W h => by subst hn; exact vxf_call hw hg.2.2.2.2 (h.wf F hm) h.room (h.gl hg.1) h.tk (a.ok X W h) (fun env ds e q => by rw [hg.2.2.1]; exact a.len env ds e q) (okNm1 hg.2.1) hg.2.2.2.1⟩ else none
    | _, _, _ => none
def cExprW (x : Str) (p : Pos) (es : List Expr) (cpos pos : Pos) : Option (RS C fr (.Expr (.Call (.Name x p) es [] cpos) pos)) := match xCall r C x p es cpos with
  | some v => some ⟨dDropX v.f, fun X W h => vs_exprX (v.ok X W h) (swap_none rfl)⟩
  | none => none
def cNewB (x : Str) (px : Pos) (e : Expr) (pos : Pos) (v : RXF C e) : Option (RS C fr (.Assign [.Name x px] e pos)) := match hs : slot C x, cW C with
  | some i, some ⟨w, hw⟩ => if hc : isLoc (lk C x) = true ∧ (C.fn x || isLocal (lk C x)) = true ∧ (mdAt C.md i).dp = 0 ∧ (mdAt C.md i).own = false ∧ notComp e = true then
      some ⟨dNewB w i v.f, fun X W h => vs_newB h.nodup (h.slot hs) (h.loc hc.1) (h.stores hc.2.1) hw (v.ok X W h) (swap_none hc.2.2.2.2) hc.2.2.2.1 hc.2.2.1⟩ else none
  | _, _ => none
def cSetB (x : Str) (px : Pos) (e : Expr) (pos : Pos) : Option (RS C fr (.Assign [.Name x px] e pos)) := match e with
  | .Call (.Name f pf) es [] cpos => (match xCallFr r C f pf es cpos with
    | some v => cNewB C fr x px _ pos v
    | none => (match r.f C false (.Call (.Name f pf) es [] cpos) with
      | some v => cNewB C fr x px _ pos ⟨xP v.f, fun X W h => vxf_pure (v.ok X W h)⟩
      | none => none))
  | e => (match r.f C false e with
      | some v => cNewB C fr x px _ pos ⟨xP v.f, fun X W h => vxf_pure (v.ok X W h)⟩
      | none => none)
def cSetW (x : Str) (px : Pos) (f : Str) (pf : Pos) (es : List Expr) (cpos pos : Pos) : Option (RS C fr (.Assign [.Name x px] (.Call (.Name f pf) es [] cpos) pos)) := match hs : slot C x, xCall r C f pf es cpos with
  | some i, some v => if hc : isLoc (lk C x) = true ∧ (C.fn x || isLocal (lk C x)) = true ∧ (mdAt C.md i).dp = 0 ∧ (mdAt C.md i).own = false ∧ (mdAt C.md i).nw = false then
      some ⟨dSetX i v.f, fun X W h => vs_setX h.nodup (h.slot hs) (h.loc hc.1) (h.stores hc.2.1) (v.ok X W h) (swap_none rfl) hc.2.2.2.1 hc.2.2.1 (by rw [hc.2.2.2.2]; rfl)⟩ else none
  | _, _ => none
def cPutB (x : Str) (p2 : Pos) (b : Expr) (spos : Pos) (e : Expr) (pos : Pos) : Option (RS C fr (.Assign [.Subscript (.Name x p2) b spos] e pos)) := match cW C, cName C x p2, r.e C b, r.e C e with
  | some ⟨w, hw⟩, some o, some k, some v => if hm : v.st = true ∧ plainIx b = true ∧ notComp e = true then
      some ⟨dPutB w o.f k.f v.f, fun X W h => vs_putB (nw := v.nw) (by have := h.room.un; omega) hw (o.ok X W h) ((v.ok X W h).to (by rw [hm.1]; rfl) (by cases v.nw <;> rfl)) (k.ok X W h) (sole_none hm.2.2) (sws_none rfl rfl) rfl (fun w => by cases b <;> first | rfl | cases hm.2.1)⟩ else none
  | _, _, _, _ => none
def cRetW (e : Expr) (pos : Pos) : Option (RS C fr (.Return (some e) pos)) := match cW C with
  | none => none
  | some ⟨w, hw⟩ => (match fr with
    | false => (match r.e C e with
      | some v => if hc : v.st = true then some ⟨dRetX w (xP v.f), fun X W h => vs_retX hw (vx_pure (nw := v.nw) ((v.ok X W h).to (by rw [hc]; rfl) (by cases v.nw <;> rfl)))⟩ else none
      | none => none)
    | true => (match e with
      | .Call (.Name l pl) [.Call (.Name f pf) es [] cpos] [] lpos => if hl : l = ("list" : Str) ∧ bltOk C l = true then (match xCall r C f pf es cpos with
          | some v => some ⟨dRetX w (xImmL (xList v.f)), fun X W h => by rw [hl.1]; exact vs_retXL hw (vxf_list h.calm (h.bltAt (by rw [← hl.1]; exact hl.2) (by decide +kernel)) (v.ok X W h) rfl)⟩
          | none => none) else none
      | .Name x px => (match hs : slot C x with
        | some i => if hm : (mdAt C.md i).own = true ∧ (mdAt C.md i).nw = true ∧ isVis (lk C x) = true ∧ okNm x = true then some ⟨dRetXO w i, fun X W h => vs_retXO hw (h.slot hs) (h.vis hm.2.2.1) (okNm1 hm.2.2.2) (okNm2 hm.2.2.2) hm.1 hm.2.1⟩ else none
        | none => none)
      | e => (match r.f C true e with
        | some v => if hn : v.nw = true then some ⟨dRetX w (xP v.f), fun X W h => vs_retXF hw (hn ▸ v.ok X W h)⟩ else none
        | none => (match r.e C e with
          | some v => some ⟨dRetX w (xImm (xP (dImm v.f))), fun X W h => vs_retXI hw (vx_pure (v.ok X W h).imm)⟩
          | none => none))))
end
/-- what the step before gives, of statements -/
structure RecS where
  s : ∀ (C : Cfg) (fr : Bool) (s : Stmt), Option (RS C fr s)
def cBlock (q : RecS) (C : Cfg) (fr : Bool) : (ss : List Stmt) → Option (RSs C fr ss)
  | [] => some ⟨dNext, fun X W h => vs_nil⟩
  | s :: ss => match q.s C fr s, cBlock q C fr ss with
    | some a, some b => some ⟨dSeq a.f b.f, fun X W h => vs_cons (a.ok X W h) (b.ok X W h)⟩
    | _, _ => none
/-! ### try .. except E as n: x = (n.f, ..) -/
def Cfg.noTr (C : Cfg) : Cfg := { C with tr := false }
theorem COk.noTr {C : Cfg} {X : Cx} {W W' : WX} (h : COk C X W) {pn : List (Addr × Obj)} {xe : Value → Shared → Prop} (tk : Takes (X.tr pn xe) W') (po : PassesOwn (model X.prog X.w) X.A X.env xe) : COk C.noTr (X.tr pn xe) W' :=
  ⟨h.n, h.nd, h.sc, h.calm, h.room, h.blt, fun F hF => ⟨(h.fns F hF).ex⟩, fun p hp => ⟨(h.cons p hp).ex⟩, tk, po, h.fn, h.kd, h.exs, (fun z => nomatch z), fun F hF => ⟨(h.wf F hF).ex⟩, fun F hF => ⟨(h.af F hF).ex⟩⟩
structure RUa (C : Cfg) (n : Nat) (es : List Expr) where
  fl : List Str
  ok : ∀ X W, COk C X W → ∀ (D a : Addr) (oe : Obj) (cls : Value) (d : Option Addr) (pn : List (Addr × Obj)), XfC X.K D → (∀ f ∈ fl, PySem.W.findIn X.K (.ref D) f = some none) → Zc cls d oe → (∃ vs, oe.data = .fields vs) → PA (X.suite a ((a, oe) :: pn)) es (tXs a cls d D n fl)
def uArgs (C : Cfg) (n : Nat) : (es : List Expr) → Option (RUa C n es)
  | [] => some ⟨[], fun X W h D a oe cls d pn _ _ _ _ => pa_nil⟩
  | .Attribute (.Name y p) f q :: es => (match hs : slot C y, uArgs C n es with
    | some i, some t => if hv : i = n ∧ isVis (lk C y) = true ∧ okNm y = true then
        some ⟨f :: t.fl, fun X W h D a oe cls d pn xf hn hz hd => pa_cons (pe_xf xf (hn f (by simp)) hz hd (pe_var (by rw [← hv.1]; exact h.slot hs) (h.vis hv.2.1) (okNm1 hv.2.2) (okNm2 hv.2.2)) rfl) (t.ok X W h D a oe cls d pn xf (fun g hg => hn g (by simp [hg])) hz hd) (notStar rfl)⟩ else none
    | _, _ => none)
  | _ => none
structure RU (C : Cfg) (n : Nat) (e : Expr) where
  tp : Bool
  fl : List Str
  te : Addr → Addr → Value → Option Addr → TE
  pe : ∀ X W, COk C X W → ∀ (D a : Addr) (oe : Obj) (cls : Value) (d : Option Addr) (pn : List (Addr × Obj)), XfC X.K D → (∀ f ∈ fl, PySem.W.findIn X.K (.ref D) f = some none) → Zc cls d oe → (∃ vs, oe.data = .fields vs) → PE (X.suite a ((a, oe) :: pn)) e (te D a cls d)
  rd : ∀ (K : KF) (C a : Addr) (cls : Value) (dd : Addr) (σ : L2.St) (H : Hp) (ffs : List (Str × V)) (fs : Fields) (d : D) (Q : VK), cls = .ref C → σ[n]? = some (some (.ref a)) → H dd = some (.xd ffs) → (∀ p ∈ fs, Dl.imm p.2 = true ∧ ∃ v, ffs.lookup p.1 = some v ∧ Rp K H (fun _ => False) v p.2) →
      (pickF fs fl).bind (mkF tp) = some d → (∀ v H', Same H H' → Dl.imm d = true → (∀ A, Rp K H' A v d) → Q v H') → te C a cls (some dd) σ H Q
  sw : ∀ (t : Option Expr) (l : Nat) (env : Env), swapsWith e t l env = pure false
def uExp (C : Cfg) (n : Nat) (e : Expr) : Option (RU C n e) := match e with
  | .Tuple es k tp => (match uArgs C n es with
    | some t => some ⟨true, t.fl, fun D a cls d => tTup (tXs a cls d D n t.fl), fun X W h D a oe cls d pn xf hn hz hd => pe_tup (t.ok X W h D a oe cls d pn xf hn hz hd), fun K C a cls dd σ H ffs fs d Q hc hs hd hf hk q => by
        cases hp : pickF fs t.fl with
        | none => rw [hp] at hk; cases hk
        | some ds =>
          rw [hp] at hk
          have hk : (if ds.length ≤ sizeLine then some (Dl.D.tup ds) else none) = some d := hk
          by_cases z : ds.length ≤ sizeLine
          case neg => rw [if_neg z] at hk; cases hk
          rw [if_pos z] at hk
          cases hk
          obtain ⟨im, vs, g, rp⟩ := pick_ok hf hp
          exact g a cls dd C n σ _ hc hs hd ⟨by rw [rp.length]; exact z, fun p np => q _ _ (same_new np) (by unfold Dl.imm; exact im) fun A => Rp.tup.mpr ⟨p, vs, rfl, upd_same, (Rps.imm _ _ rp im).same (same_new np)⟩⟩, fun _ _ _ => rfl⟩
    | none => none)
  | .Attribute (.Name y p) f q => (match uArgs C n [.Attribute (.Name y p) f q], (match hs : slot C y with | some i => (if hv : i = n ∧ isVis (lk C y) = true ∧ okNm y = true then some (PLift.up (show slot C y = some n ∧ isVis (lk C y) = true ∧ okNm y = true from ⟨by rw [hs, hv.1], hv.2⟩)) else none) | none => none) with
    | some _, some ⟨hv⟩ => some ⟨false, [f], fun D a cls d => tXf a cls d D f (tVar n), fun X W h D a oe cls d pn xf hn hz hd => pe_xf xf (hn f (by simp)) hz hd (pe_var (h.slot hv.1) (h.vis hv.2.1) (okNm1 hv.2.2) (okNm2 hv.2.2)) rfl, fun K C a cls dd σ H ffs fs d Q hc hs hd hf hk q => by
        cases hp : pickF fs [f] with
        | none => rw [hp] at hk; cases hk
        | some ds =>
          rw [hp] at hk
          obtain ⟨im, vs, g, rp⟩ := pick_ok hf hp
          cases ds with
          | nil => cases hk
          | cons d1 r => cases r with
            | cons _ _ => cases hk
            | nil =>
              cases hk
              obtain ⟨v, r, rfl, rv, rn⟩ := rp.uncons
              have := rn.nil_eq
              subst this
              unfold imms at im
              rw [Bool.and_eq_true] at im
              have := g a cls dd C n σ (fun vs H1 => ∀ w, vs = [w] → Q w H1) hc hs hd (fun w e => by cases e; exact q v H (Same.refl _) im.1 fun A => Rp.imm _ _ rv im.1)
              obtain ⟨x, hx, e1, e2, dd', fs', w, e3, e4, e5, e6⟩ := this
              exact ⟨x, hx, e1, e2, dd', fs', w, e3, e4, e5, e6 w rfl⟩, fun _ _ _ => rfl⟩
    | _, _ => none)
  | _ => none
def cForG (r : Rec) (q : RecS) (C : Cfg) (fr : Bool) (tg iter : Expr) (body : List Stmt) (pos : Pos) : Option (RS C fr (.For tg iter body [] pos)) := (match cIt r C false tg iter with
    | some i => (match cTg C i.nw tg, cBlock q C fr body with
      | some g, some b => if hn : notSet iter = true then some ⟨dFor i.f g.gd b.f (C.kl pos.line), fun X W h => vs_for h.po h.calm (i.ok X W h) (g.ok X W h) (b.ok X W h) (fold_none hn)⟩ else none
      | _, _ => none)
    | none => (match iter with
      | .Name x0 p0 => (match hs : slot C x0 with
        | some i0 => if C.pl pos.line then (match cTg (C.setMd (mdK C.md i0)) true tg, cBlock q (C.setMd (mdK C.md i0)) fr body with
          | some g, some b => if hm : isVis (lk C x0) = true ∧ okNm x0 = true then
              (if ho : (mdAt C.md i0).own = true then some ⟨dForK i0 g.gd b.f (C.kl pos.line), fun X W h => vs_forK h.po h.calm (h.slot hs) (h.vis hm.1) (okNm1 hm.2) (okNm2 hm.2) ho (g.ok X W (h.setMd _)) (b.ok X W (h.setMd _)) (fold_none rfl)⟩
              else if hp : (mdAt C.md i0).dp = 2 then some ⟨dForK i0 g.gd b.f (C.kl pos.line), fun X W h => vs_forD h.po h.calm (h.slot hs) (h.vis hm.1) (okNm1 hm.2) (okNm2 hm.2) hp (g.ok X W (h.setMd _)) (b.ok X W (h.setMd _)) (fold_none rfl)⟩
              else none) else none
          | _, _ => none) else (match cTg C (mdAt C.md i0).nw tg, cBlock q C fr body with
          | some g, some b => if hm : (mdAt C.md i0).own = true ∧ isVis (lk C x0) = true ∧ okNm x0 = true then some ⟨dForC i0 g.gd b.f (C.kl pos.line), fun X W h => vs_forC h.po h.calm (h.slot hs) (h.vis hm.2.1) (okNm1 hm.2.2) (okNm2 hm.2.2) hm.1 (g.ok X W h) (b.ok X W h) (fold_none rfl)⟩ else none
          | _, _ => none)
        | none => none)
      | _ => none))
def stepS0 (r : Rec) (q : RecS) (C : Cfg) (fr : Bool) (s : Stmt) : Option (RS C fr s) := match s with
  | .Expr (.Call (.Attribute (.Name x p2) at_ apos) [a] [] cpos) pos => (match cAppG r C fr x p2 at_ apos a cpos pos with
    | some v => some v
    | none => cApp r C fr x p2 at_ apos a cpos pos)
  | .Expr (.Call (.Attribute (.Name x p2) at_ apos) [a, b] [] cpos) pos => cIns r C fr x p2 at_ apos a b cpos pos
  | .Expr (.Call (.Attribute (.Subscript (.Name x p2) b spos) at_ apos) [a] [] cpos) pos => (match cApp1 r C fr x p2 b spos at_ apos a cpos pos with
    | some v => some v
    | none => cAppD r C fr x p2 b spos at_ apos a cpos pos)
  | .Expr (.Call (.Attribute (.Subscript (.Name x p2) b spos) at_ apos) [] [] cpos) pos => cClr1 r C fr x p2 b spos at_ apos cpos pos
  | .Expr e pos => cExpr r C fr e pos
  | .Assign [.Name x px] e pos => cSetA r C fr x px e pos
  | .Assign [.Subscript (.Name x p2) b spos] e pos => cPutA r C fr x p2 b spos e pos
  | .Assign [.Tuple [.Name x px, .Name y py] kt pt] (.Tuple [a, b] k2 pt2) pos => (match cPar2 r C fr x y px py pt pt2 kt k2 a b pos with
    | some v => some v
    | none => cParC r C fr x y px py pt pt2 kt k2 a b pos)
  | .Assign [.Tuple [.Name x px, .Name y py, .Name z pz] kt pt] (.Tuple [a, b, c] k2 pt2) pos => cPar3 r C fr x y z px py pz pt pt2 kt k2 a b c pos
  | .Assign [.Tuple es k tp] (.Call (.Name x p) as [] cpos) pos => (match cUnpA r C fr es k tp x p as cpos pos with
    | some v => some v
    | none => cUnp r C fr es k tp (.Call (.Name x p) as [] cpos) pos)
  | .Assign [.Tuple es k tp] e pos => cUnp r C fr es k tp e pos
  | .If c a b pos => (match cT1 r C c, cBlock q C fr a, cBlock q C fr b with
    | some x, some y, some z => some ⟨dIfS x.f y.f z.f, fun X W h => vs_if (x.ok X W h) (y.ok X W h) (z.ok X W h)⟩
    | _, _, _ => none)
  | .For (.Name y p1) (.Name x p2) body [] pos => (match cForApp r C fr y p1 x p2 body pos with
    | some v => some v
    | none => cForG r q C fr (.Name y p1) (.Name x p2) body pos)
  | .For tg iter body [] pos => cForG r q C fr tg iter body pos
  | .Try body [.ExceptHandler (some (.Name hx np)) (some nm) [.Assign [.Name x px] e spos] pos'] [] [] pos => (match findX C hx, hn : slot C nm, hi : slot C x with
    | some ⟨E, hm, hE⟩, some n, some i => (match uExp C n e, cBlock q C.noTr fr body with
      | some u, some b => if hc : (isGl (lk C hx) = true ∧ okNm hx = true) ∧ isLocal (lk C nm) = true ∧ (isLoc (lk C x) = true ∧ (C.fn x || isLocal (lk C x)) = true) ∧ n ≠ i ∧ (u.fl.all fun f => E.ps.contains f) = true ∧ C.tr = true ∧ (mdAt C.md n).own = false ∧ (mdAt C.md i).dp = 0 then
          some ⟨dTryE E b.f n i u.tp u.fl, fun X W h => by
            subst hE
            obtain ⟨⟨c1, c2⟩, c3, ⟨c4, c5⟩, c6, c7, c8, c9, c10⟩ := hc
            obtain ⟨j, hr, hA⟩ := h.exAt C hm
            obtain ⟨s1, s2⟩ := h.tr c8
            have hfl : ∀ f ∈ u.fl, f ∈ E.ps := fun f hf => by simpa using List.all_eq_true.mp c7 f hf
            exact vs_tryE s1 s2 h.nodup (h.slot hn) (h.local c3) (h.slot hi) (h.loc c4) (h.stores c5) c6 hA (h.gl c1) (okNm1 c2) h.tk (fun W' pn xe tk po => b.ok _ _ (h.noTr tk po)) (fun D a oe cls d pn xf hno hz hd => u.pe X W h D a oe cls d pn xf (fun f hf => hno f (hfl f hf)) hz hd) (fun C a cls dd σ H ffs fs d Q a1 a2 a3 a4 a5 a6 => u.rd ⟨X.KM, []⟩ C a cls dd σ H ffs fs d Q a1 a2 a3 a4 a5 a6) (fun env => u.sw _ _ env) c9 c10⟩ else none
      | _, _ => none)
    | _, _, _ => none)
  | .Return (some e) pos => cRet r C fr e pos
  | .Return none pos => if hW : hasW C.md = false then some ⟨fun _ => .rt .non, fun X W h => vs_retN hW⟩ else none
  | .Pass pos => some ⟨dNext, fun X W h => vs_pass⟩
  | .Break pos => some ⟨dBreak, fun X W h => vs_break⟩
  | .Continue pos => some ⟨dCont, fun X W h => vs_cont⟩
  | .Raise (some (.Call (.Name x p) es [] pos)) none pos2 => (match cRaise r C fr x p es pos pos2 with
    | some v => some v
    | none => some ⟨dNever, fun X W h => vs_never⟩)
  | .Raise a b pos => some ⟨dNever, fun X W h => vs_never⟩
  | _ => none
noncomputable def cForB (q : RecS) (C : Cfg) (fr : Bool) (tg : Expr) (x0 : Str) (p0 : Pos) (body : List Stmt) (pos : Pos) : Option (RS C fr (.For tg (.Name x0 p0) body [] pos)) := match hs : slot C x0, cW C, cTg C false tg, cBlock q C fr body with
  | some i0, some ⟨w, hw⟩, some g, some b => if hm : isVis (lk C x0) = true ∧ okNm x0 = true ∧ (mdAt C.md i0).own = false ∧ (mdAt C.md i0).dp = 0 then
      some ⟨dForB w i0 g.gd b.f (C.kl pos.line), fun X W h => vs_forB h.po h.calm (h.slot hs) (h.vis hm.1) (okNm1 hm.2.1) (okNm2 hm.2.1) hm.2.2.1 hm.2.2.2 hw (g.ok X W h) (b.ok X W h) (fold_none rfl)⟩ else none
  | _, _, _, _ => none
noncomputable def stepW (r : Rec) (q : RecS) (C : Cfg) (fr : Bool) (s : Stmt) : Option (RS C fr s) := match s with
  | .Expr (.Call (.Name x p) es [] cpos) pos => cExprW r C fr x p es cpos pos
  | .Assign [.Name x px] e pos => if isBx C x then cSetB r C fr x px e pos else (match e with
    | .Call (.Name f pf) es [] cpos => cSetW r C fr x px f pf es cpos pos
    | _ => none)
  | .Assign [.Subscript (.Name x p2) b spos] e pos => if isBx C x then cPutB r C fr x p2 b spos e pos else none
  | .Return (some e) pos => cRetW r C fr e pos
  | .For tg (.Name x0 p0) body [] pos => if isBx C x0 then cForB q C fr tg x0 p0 body pos else none
  | _ => none
noncomputable def stepS (r : Rec) (q : RecS) (C : Cfg) (fr : Bool) (s : Stmt) : Option (RS C fr s) := match C.sw with
  | none => stepS0 r q C fr s
  | some _ => (match stepW r q C fr s with
    | some v => some v
    | none => stepS0 r q C fr s)
noncomputable def mkRecS (r : Rec) : Nat → RecS
  | 0 => ⟨fun _ _ _ => none⟩
  | n + 1 => ⟨fun C fr s => stepS r (mkRecS r n) C fr s⟩
/-! ### a def -/
/-- the things of a def that the reader is told -/
structure DefC where
  name : Str
  N : List Str
  ps : List Str
  md : Mds
  fr : Bool
  kl : Nat → List Nat
  pl : Nat → Bool
  dt : Bool
  exs : List ExEnt := []
  /-- 0: no store; 1: it works on the store; 2: on one of its own -/
  kd : Nat := 0
  bx : List Nat := []
  gt : Bool := false
  dk : List Nat := []
def DefC.cfg (d : DefC) (st : Stmt) (k : Nat) (blts : List Str) (fns : List FEnt) (cons : List (Str × D)) (wfns : List WEnt := []) (afns : List AEnt := []) : Cfg :=
  { N := d.N, sc := defScope st, fn := fun _ => true, dt := d.dt, kl := d.kl, pl := d.pl, k := k, blts := blts, fns := fns, cons := cons, md := d.md, exs := d.exs, tr := true, sw := if d.kd = 0 then none else some (d.N.length - 1), bx := d.bx, wfns := wfns, gt := d.gt, dk := d.dk, afns := afns }
def scopeOk (N ps : List Str) (sc : Scope) : Bool := (match sc.kind with | .function => true | _ => false) && !sc.isCoroutine && !sc.isGenerator && decide N.Nodup && decide (N.take ps.length = ps) &&
  (ps.all fun x => decide (sc.names.lookup x = some .local) || decide (sc.names.lookup x = some .cell)) && (sc.names.all fun y => decide (y.2 ≠ .free))
theorem scope_ok {N ps : List Str} {sc : Scope} (h : scopeOk N ps sc = true) : FnScope N ps sc := by
  unfold scopeOk at h
  simp only [Bool.and_eq_true, List.all_eq_true, decide_eq_true_eq, Bool.or_eq_true, Bool.not_eq_true'] at h
  obtain ⟨⟨⟨⟨⟨⟨h1, h2⟩, h3⟩, h4⟩, h5⟩, h6⟩, h7⟩ := h
  refine ⟨?_, h2, h3, h4, h5, h6, h7⟩
  split at h1
  · assumption
  · cases h1
def mdOk (md : Mds) : Bool := (md.all fun m => !m.own || decide (m.dp = 0)) && (List.range md.length).all fun i => (List.range md.length).all fun j => decide ((mdAt md i).dp = 0) || (decide ((mdAt md j).dp = 0) || decide (i = j))
theorem mdAt_out {md : Mds} {i : Nat} (h : md.length ≤ i) : mdAt md i = {} := by
  unfold mdAt
  rw [List.getElem?_eq_none h]
  rfl
theorem md_ok {md : Mds} (h : mdOk md = true) : MdOk md := by
  unfold mdOk at h
  rw [Bool.and_eq_true] at h
  obtain ⟨h1, h2⟩ := h
  refine ⟨fun i ho => ?_, fun i j hi hj => ?_⟩
  · by_cases hl : i < md.length
    · have h3 := List.all_eq_true.mp h1 _ (List.getElem_mem hl)
      have e : mdAt md i = md[i] := by
        unfold mdAt
        rw [List.getElem?_eq_getElem hl]
        rfl
      rw [e] at ho ⊢
      rw [ho] at h3
      simpa using h3
    · rw [mdAt_out (by omega)]
  · have li : i < md.length := by
      apply Classical.byContradiction
      intro z
      rw [mdAt_out (by omega)] at hi
      exact hi rfl
    have lj : j < md.length := by
      apply Classical.byContradiction
      intro z
      rw [mdAt_out (by omega)] at hj
      exact hj rfl
    have h3 := List.all_eq_true.mp (List.all_eq_true.mp h2 i (List.mem_range.mpr li)) j (List.mem_range.mpr lj)
    simp only [Bool.or_eq_true, decide_eq_true_eq] at h3
    rcases h3 with h3 | h3 | h3
    · exact absurd h3 hi
    · exact absurd h3 hj
    · exact h3
def parOk (ps : List Str) (md : Mds) : Bool := (List.range ps.length).all fun i => !(mdAt md i).own && (!(mdAt md i).nw && decide ((mdAt md i).dp = 0))
theorem par_ok {ps : List Str} {md : Mds} (h : parOk ps md = true) : ∀ i, i < ps.length → mdAt md i = {} := fun i hi => by
  unfold parOk at h
  have := List.all_eq_true.mp h i (List.mem_range.mpr hi)
  rw [Bool.and_eq_true, Bool.and_eq_true] at this
  obtain ⟨a, b, c⟩ := this
  cases e : mdAt md i with
  | mk o w p =>
    rw [e] at a b c
    simp only [Bool.not_eq_true', decide_eq_true_eq] at a b c
    rw [a, b, c]
/-- the head of a def's reading fits its text -/
def headOk (d : DefC) (st : Stmt) : Bool := scopeOk d.N d.ps (defScope st) && (parOk d.ps d.md && (decide (d.ps.length ≤ d.N.length) && (mdOk d.md && !hasW d.md)))
noncomputable def readDef (n m : Nat) (d : DefC) (st : Stmt) (k : Nat) (blts : List Str) (fns : List FEnt) (cons : List (Str × D)) (wfns : List WEnt := []) (afns : List AEnt := []) : Option (RSs (d.cfg st k blts fns cons wfns afns) d.fr (defBody st)) :=
  cBlock (mkRecS (mkRec n) m) (d.cfg st k blts fns cons wfns afns) d.fr (defBody st)
def DefC.ent (d : DefC) (den : DS) : FEnt := ⟨d.name, d.ps.length, d.fr, runF d.N.length den⟩
/-- what the module gives to all defs -/
structure ModOk (P : Program) (w : World) (K : PySem.W.Frag) (mg : Str → Option Value) (base : Heap) (blts : List Str) (cons : List (Str × D)) : Prop where
  blt : ∀ x, x ∈ blts → mg x = none
  cons : ∀ p, p ∈ cons → ∃ v u, mg p.1 = some u ∧ RelV v u ∧ ConP K mg w v p.2
/-- a def of the module with its meaning -/
structure HasF (P : Program) (w : World) (K : PySem.W.Frag) (mg : Str → Option Value) (base : Heap) (k : Nat) (F : FEnt) : Prop where
  ex : ∃ f fd ps, FnOk P w K mg base (L2.CX P w) k f fd ps (spD ⟨K, mg⟩ F.ar F.fresh F.den) ∧ mg F.name = some (.ref f) ∧ PySem.W.keepIn K (.ref f) = true ∧ Binds K fd ps []
structure HasW (P : Program) (w : World) (K : PySem.W.Frag) (mg : Str → Option Value) (base : Heap) (k : Nat) (F : WEnt) : Prop where
  ex : ∃ f fd ps, FnOk P w K mg base (L2.CX P w) k f fd ps (spW ⟨K, mg⟩ F.ar F.fresh F.den) ∧ mg F.name = some (.ref f) ∧ PySem.W.keepIn K (.ref f) = true ∧ Binds K fd ps []
structure HasA (P : Program) (w : World) (K : PySem.W.Frag) (mg : Str → Option Value) (base : Heap) (k : Nat) (F : AEnt) : Prop where
  ex : ∃ f fd ps, FnOk P w K mg base (L2.CX P w) k f fd ps (spA ⟨K, mg⟩ F.ar F.den) ∧ mg F.name = some (.ref f) ∧ PySem.W.keepIn K (.ref f) = true ∧ Binds K fd ps []
theorem fn_read {P : Program} {w : World} {K : PySem.W.Frag} {mg : Str → Option Value} {base : Heap} {st : Stmt} {x qual : Str} {f : Addr} {fd : FuncData} {d : DefC} {k : Nat} {blts : List Str} {fns : List FEnt} {cons : List (Str × D)}
    (F : Fun K x qual st f fd) (M : ModOk P w K mg base blts cons) (hF : ∀ F, F ∈ fns → HasF P w K mg base k F) (hX : ∀ E, E ∈ d.exs → ∃ j, j + 1 ≤ k ∧ HasX P w K mg base j E) {wfns : List WEnt} (hF' : ∀ F, F ∈ wfns → HasW P w K mg base k F) {afns : List AEnt} (hA : ∀ F, F ∈ afns → HasA P w K mg base k F) (hh : headOk d st = true) (b : RSs (d.cfg st k blts fns cons wfns afns) d.fr (defBody st)) :
    FnOk P w K mg base (L2.CX P w) (k + 1) f fd d.ps (spD ⟨K, mg⟩ d.ps.length d.fr (runF d.N.length b.f)) := by
  unfold headOk at hh
  simp only [Bool.and_eq_true, decide_eq_true_eq] at hh
  have S := scope_ok hh.1
  refine fn_ok F S rfl hh.2.2.1 (par_ok hh.2.1) (md_ok hh.2.2.2.1) (by simpa using hh.2.2.2.2) fun cdv A outer s H E hr => b.ok _ _ ?_
  exact ⟨rfl, S.nd, rfl, rfl, hr, M.blt, fun F hm => ⟨(hF F hm).ex⟩, fun p hp => ⟨M.cons p hp⟩, takes_of rfl rfl rfl rfl, passes_of rfl, fun _ _ => rfl, S.kind, hX, fun _ => ⟨rfl, rfl⟩, fun F hm => ⟨(hF' F hm).ex⟩, fun F hm => ⟨(hA F hm).ex⟩⟩
end Dl
/-! Dl13: the head's facts, the defs of the module, the end. -/
namespace Dl
open PySem PySem.Spec PyProof.Rows L2
/-! ### constants of the module -/
def conF : D → Value → Bool
  | .int i, u => (match u with
    | .int j _ => decide (i = j)
    | _ => false)
  | .str x, u => (match u with
    | .str y _ => decide (x = y)
    | _ => false)
  | _, _ => false
def conFs : List D → List Value → Bool
  | [], [] => true
  | d :: ds, u :: us => conF d u && conFs ds us
  | _, _ => false
def conB (K : PySem.W.Frag) (d : D) (u : Value) : Bool := match d with
  | .ktp ds => (match u with
    | .ref a => (match K.lookup a with
      | some ⟨.type c, none, .seq its _, _⟩ => decide (c = "tuple") && (decide (its.size ≤ sizeLine) && conFs ds its.toList)
      | _ => false)
    | _ => false)
  | d => conF d u
section
variable {K : PySem.W.Frag} {mg : Str → Option Value}
theorem conF_ok (d : D) (u : Value) (h : conF d u = true) : ∃ v, RelV v u ∧ ∀ (l : List Addr) (H : Hp) (A : Pred), Rp ⟨⟨K, mg⟩, l⟩ H A v d := by
  unfold conF at h
  split at h
  · next i =>
    split at h
    · next j t => exact ⟨.int i, ⟨t, by rw [of_decide_eq_true h]⟩, fun _ _ _ => Rp.int.mpr rfl⟩
    · cases h
  · next x =>
    split at h
    · next j t => exact ⟨.str x, ⟨t, by rw [of_decide_eq_true h]⟩, fun _ _ _ => Rp.str.mpr rfl⟩
    · cases h
  · cases h
theorem conFs_ok : ∀ (ds : List D) (us : List Value), conFs ds us = true → ∃ vs, Vals vs us ∧ ∀ (l : List Addr) (H : Hp) (A : Pred), Rps ⟨⟨K, mg⟩, l⟩ H A vs ds
  | [], [], _ => ⟨[], .nil, fun _ _ _ => .nil⟩
  | [], _ :: _, h => by cases h
  | _ :: _, [], h => by cases h
  | d :: ds, u :: us, h => by
    have h : (conF d u && conFs ds us) = true := h
    rw [Bool.and_eq_true] at h
    obtain ⟨v, r1, p1⟩ := conF_ok (K := K) (mg := mg) d u h.1
    obtain ⟨vs, r2, p2⟩ := conFs_ok ds us h.2
    exact ⟨v :: vs, .cons r1 r2, fun l H A => .cons (p1 l H A) (p2 l H A)⟩
theorem conB_ok {w : World} (d : D) (u : Value) (hn : isDct d = false) (h : conB K d u = true) : ∃ v, RelV v u ∧ ConP K mg w v d := by
  unfold conB at h
  split at h
  · next ds =>
    split at h
    · next a =>
      split at h
      · next c its n sl q =>
        simp only [Bool.and_eq_true, decide_eq_true_eq] at h
        obtain ⟨h1, h2, h3⟩ := h
        obtain ⟨vs, rv, rp⟩ := conFs_ok (K := K) (mg := mg) ds its.toList h3
        exact ⟨.ref a, rfl, fun l H A => Rp.ktp.mpr ⟨a, vs, rfl, .inr ⟨_, its, n, q, congrArg Value.type h1, rfl, h2, rv⟩, rp l H A⟩, a, _, rfl, q, congrArg Value.type h1, rfl⟩
      · cases h
    · cases h
  · next hk =>
    obtain ⟨v, r, p⟩ := conF_ok (K := K) (mg := mg) d u h
    refine ⟨v, r, ?_⟩
    cases d with
    | dic _ _ _ => cases hn
    | ktp ds => exact absurd rfl (hk ds)
    | _ => exact p
/-- a dict's entries -/
def conDs (K : PySem.W.Frag) (a : Addr) : List D → List D → Bool
  | .str z :: ks, d :: ws => !isDct d && ((match PySem.W.nsIn K a z with
    | some (some u) => conB K d u
    | _ => false) && conDs K a ks ws)
  | [], [] => true
  | _, _ => false
theorem conDs_ok {w : World} {a : Addr} {es : Array DictEntry} {n : Nat} (hd : L2.KDict K w a es n) : ∀ {ks ws : List D}, conDs K a ks ws = true → ∀ z d, lookD ks ws (.str z) = some d → ∃ u, KDct K w a z u ∧ ∀ l H A, Rp ⟨⟨K, mg⟩, l⟩ H A u d := by
  intro ks
  induction ks with
  | nil =>
    intro ws h z d e
    cases ws <;> cases e
  | cons k ks ih =>
    intro ws h z d e
    cases ws with
    | nil => cases k <;> cases h
    | cons d0 ws =>
      cases k with
      | str y =>
        unfold conDs at h
        rw [Bool.and_eq_true, Bool.and_eq_true] at h
        obtain ⟨h1, h2, h3⟩ := h
        have e : (if decide (y = z) then some d0 else lookD ks ws (.str z)) = some d := e
        by_cases hz : z = y
        · subst hz
          rw [if_pos (by simp)] at e
          cases e
          split at h2
          · next u q =>
            obtain ⟨v, r, p⟩ := conB_ok (mg := mg) (w := w) _ u (by simpa using h1) h2
            exact ⟨v, ⟨es, n, u, hd.at_, hd.lit, q, r⟩, p.rp (by simpa using h1)⟩
          · cases h2
        · rw [if_neg (by simpa using fun q => hz q.symm)] at e
          exact ih h3 z d e
      | _ => cases h
end
def conOk (K : PySem.W.Frag) (p : Str × D) : Bool := match p.2 with
  | .dic _ ks ws => (match PySem.W.nsIn K mainGlobals p.1 with
    | some (some (.ref a)) => decide (a = He.ga K p.1) && conDs K a ks ws
    | _ => false)
  | d => (match PySem.W.nsIn K mainGlobals p.1 with
    | some (some u) => conB K d u
    | _ => false)
/-- the dicts among the constants: where they stand, their keys -/
def strsOf (ks : List D) : List Str := ks.filterMap fun | .str z => some z | _ => none
def tabsOf (cs : List (Str × D)) : List He.Tab := cs.filterMap fun p => match p.2 with
  | .dic _ ks _ => some (fun K => He.ga K p.1, strsOf ks)
  | _ => none
/-! ### own exceptions of the module -/
structure XEnt where
  E : ExEnt
  self : Str
  fs : List Str
  qual : Str
  st : Stmt
def oexB (K : PySem.W.Frag) (C : Addr) : Bool := (match K.lookup C with
  | some ⟨.type "type", _, .cls cd, sl⟩ => (match cd.mro, sl.toList with
    | .ref C' :: bm, [_, _, _, _, some (.builtin n), _] => C' == C && n == "ValueError.__new__" && !cd.hasDel && cd.hasDict && PySem.HandSPX.refsVE bm
    | _, _ => false)
  | _ => false) && (decide (PySem.W.findIn K (.ref C) "__setattr__" = some (some (.builtin "object.__setattr__"))) && (decide (PySem.W.subIn K (.ref C) (.type "BaseException") = some true) && (decide (PySem.W.typeIn K (.ref C) = some (.type "type")) && PySem.W.keepIn K (.ref C))))
def exB (K : PySem.W.Frag) (x : XEnt) : Bool := oexB K (He.ga K x.E.name) && (decide (PySem.W.findIn K (.ref (He.ga K x.E.name)) "__init__" = some (some (.ref (He.ma K (He.ga K x.E.name) "__init__")))) && (decide (PySem.W.typeIn K (.ref (He.ma K (He.ga K x.E.name) "__init__")) = some (.type "function")) &&
  (xfB K (He.ga K x.E.name) && ((x.fs.all fun f => decide (PySem.W.findIn K (.ref (He.ga K x.E.name)) f = some none)) && decide (PySem.W.exmOne K (.ref (He.ga K x.E.name)) (.ref (He.ga K x.E.name)) = some true)))))
/-! ### the Hook -/
abbrev AlM : Type := Bool × He.AlT
def obsM (cs : List (Str × D)) (xs : List XEnt) (fa : List He.Fa) (fn : List He.DefD) (K : PySem.W.Frag) : AlM := (cs.all (conOk K) && xs.all (exB K), He.obsT fa fn (tabsOf cs) K)
def valM (cs : List (Str × D)) (fn : List He.DefD) (w : World) : AlM := (true, He.valT fn (tabsOf cs) w)
def SaysM (cs : List (Str × D)) (xs : List XEnt) (fa : List He.Fa) (fn : List He.DefD) (w : World) (K : PySem.W.Frag) : Prop := obsM cs xs fa fn K = valM cs fn w
def obsMG (n : Nat) (cs : List (Str × D)) (xs : List XEnt) (fa : List He.Fa) (fn : List He.DefD) (g : Addr → Option Obj) : AlM := obsM cs xs fa fn (He.frG g (He.asD g n))
def hookM (n : Nat) (cs : List (Str × D)) (xs : List XEnt) (fa : List He.Fa) (fn : List He.DefD) : PySem.W.Hook where
  α := AlM
  obs := fun s => obsMG n cs xs fa fn s.heap.get?
  val := fun w => valM cs fn w
  says := fun w h => ∃ K : PySem.W.Frag, K.In h ∧ SaysM cs xs fa fn w K
  of := fun _ _ e => ⟨_, He.frG_in, e⟩
  keeps := fun _ _ _ ⟨K, hK, c⟩ k => ⟨K, PySem.W.Frag.In.keeps hK k, c⟩
theorem obsMG_eq {n : Nat} {cs : List (Str × D)} {xs : List XEnt} {fa : List He.Fa} {fn : List He.DefD} {g : Addr → Option Obj} {s : Shared} (h : ∀ a, g a = s.heap.get? a) : obsMG n cs xs fa fn g = (hookM n cs xs fa fn).obs s := by
  have e : g = s.heap.get? := funext h
  rw [e] <;> rfl
theorem SaysM.t {cs : List (Str × D)} {xs : List XEnt} {fa : List He.Fa} {fn : List He.DefD} {w : World} {K : PySem.W.Frag} (c : SaysM cs xs fa fn w K) : He.SaysT fa fn (tabsOf cs) w K := congrArg (fun z : AlM => z.2) c
theorem SaysM.d {cs : List (Str × D)} {xs : List XEnt} {fa : List He.Fa} {fn : List He.DefD} {w : World} {K : PySem.W.Frag} (c : SaysM cs xs fa fn w K) : He.SaysD fa fn K := c.t.d
theorem SaysM.con {cs : List (Str × D)} {xs : List XEnt} {fa : List He.Fa} {fn : List He.DefD} {w : World} {K : PySem.W.Frag} (c : SaysM cs xs fa fn w K) : (∀ p, p ∈ cs → conOk K p = true) ∧ ∀ x, x ∈ xs → exB K x = true := by
  have := congrArg (fun z : AlM => z.1) c
  have this : (cs.all (conOk K) && xs.all (exB K)) = true := this
  rw [Bool.and_eq_true] at this
  exact ⟨List.all_eq_true.mp this.1, List.all_eq_true.mp this.2⟩
theorem SaysM.tab {cs : List (Str × D)} {xs : List XEnt} {fa : List He.Fa} {fn : List He.DefD} {w : World} {K : PySem.W.Frag} (c : SaysM cs xs fa fn w K) {x : Str} {t : Bool} {ks ws : List D} (h : (x, D.dic t ks ws) ∈ cs) : ∃ es n, L2.KDict K w (He.ga K x) es n := by
  have hm : ((fun K => He.ga K x, strsOf ks) : He.Tab) ∈ tabsOf cs := List.mem_filterMap.mpr ⟨_, h, rfl⟩
  obtain ⟨i, hi⟩ := List.getElem?_of_mem hm
  exact c.t.tab i hi
/-! ### the module's defs -/
def faOf (names blts : List Str) : List He.Fa := names.map He.Fa.glo ++ blts.map He.Fa.free
def ddOf (name : Str) (st : Stmt) : He.DefD := { at_ := (name, none), name := name, qual := name, params := defArgs st, body := defBody st, scope := defScope st }
def dxOf (x : XEnt) : He.DefD := { at_ := (x.E.name, some "__init__"), name := "__init__", qual := x.qual, params := defArgs x.st, body := defBody x.st, scope := defScope x.st }
def fnOfM (defs : List (Str × Stmt)) (xs : List XEnt) : List He.DefD := defs.map (fun p => ddOf p.1 p.2) ++ xs.map dxOf
def nmOfM (defs : List (Str × Stmt)) (xs : List XEnt) : List Str := defs.map (·.1) ++ xs.map (·.E.name)
/-- how the module stands: names with their defs, built-ins, constants, own exceptions -/
structure Mods (defs : List (Str × Stmt)) (blts : List Str) (cons : List (Str × D)) (xs : List XEnt) (w : World) (K : PySem.W.Frag) (mg : Str → Option Value) (base : Heap) : Prop where
  X : K.In base
  G : base.Ns mainGlobals mg
  c : SaysM cons xs (faOf (nmOfM defs xs) blts) (fnOfM defs xs) w K
section
variable {P : Program} {w : World} {K : PySem.W.Frag} {mg : Str → Option Value} {base : Heap} {defs : List (Str × Stmt)} {blts : List Str} {cons : List (Str × D)} {xs : List XEnt}
theorem Mods.mod (T : Mods defs blts cons xs w K mg base) : ModOk P w K mg base blts cons := ⟨fun x hx => by
  have : He.Fa.free x ∈ faOf (nmOfM defs xs) blts := List.mem_append_right _ (List.mem_map.mpr ⟨x, hx, rfl⟩)
  obtain ⟨i, hi⟩ := List.getElem?_of_mem this
  exact He.free_ok T.X T.G (T.c.d.fact i (f := .free x) hi), fun p hp => by
  have h := T.c.con.1 p hp
  obtain ⟨x, d⟩ := p
  cases d with
  | dic t ks ws =>
    have h : (match PySem.W.nsIn K mainGlobals x with
      | some (some (.ref a)) => decide (a = He.ga K x) && conDs K a ks ws
      | _ => false) = true := h
    split at h
    · next a q =>
      rw [Bool.and_eq_true, decide_eq_true_eq] at h
      obtain ⟨rfl, h⟩ := h
      obtain ⟨es, n, hd⟩ := T.c.tab hp
      exact ⟨.ref _, .ref _, PySem.W.mg_of T.X T.G q, rfl, _, rfl, conDs_ok hd h⟩
    · cases h
  | _ =>
    unfold conOk at h
    dsimp only at h
    split at h
    · next u q =>
      obtain ⟨v, r, rp⟩ := conB_ok (mg := mg) (w := w) _ u rfl h
      exact ⟨v, u, PySem.W.mg_of T.X T.G q, r, rp⟩
    · cases h⟩
theorem Mods.glo (T : Mods defs blts cons xs w K mg base) {i : Nat} {p : Str × Stmt} (h : defs[i]? = some p) : mg p.1 = some (.ref (He.ga K p.1)) := by
  have : He.Fa.glo p.1 ∈ faOf (nmOfM defs xs) blts := List.mem_append_left _ (List.mem_map.mpr ⟨p.1, List.mem_append_left _ (List.mem_map.mpr ⟨p, List.mem_of_getElem? h, rfl⟩), rfl⟩)
  obtain ⟨j, hj⟩ := List.getElem?_of_mem this
  exact He.glo_ok T.X T.G (T.c.d.fact j (f := .glo p.1) hj)
theorem Mods.fd (T : Mods defs blts cons xs w K mg base) {i : Nat} {p : Str × Stmt} (h : defs[i]? = some p) : ∃ fd, L2.FunD K p.1 p.1 (defArgs p.2) (defBody p.2) (defScope p.2) [] [] (He.ga K p.1) fd :=
  T.c.d.def_ i (d := ddOf p.1 p.2) (by
    unfold fnOfM
    have hl : i < defs.length := (List.getElem?_eq_some_iff.mp h).1
    rw [List.getElem?_append_left (by simpa using hl), List.getElem?_map, h]
    rfl)
theorem fun_ofD {x qual : Str} {st : Stmt} {f : Addr} {fd : FuncData} (F : FunD K x qual (defArgs st) (defBody st) (defScope st) [] [] f fd) : Fun K x qual st f fd := by
  obtain ⟨oc, od, dV, kV, doc, pm, an, cdv, ct, osl, rfl, lk, hcd, hD, hK⟩ := F.ex
  rcases hD with ⟨_, rfl⟩ | ⟨e, _⟩
  · exact ⟨⟨oc, od, kV, doc, pm, an, cdv, ct, osl, rfl, lk, hcd⟩, F.kp⟩
  · exact absurd rfl e
theorem exs_nil {k : Nat} : ∀ E, E ∈ ([] : List ExEnt) → ∃ j, j + 1 ≤ k ∧ HasX P w K mg base j E := fun E h => nomatch h
/-- how its arguments bind -/
def BindsEq (st : Stmt) (x : Str) (ps : List Str) : Prop := ∀ (kV doc pm : Value) (an : Option Addr) (cdv ct : Value) (us : List Value), us.length = ps.length → bindArgs (PySem.W.fnOf x x (defArgs st) (defBody st) (defScope st) .none kV doc pm an cdv ct) ⟨us, []⟩ = pure (ps.zip us)
theorem has_of (T : Mods defs blts cons xs w K mg base) {i : Nat} {d : DefC} {st : Stmt} (h : defs[i]? = some (d.name, st)) (hb : BindsEq st d.name d.ps) (hh : headOk d st = true) {k : Nat} {fns : List FEnt} (hF : ∀ F, F ∈ fns → HasF P w K mg base k F) (hX : ∀ E, E ∈ d.exs → ∃ j, j + 1 ≤ k ∧ HasX P w K mg base j E)
    (b : RSs (d.cfg st k blts fns cons) d.fr (defBody st)) : HasF P w K mg base (k + 1) (d.ent b.f) := by
  obtain ⟨fd, F⟩ := T.fd h
  exact ⟨He.ga K d.name, fd, d.ps, fn_read (wfns := []) (afns := []) (fun_ofD F) T.mod hF hX (fun _ z => nomatch z) (fun _ z => nomatch z) hh b, T.glo h, F.kp, (fun_ofD F).binds hb⟩
/-- nothing promised: the ground of a recursion -/
theorem has_none (T : Mods defs blts cons xs w K mg base) {i : Nat} {p : Str × Stmt} (h : defs[i]? = some p) {ps : List Str} (hb : BindsEq p.2 p.1 ps) {ar : Nat} {fr : Bool} (k : Nat) : HasF P w K mg base k ⟨p.1, ar, fr, fun _ => .bad⟩ := by
  obtain ⟨fd, F⟩ := T.fd h
  refine ⟨He.ga K p.1, fd, ps, ⟨fun vs H Q E z => ?_, fun A outer s H args us vs Q E _ _ _ _ z => ?_⟩, T.glo h, F.kp, (fun_ofD F).binds hb⟩
  · obtain ⟨T, ds, _, _, _, z⟩ := z
    exact z.elim
  · obtain ⟨T, ds, _, _, _, z⟩ := z
    exact z.elim
theorem HasF.mono {j k : Nat} {F : FEnt} (h : HasF P w K mg base j F) (l : j ≤ k) : HasF P w K mg base k F := by
  obtain ⟨f, fd, ps, ok, z⟩ := h.ex
  exact ⟨f, fd, ps, ok.mono l, z⟩
theorem HasW.mono {j k : Nat} {F : WEnt} (h : HasW P w K mg base j F) (l : j ≤ k) : HasW P w K mg base k F := by
  obtain ⟨f, fd, ps, ok, z⟩ := h.ex
  exact ⟨f, fd, ps, ok.mono l, z⟩
theorem HasA.mono {j k : Nat} {F : AEnt} (h : HasA P w K mg base j F) (l : j ≤ k) : HasA P w K mg base k F := by
  obtain ⟨f, fd, ps, ok, z⟩ := h.ex
  exact ⟨f, fd, ps, ok.mono l, z⟩
theorem fns_nil {k : Nat} : ∀ F, F ∈ ([] : List FEnt) → HasF P w K mg base k F := fun F h => nomatch h
theorem fns_cons {j k : Nat} {F : FEnt} {fs : List FEnt} (h : HasF P w K mg base j F) (l : j ≤ k) (t : ∀ F, F ∈ fs → HasF P w K mg base k F) : ∀ G, G ∈ F :: fs → HasF P w K mg base k G := fun G m => by
  rcases List.mem_cons.mp m with e | m
  · rw [e]; exact h.mono l
  · exact t G m
end
/-! ### the end -/
def frScript (ns : List Int) : D := .frl (ns.map D.int)
theorem ints_rp {K : KF} {H : Hp} {A : Pred} : ∀ ns : List Int, Rps K H A (ns.map V.int) (ns.map D.int)
  | [] => .nil
  | n :: ns => .cons (Rp.int.mpr rfl) (ints_rp ns)
theorem script_rp {K : KF} {H : Hp} {a : Addr} {ns : List Int} (hO : Only H) (hS : SqL K.k H a (ns.map V.int)) : Rp K H (fun _ => False) (.ref a) (frScript ns) := by
  refine Rp.frl.mpr ⟨a, _, rfl, ?_, ints_rp ns⟩
  rcases hS with (h | h) | h
  · rcases hO a with e | ⟨o, xs, e⟩ <;> rw [e] at h <;> cases h
  · exact .inl h
  · exact .inr h
theorem law_end {l : PySem.W.OpenLaw} {n k m : Nat} {q : Program} {loose : List Str} {XP : (Str → Option Value) → Heap → Prop} {dr : DefRec} {x : Str} {defs : List (Str × Stmt)} {blts : List Str} {cons : List (Str × D)} {xs : List XEnt} {i : Nat} {d : DefC} {st : Stmt} {fns : List FEnt}
    (hn : l.most = some n) (hn2 : n ≤ sizeLine) (hdf : dr.params.defaults = []) (hr : Room (k + 1) callerA) (hname : dr.name = d.name) (hi : defs[i]? = some (d.name, st)) (hps : d.ps = [x]) (hb : BindsEq st d.name d.ps) (hh : headOk d st = true)
    (hF : ∀ (w : World) (K : PySem.W.Frag) (mg : Str → Option Value) (base : Heap), Mods defs blts cons xs w K mg base → ∀ F, F ∈ fns → HasF l.prog w K mg base k F) (hX : ∀ (w : World) (K : PySem.W.Frag) (mg : Str → Option Value) (base : Heap), Mods defs blts cons xs w K mg base → ∀ E, E ∈ d.exs → ∃ j, j + 1 ≤ k ∧ HasX l.prog w K mg base j E) (b : RSs (d.cfg st k blts fns cons) d.fr (defBody st))
    (hden : ∀ ns : List Int, ns.length ≤ n → runF d.N.length b.f [frScript ns] = .ok (.bl true)) :
    PySem.W.WalkO q loose XP (hookM m cons xs (faOf (nmOfM defs xs) blts) (fnOfM defs xs)).says l.row.toRowW dr [] (fun f vs => PySem.call f vs) := by
  refine Att.attach_call hn hdf fun w s₀ s₁ mg mb fa o pm cd doc a vs ns G Y ho hd hcd hmg hobj hints hlen hg => ?_
  obtain ⟨K, KX, c⟩ := Y
  have T0 : Mods defs blts cons xs w K mg _ := ⟨KX, G.T.g, c⟩
  obtain ⟨fd, F⟩ := T0.fd hi
  have e := hmg.symm.trans ((congrArg mg hname).trans (T0.glo hi))
  cases e
  have e1 : d.ps.length = 1 := by rw [hps]; rfl
  refine law_call (x := x) (fd := fd) (k := k + 1) (sp := spD ⟨K, mg⟩ d.ps.length d.fr (runF d.N.length b.f)) (CX := L2.CX l.prog w) KX G.T.g G.T.b G.T.builtins G.T.nolimit hg hobj hints (Nat.le_trans hlen hn2) hr
    (fun base Kb Gb => ?_) (fun s u => ?_) (fun H hO hS => ?_) (fun H e s' h => ?_)
  · have T1 : Mods defs blts cons xs w K mg base := ⟨Kb, Gb, c⟩
    rw [← hps]
    exact fn_read (wfns := []) (fun_ofD F) T1.mod (hF w K mg base T1) (hX w K mg base T1) (fun _ z => nomatch z) (afns := []) (fun _ z => nomatch z) hh b
  · have := FunD.bindsA (ps := d.ps) F hb s [u] (by rw [hps]; rfl)
    rw [hps] at this
    exact this
  · refine ⟨⟨fun _ => False, []⟩, [frScript ns], fun _ z => z.elim, .cons (script_rp hO hS) .nil, by rw [e1]; rfl, ?_⟩
    rw [hden ns hlen]
    intro v H' s r
    generalize d.fr = fr at r
    cases fr with
    | true => exact Rp.bl.mp (show Rp ⟨⟨K, mg⟩, []⟩ H' (fun a => ∃ o, H' a = some o) v (.bl true) from Rp.imm _ _ (show Rp ⟨⟨K, mg⟩, []⟩ H' (fun a => ∃ o, H a = some o) v (.bl true) from r) rfl)
    | false => exact Rp.bl.mp (show Rp ⟨⟨K, mg⟩, []⟩ H' (fun _ => False) v (.bl true) from r)
  · obtain ⟨_, _, _, _, _, _, _, _, _, _, _, _, z⟩ := h
    exact z
end Dl
/-! Dl14: meanings reckoned: rules for simp, loops, comprehensions. -/
namespace Dl
open PySem PySem.Spec PyProof.Rows L2
/-! ### outcomes -/
section
variable {α β : Type} {env : DEnv}
@[simp] theorem bind_ok {a : α} {k : α → RG β} : (RG.ok a).bind k = k a := (rfl)
@[simp] theorem bind_bad {k : α → RG β} : (RG.bad : RG α).bind k = .bad := (rfl)
@[simp] theorem bind_exc {c : Str} {fs : Fields} {k : α → RG β} : (RG.exc c fs : RG α).bind k = .exc c fs := (rfl)
@[simp] theorem bind_ite {p : Prop} [Decidable p] {a b : RG α} {k : α → RG β} : (if p then a else b).bind k = if p then a.bind k else b.bind k := by split <;> rfl
@[simp] theorem ofO_some {a : α} : RG.ofO (some a) = .ok a := (rfl)
@[simp] theorem ofO_none : RG.ofO (none : Option α) = .bad := (rfl)
@[simp] theorem ofO_ite {p : Prop} [Decidable p] {a b : Option α} : RG.ofO (if p then a else b) = if p then RG.ofO a else RG.ofO b := by split <;> rfl
@[simp] theorem out_ok {a : α} {k : α → Out} : (RG.ok a).out env k = k a := (rfl)
@[simp] theorem out_bad {k : α → Out} : (RG.bad : RG α).out env k = .bad := (rfl)
@[simp] theorem out_exc {c : Str} {fs : Fields} {k : α → Out} : (RG.exc c fs : RG α).out env k = .exc c fs env := (rfl)
@[simp] theorem out_ite {p : Prop} [Decidable p] {a b : RG α} {k : α → Out} : (if p then a else b).out env k = if p then a.out env k else b.out env k := by split <;> rfl
def seqO (o : Out) (k : DEnv → Out) : Out := match o with
  | .nx e => k e
  | o => o
@[simp] theorem seqO_nx {e : DEnv} {k : DEnv → Out} : seqO (.nx e) k = k e := (rfl)
@[simp] theorem seqO_rt {d : D} {k : DEnv → Out} : seqO (.rt d) k = .rt d := (rfl)
@[simp] theorem seqO_bk {e : DEnv} {k : DEnv → Out} : seqO (.bk e) k = .bk e := (rfl)
@[simp] theorem seqO_ct {e : DEnv} {k : DEnv → Out} : seqO (.ct e) k = .ct e := (rfl)
@[simp] theorem seqO_bad {k : DEnv → Out} : seqO .bad k = .bad := (rfl)
@[simp] theorem seqO_exc {c : Str} {fs : Fields} {e : DEnv} {k : DEnv → Out} : seqO (.exc c fs e) k = .exc c fs e := (rfl)
@[simp] theorem seqO_ite {p : Prop} [Decidable p] {a b : Out} {k : DEnv → Out} : seqO (if p then a else b) k = if p then seqO a k else seqO b k := by split <;> rfl
@[simp] theorem dSeq_eq {f g : DS} : dSeq f g env = seqO (f env) g := by
  unfold dSeq seqO
  cases f env <;> rfl
def retO (o : Out) : RG D := match o with
  | .nx _ => .ok .non
  | .rt d => .ok d
  | .exc c fs _ => .exc c fs
  | _ => .bad
@[simp] theorem retO_nx {e : DEnv} : retO (.nx e) = .ok .non := (rfl)
@[simp] theorem retO_rt {d : D} : retO (.rt d) = .ok d := (rfl)
@[simp] theorem retO_exc {c : Str} {fs : Fields} {e : DEnv} : retO (.exc c fs e) = .exc c fs := (rfl)
@[simp] theorem retO_ite {p : Prop} [Decidable p] {a b : Out} : retO (if p then a else b) = if p then retO a else retO b := by split <;> rfl
theorem runF_eq {n : Nat} {f : DS} {ds : List D} : runF n f ds = retO (f (ds.map some ++ List.replicate (n - ds.length) none)) := by
  unfold runF retO
  cases f (ds.map some ++ List.replicate (n - ds.length) none) <;> rfl
/-- by a truth -/
def selB {γ : Type} (d : D) (a b c : γ) : γ := match d with
  | .bl true => a
  | .bl false => b
  | _ => c
@[simp] theorem selB_bl {γ : Type} {x : Bool} {a b c : γ} : selB (.bl x) a b c = if x = true then a else b := by cases x <;> rfl
@[simp high] theorem selB_and {x y : Bool} : selB (.bl x) (RG.ok (D.bl y)) (RG.ok (D.bl false)) RG.bad = RG.ok (D.bl (x && y)) := by cases x <;> rfl
@[simp high] theorem selB_or {x y : Bool} : selB (.bl x) (RG.ok (D.bl true)) (RG.ok (D.bl y)) RG.bad = RG.ok (D.bl (x || y)) := by cases x <;> rfl
@[simp] theorem dIfS_eq {c : DX} {f g : DS} : dIfS c f g env = (c env).out env fun d => selB d (f env) (g env) .bad := by
  unfold dIfS selB
  first
    | rfl
    | (congr 1; done)
    | (congr 1; funext d; cases d with
      | bl b => cases b <;> rfl
      | _ => rfl)
@[simp] theorem dAnd_eq {a b : DX} : dAnd a b env = (a env).bind fun d => selB d (b env) (.ok (.bl false)) .bad := by
  unfold dAnd selB
  first
    | rfl
    | (congr 1; done)
    | (congr 1; funext d; cases d with
      | bl b => cases b <;> rfl
      | _ => rfl)
@[simp] theorem dOr_eq {a b : DX} : dOr a b env = (a env).bind fun d => selB d (.ok (.bl true)) (b env) .bad := by
  unfold dOr selB
  first
    | rfl
    | (congr 1; done)
    | (congr 1; funext d; cases d with
      | bl b => cases b <;> rfl
      | _ => rfl)
@[simp] theorem dIf_eq {c a b : DX} : dIf c a b env = (c env).bind fun d => selB d (a env) (b env) .bad := by
  unfold dIf selB
  first
    | rfl
    | (congr 1; done)
    | (congr 1; funext d; cases d with
      | bl b => cases b <;> rfl
      | _ => rfl)
/-! ### the simple meanings -/
def getV (o : Option (Option D)) : RG D := match o with
  | some (some d) => .ok d
  | _ => .bad
@[simp] theorem getV_some {d : D} : getV (some (some d)) = .ok d := (rfl)
@[simp] theorem dVar_eq {i : Nat} : dVar i env = getV (env[i]?) := by
  unfold dVar getV
  cases env[i]? with
  | none => rfl
  | some o => cases o <;> rfl
@[simp] theorem dC_eq {d : D} : dC d env = .ok d := (rfl)
@[simp] theorem dBin_eq {g : D → D → Option D} {a b : DX} : dBin g a b env = (a env).bind fun x => (b env).bind fun y => .ofO (g x y) := (rfl)
@[simp] theorem dUn_eq {g : D → Option D} {a : DX} : dUn g a env = (a env).bind fun x => .ofO (g x) := (rfl)
def notB : D → RG D
  | .bl b => .ok (.bl (!b))
  | _ => .bad
@[simp] theorem notB_bl {b : Bool} : notB (.bl b) = .ok (.bl (!b)) := (rfl)
@[simp] theorem dNot_eq {a : DX} : dNot a env = (a env).bind notB := by
  unfold dNot
  first
    | rfl
    | (congr 1; done)
    | (congr 1; funext d; cases d <;> rfl)
@[simp] theorem dNil_eq : dNil env = .ok [] := (rfl)
@[simp] theorem dCons_eq {f : DX} {fs : DXs} : dCons f fs env = (f env).bind fun x => (fs env).bind fun xs => .ok (x :: xs) := (rfl)
@[simp] theorem dTup_eq {fs : DXs} : dTup fs env = (fs env).bind fun ds => if ds.length ≤ sizeLine then .ok (.tup ds) else .bad := (rfl)
@[simp] theorem dLst_eq {fs : DXs} : dLst fs env = (fs env).bind fun ds => if ds.length ≤ sizeLine then .ok (.lst ds) else .bad := (rfl)
@[simp] theorem dImm_eq {f : DX} : dImm f env = (f env).bind fun d => if imm d then .ok d else .bad := (rfl)
@[simp] theorem dImmL_eq {f : DX} : dImmL f env = (f env).bind fun d => if immL d then .ok d else .bad := (rfl)
@[simp] theorem dDict_eq {ks : List Str} {fs : DXs} : dDict ks fs env = (fs env).bind fun ws => if ws.all isIntD && decide (ws.length = ks.length) then .ok (.dic false (ks.map D.str) ws) else .bad := (rfl)
@[simp] theorem isIntD_int {i : Int} : isIntD (.int i) = true := (rfl)
@[simp] theorem dDictOf_eq {fs : DXs} : dDictOf fs env = (fs env).bind (oneO gDictL) := (rfl)
@[simp] theorem gDictL_lst {ds : List D} : gDictL (.lst ds) = (pairsK ds).map fun ps => .dic true (dictK ps ([], [])).1 (dictK ps ([], [])).2 := (rfl)
@[simp] theorem dRevL_eq {f : DX} : dRevL f env = (f env).bind fun x => .ofO (gRevL x) := (rfl)
@[simp] theorem gRevL_lst {ds : List D} : gRevL (.lst ds) = some (.lst ds.reverse) := (rfl)
@[simp] theorem dCall_eq {g : DF'} {fs : DXs} : dCall g fs env = (fs env).bind g := (rfl)
@[simp] theorem dCallF_eq {g : DF'} {fs : DXs} : dCallF g fs env = (fs env).bind fun ds => (g ds).bind onlyL := (rfl)
@[simp] theorem dDict1_eq {fk fv : DX} : dDict1 fk fv env = (fk env).bind fun k => (fv env).bind fun v => if keyFits true k && imm v then .ok (.dic true [k] [v]) else .bad := (rfl)
@[simp] theorem endK_nx {i : Nat} {e : DEnv} : endK i (.nx e) = .nx (e.set i none) := (rfl)
@[simp] theorem endK_rt {i : Nat} {d : D} : endK i (.rt d) = .rt d := (rfl)
theorem dForK_eq {i : Nat} {gd : D → DEnv → Option DEnv} {body : DS} {ks : List Nat} {t : Bool} {keys ws : List D} (h : env[i]? = some (some (.dic t keys ws))) : dForK i gd body ks env = endK i (forGo gd body ks keys env) := by
  unfold dForK
  rw [h]
@[simp] theorem dCallA_eq {g : DF'} {fs : DXs} : dCallA g fs env = (fs env).bind fun ds => (g ds).bind anyL := (rfl)
@[simp] theorem anyL_lst {ds : List D} : anyL (.lst ds) = .ok (.lst ds) := (rfl)
@[simp] theorem anyL_dic {t : Bool} {ks ws : List D} : anyL (.dic t ks ws) = .ok (.dic t ks ws) := (rfl)
@[simp] theorem anyL_tup {ds : List D} : anyL (.tup ds) = if imm (.tup ds) then .ok (.tup ds) else .bad := (rfl)
@[simp] theorem anyL_non : anyL .non = .ok .non := (rfl)
@[simp] theorem anyL_int {i : Int} : anyL (.int i) = .ok (.int i) := (rfl)
@[simp] theorem anyL_bl {b : Bool} : anyL (.bl b) = .ok (.bl b) := (rfl)
@[simp] theorem anyL_str {s : Str} : anyL (.str s) = .ok (.str s) := (rfl)
@[simp] theorem onlyL_lst {ds : List D} : onlyL (.lst ds) = .ok (.lst ds) := (rfl)
@[simp] theorem onlyL_dic {t : Bool} {ks ws : List D} : onlyL (.dic t ks ws) = .ok (.dic t ks ws) := (rfl)
@[simp] theorem dCallO_eq {g : List D → Option D} {fs : DXs} : dCallO g fs env = (fs env).bind fun ds => .ofO (g ds) := (rfl)
def lstO (o : Option (List D)) : RG D := match o with
  | some xs => .ok (.lst xs)
  | none => .bad
@[simp] theorem lstO_some {xs : List D} : lstO (some xs) = .ok (.lst xs) := (rfl)
def oneL (ds : List D) : RG D := match ds with
  | [d] => lstO (gList d)
  | _ => .bad
@[simp] theorem oneL_one {d : D} : oneL [d] = lstO (gList d) := (rfl)
@[simp] theorem dListOf_eq {fs : DXs} : dListOf fs env = (fs env).bind oneL := by
  unfold dListOf
  cases fs env with
  | ok ds =>
    match ds with
    | [] => rfl
    | [d] => show (match gList d with | some xs => RG.ok (D.lst xs) | none => RG.bad) = lstO (gList d); cases gList d <;> rfl
    | _ :: _ :: _ => rfl
  | exc c f => rfl
  | bad => rfl
@[simp] theorem dItems_eq {f : DX} : dItems f env = (f env).bind fun d => .ofO (itemsD d) := (rfl)
@[simp] theorem dIsT_eq {t : TyN} {f : DX} : dIsT t f env = (f env).bind fun d => .ofO (gIsT t d) := (rfl)
@[simp] theorem dNo_eq : dNo env = .ok none := (rfl)
def intO (d : D) : RG (Option Int) := match d with
  | .int i => .ok (some i)
  | _ => .bad
@[simp] theorem intO_int {i : Int} : intO (.int i) = .ok (some i) := (rfl)
@[simp] theorem dPart_eq {f : DX} : dPart f env = (f env).bind intO := by
  unfold dPart
  first
    | rfl
    | (congr 1; done)
    | (congr 1; funext d; cases d <;> rfl)
@[simp] theorem dSl_eq {f : DX} {l h : DEnv → RG (Option Int)} : dSl f l h env = (f env).bind fun x => (l env).bind fun i => (h env).bind fun j => .ofO (gSl x i j) := (rfl)
@[simp] theorem dSlL_eq {f : DX} {l h : DEnv → RG (Option Int)} : dSlL f l h env = (f env).bind fun x => (l env).bind fun i => (h env).bind fun j => .ofO (gSlL x i j) := (rfl)
@[simp] theorem dNext_eq : dNext env = .nx env := (rfl)
@[simp] theorem dBreak_eq : dBreak env = .bk env := (rfl)
@[simp] theorem dCont_eq : dCont env = .ct env := (rfl)
@[simp] theorem dNever_eq : dNever env = .bad := (rfl)
@[simp] theorem dDrop_eq {f : DX} : dDrop f env = (f env).out env fun _ => .nx env := (rfl)
@[simp] theorem dSet_eq {i : Nat} {f : DX} : dSet i f env = (f env).out env fun d => .nx (env.set i (some d)) := (rfl)
@[simp] theorem dParL_eq {is : List Nat} {fs : DXs} : dParL is fs env = (fs env).out env fun ds => if ds.length = is.length then .nx ((is.zip ds).foldl (fun e p => e.set p.1 (some p.2)) env) else .bad := (rfl)
@[simp] theorem dRet_eq {f : DX} : dRet f env = (f env).out env fun d => .rt d := (rfl)
@[simp] theorem dRetV_eq {f : DX} : dRetV f env = (f env).out env fun d => if isLD d then .bad else .rt d := (rfl)
def nxO (o : Option DEnv) : Out := match o with
  | some e => .nx e
  | none => .bad
@[simp] theorem nxO_some {e : DEnv} : nxO (some e) = .nx e := (rfl)
@[simp] theorem dUnp_eq {gd : D → DEnv → Option DEnv} {f : DX} : dUnp gd f env = (f env).out env fun d => nxO (gd d env) := by
  unfold dUnp nxO
  first
    | rfl
    | (congr 1; done)
    | (congr 1; funext d; cases gd d env <;> rfl)
@[simp] theorem gdName_eq {i : Nat} {d : D} : gdName i d env = some (env.set i (some d)) := (rfl)
@[simp] theorem gdNil_eq : gdNil [] env = some env := (rfl)
@[simp] theorem gdCons_eq {g : D → DEnv → Option DEnv} {gs : List D → DEnv → Option DEnv} {d : D} {r : List D} : gdCons g gs (d :: r) env = (g d env).bind (gs r) := (rfl)
@[simp] theorem gdTup_tup {n : Nat} {gs : List D → DEnv → Option DEnv} {ds : List D} : gdTup n gs (.tup ds) env = if ds.length = n then gs ds env else none := (rfl)
@[simp] theorem gdTup_lst {n : Nat} {gs : List D → DEnv → Option DEnv} {ds : List D} : gdTup n gs (.lst ds) env = if ds.length = n then gs ds env else none := (rfl)
@[simp] theorem gdTup_ktp {n : Nat} {gs : List D → DEnv → Option DEnv} {ds : List D} : gdTup n gs (.ktp ds) env = if ds.length = n then gs ds env else none := (rfl)
def appO (i : Nat) (env : DEnv) (o : Option (Option D)) (d : D) : Out := match o with
  | some (some (.lst ds)) => if ds.length < sizeLine then .nx (env.set i (some (.lst (ds ++ [d])))) else .bad
  | _ => .bad
@[simp] theorem appO_lst {i : Nat} {ds : List D} {d : D} : appO i env (some (some (.lst ds))) d = if ds.length < sizeLine then .nx (env.set i (some (.lst (ds ++ [d])))) else .bad := (rfl)
def putO (i : Nat) (env : DEnv) (o : Option D) : Out := match o with
  | some d => .nx (env.set i (some d))
  | none => .bad
@[simp] theorem putO_some {i : Nat} {d : D} : putO i env (some d) = .nx (env.set i (some d)) := (rfl)
def lstSel (o : Option (Option D)) (k : List D → Out) : Out := match o with
  | some (some (.lst ds)) => k ds
  | _ => .bad
@[simp] theorem lstSel_lst {ds : List D} {k : List D → Out} : lstSel (some (some (.lst ds))) k = k ds := (rfl)
@[simp] theorem dApp_simp {i : Nat} {f : DX} : dApp i f env = lstSel (env[i]?) fun ds => (f env).out env fun d => if ds.length < sizeLine then .nx (env.set i (some (.lst (ds ++ [d])))) else .bad := by
  unfold dApp lstSel
  cases env[i]? with
  | none => rfl
  | some o =>
    cases o with
    | none => rfl
    | some d => cases d <;> rfl
def getSel (o : Option (Option D)) (k : D → Out) : Out := match o with
  | some (some d) => k d
  | _ => .bad
@[simp] theorem getSel_some {d : D} {k : D → Out} : getSel (some (some d)) k = k d := (rfl)
@[simp] theorem dPut_simp {i : Nat} {fk f : DX} : dPut i fk f env = (f env).out env fun w => getSel (env[i]?) fun d => (fk env).out env fun k => putO i env (putD d k w) := by
  unfold dPut
  cases f env with
  | exc c fs => rfl
  | bad => rfl
  | ok w =>
    show (match env[i]? with | some (some d) => _ | _ => _) = getSel (env[i]?) _
    cases env[i]? with
    | none => rfl
    | some o =>
      cases o with
      | none => rfl
      | some d =>
        show (fk env).out env _ = (fk env).out env _
        cases fk env with
        | exc c fs => rfl
        | bad => rfl
        | ok k =>
          show (match putD d k w with | some d' => _ | none => _) = putO i env (putD d k w)
          cases putD d k w <;> rfl
@[simp] theorem dMove_simp {i j : Nat} : dMove i j env = getSel (env[j]?) fun d => if isLD d = true then .nx ((env.set j none).set i (some d)) else .bad := by
  unfold dMove getSel
  cases env[j]? with
  | none => rfl
  | some o => cases o <;> rfl
@[simp] theorem isLD_lst {ds : List D} : isLD (.lst ds) = true := (rfl)
@[simp] theorem isLD_dic {t : Bool} {ks ws : List D} : isLD (.dic t ks ws) = true := (rfl)
/-! exceptions -/
def tryO (E : ExEnt) (n i : Nat) (tp : Bool) (fl : List Str) (o : Out) : Out := match o with
  | .exc c fs e => if c = E.name ∧ n < e.length then (match (pickF fs fl).bind (mkF tp) with
    | some d => .nx (((e.set n none).set i (some d)).set n none)
    | none => .bad) else .bad
  | o => o
@[simp] theorem dTryE_eq {E : ExEnt} {f : DS} {n i : Nat} {tp : Bool} {fl : List Str} : dTryE E f n i tp fl env = tryO E n i tp fl (f env) := by
  unfold dTryE tryO
  cases f env <;> rfl
@[simp] theorem tryO_nx {E : ExEnt} {n i : Nat} {tp : Bool} {fl : List Str} {e : DEnv} : tryO E n i tp fl (.nx e) = .nx e := (rfl)
def setO (e : DEnv) (n i : Nat) (o : Option D) : Out := match o with
  | some d => .nx (((e.set n none).set i (some d)).set n none)
  | none => .bad
@[simp] theorem setO_some {e : DEnv} {n i : Nat} {d : D} : setO e n i (some d) = .nx (((e.set n none).set i (some d)).set n none) := (rfl)
@[simp] theorem dRaise_eq {E : ExEnt} {fs : DXs} : dRaise E fs env = (fs env).out env fun ds => if decide (ds.length = E.ps.length) && ds.all smallD then .exc E.name (E.ps.zip ds) env else .bad := (rfl)
/-! insert, get -/
def insO (i : Nat) (env : DEnv) (ds as : List D) : Out := match as with
  | [.int j, d] => if decide (ds.length < sizeLine) && (decide (0 ≤ j) && lim62 j) then .nx (env.set i (some (.lst (ds.take j.toNat ++ [d] ++ ds.drop j.toNat)))) else .bad
  | _ => .bad
@[simp] theorem dIns_simp {i : Nat} {fs : DXs} : dIns i fs env = lstSel (env[i]?) fun ds => (fs env).out env fun as => insO i env ds as := by
  unfold dIns lstSel
  cases env[i]? with
  | none => rfl
  | some o => cases o with
    | none => rfl
    | some d => cases d <;> rfl
@[simp] theorem dGet_eq {fo fk fd : DX} : dGet fo fk fd env = (fo env).bind fun d => if isDicD d = false then .bad else (fk env).bind fun k => (fd env).bind fun z => .ofO (gGet d k z) := (rfl)
@[simp] theorem isDicD_dic {t : Bool} {ks ws : List D} : isDicD (.dic t ks ws) = true := (rfl)
@[simp] theorem killD_nil : killD env [] = env := (rfl)
@[simp] theorem killD_cons {k : Nat} {ks : List Nat} : killD env (k :: ks) = killD (env.set k none) ks := (rfl)
@[simp] theorem wipeD_nil : wipeD env [] = env := (rfl)
@[simp] theorem wipeD_cons {k : Nat} {ks : List Nat} : wipeD env (k :: ks) = (wipeD env ks).set k none := (rfl)
end
/-! ### operators -/
@[simp] theorem gAdd_int {i j : Int} : gAdd (.int i) (.int j) = some (.int (i + j)) := (rfl)
@[simp] theorem gAdd_lst {xs ys : List D} : gAdd (.lst xs) (.lst ys) = if xs.length + ys.length ≤ sizeLine then some (.lst (xs ++ ys)) else none := (rfl)
@[simp] theorem gAdd_tup {xs ys : List D} : gAdd (.tup xs) (.tup ys) = if xs.length + ys.length ≤ sizeLine then some (.tup (xs ++ ys)) else none := (rfl)
@[simp] theorem gCatL_lst {xs ys : List D} : gCatL (.lst xs) (.lst ys) = if xs.length + ys.length ≤ sizeLine then some (.lst (xs ++ ys)) else none := (rfl)
@[simp] theorem gSubI_int {i j : Int} : gSubI (.int i) (.int j) = some (.int (i - j)) := (rfl)
theorem lim64_of {i : Int} (h : -(2 ^ 63) ≤ i) (h' : i ≤ 2 ^ 63) : lim64 i = true := by
  unfold lim64
  simp only [Bool.and_eq_true, decide_eq_true_eq]
  omega
@[simp] theorem gMulI_r {i j : Int} (h : -(2 ^ 63) ≤ j) (h' : j ≤ 2 ^ 63) : gMulI (.int i) (.int j) = some (.int (i * j)) := by
  show (if (lim64 i || lim64 j) = true then some (D.int (i * j)) else none) = _
  rw [if_pos (by rw [lim64_of h h', Bool.or_true])]
@[simp] theorem gMulI_l {i j : Int} (h : -(2 ^ 63) ≤ i) (h' : i ≤ 2 ^ 63) : gMulI (.int i) (.int j) = some (.int (i * j)) := by
  show (if (lim64 i || lim64 j) = true then some (D.int (i * j)) else none) = _
  rw [if_pos (by rw [lim64_of h h', Bool.true_or])]
@[simp] theorem gModI_pos {i j : Int} (h : 0 < j) : gModI (.int i) (.int j) = some (.int (i % j)) := by
  show (if decide (0 < j) = true then some (D.int (i % j)) else none) = _
  rw [if_pos (decide_eq_true h)]
@[simp] theorem gFdivI_pos {i j : Int} (h : 0 < j) (h' : j < 1073741824) : gFdivI (.int i) (.int j) = some (.int (i / j)) := by
  show (if (decide (0 < j) && decide (j < 1073741824)) = true then some (D.int (i / j)) else none) = _
  rw [if_pos (by rw [decide_eq_true h, decide_eq_true h']; rfl)]
@[simp] theorem gPowI_ok {i j : Int} (h0 : 0 ≤ j) (h1 : j ≤ 1000000) (h2 : -(2 ^ 63) ≤ i) (h3 : i ≤ 2 ^ 63) : gPowI (.int i) (.int j) = some (.int (i ^ j.toNat)) := by
  have h4 : i.natAbs < 2 ^ 64 := by omega
  show (if (decide (0 ≤ j) && (decide (j ≤ 1000000) && decide (i.natAbs < 2 ^ 64))) = true then some (D.int (i ^ j.toNat)) else none) = _
  rw [if_pos (by rw [decide_eq_true h0, decide_eq_true h1, decide_eq_true h4]; rfl)]
@[simp] theorem gNeg_int {i : Int} : gNeg (.int i) = some (.int (-i)) := (rfl)
@[simp] theorem gCmpI_int {p : Int → Int → Bool} {i j : Int} : gCmpI p (.int i) (.int j) = some (.bl (p i j)) := (rfl)
@[simp] theorem gLt_int {i j : Int} : gLt (.int i) (.int j) = some (.bl (decide (i < j))) := (rfl)
@[simp] theorem gIsN_non {d : D} : gIsN d .non = some (.bl (isNon d)) := (rfl)
@[simp] theorem gNotN_non {d : D} : gNotN d .non = some (.bl (!isNon d)) := (rfl)
@[simp] theorem isNon_non : isNon .non = true := (rfl)
@[simp] theorem isNon_int {i : Int} : isNon (.int i) = false := (rfl)
@[simp] theorem isNon_bl {i : Bool} : isNon (.bl i) = false := (rfl)
@[simp] theorem isNon_str {i : Str} : isNon (.str i) = false := (rfl)
@[simp] theorem isNon_tup {i : List D} : isNon (.tup i) = false := (rfl)
@[simp] theorem isNon_lst {i : List D} : isNon (.lst i) = false := (rfl)
@[simp] theorem imm_int {i : Int} : imm (.int i) = true := (rfl)
@[simp] theorem imm_bl {i : Bool} : imm (.bl i) = true := (rfl)
@[simp] theorem imm_str {i : Str} : imm (.str i) = true := (rfl)
@[simp] theorem imm_non : imm .non = true := (rfl)
@[simp] theorem imm_tup {ds : List D} : imm (.tup ds) = imms ds := by simp [imm]
@[simp] theorem imms_nil : imms [] = true := (rfl)
@[simp] theorem imms_cons {d : D} {ds : List D} : imms (d :: ds) = (imm d && imms ds) := (rfl)
@[simp] theorem immL_lst {ds : List D} : immL (.lst ds) = imms ds := (rfl)
@[simp] theorem isLD_tup {ds : List D} : isLD (.tup ds) = false := (rfl)
@[simp] theorem isLD_int {ds : Int} : isLD (.int ds) = false := (rfl)
@[simp] theorem isLD_bl {ds : Bool} : isLD (.bl ds) = false := (rfl)
@[simp] theorem isLD_str {ds : Str} : isLD (.str ds) = false := (rfl)
@[simp] theorem isLD_non : isLD .non = false := (rfl)
@[simp] theorem gList_lst {ds : List D} : gList (.lst ds) = some ds := (rfl)
@[simp] theorem gList_dic {ks ws : List D} : gList (.dic true ks ws) = some ks := (rfl)
@[simp] theorem gTuple_lst {ds : List D} : gTuple [.lst ds] = some (.tup ds) := (rfl)
@[simp] theorem gTuple_tup {ds : List D} : gTuple [.tup ds] = some (.tup ds) := (rfl)
@[simp] theorem itemsD_lst {ds : List D} : itemsD (.lst ds) = some ds := (rfl)
@[simp] theorem itemsD_tup {ds : List D} : itemsD (.tup ds) = some ds := (rfl)
@[simp] theorem itemsD_frl {ds : List D} : itemsD (.frl ds) = some ds := (rfl)
@[simp] theorem itemsD_ktp {ds : List D} : itemsD (.ktp ds) = some ds := (rfl)
@[simp] theorem gLen_lst {ds : List D} : gLen [.lst ds] = some (.int ds.length) := (rfl)
@[simp] theorem gLen_tup {ds : List D} : gLen [.tup ds] = some (.int ds.length) := (rfl)
@[simp] theorem gLen_frl {ds : List D} : gLen [.frl ds] = some (.int ds.length) := (rfl)
@[simp] theorem gMax_two {i j : Int} : gMax [.int i, .int j] = some (.int (maxI i j)) := (rfl)
@[simp] theorem gMin_two {i j : Int} : gMin [.int i, .int j] = some (.int (minI i j)) := (rfl)
@[simp] theorem gAbs_int {i : Int} : gAbs [.int i] = some (.int (if i < 0 then -i else i)) := (rfl)
theorem intsOf_map : ∀ ns : List Int, intsOf (ns.map D.int) = some ns
  | [] => rfl
  | n :: ns => by
    show (intsOf (ns.map D.int)).map (n :: ·) = _
    rw [intsOf_map ns]
    rfl
theorem blsOf_map : ∀ ns : List Bool, blsOf (ns.map D.bl) = some ns
  | [] => rfl
  | n :: ns => by
    show (blsOf (ns.map D.bl)).map (n :: ·) = _
    rw [blsOf_map ns]
    rfl
@[simp] theorem gAll_map {bs : List Bool} : gAll [.lst (bs.map D.bl)] = some (.bl (bs.all id)) := by
  show (blsOf (bs.map D.bl)).map _ = _
  rw [blsOf_map]
  rfl
@[simp] theorem gAny_map {bs : List Bool} : gAny [.lst (bs.map D.bl)] = some (.bl (bs.any id)) := by
  show (blsOf (bs.map D.bl)).map _ = _
  rw [blsOf_map]
  rfl
@[simp] theorem gSum_map {ns : List Int} : gSum [.lst (ns.map D.int)] = some (.int ns.sum) := by
  show (intsOf (ns.map D.int)).map _ = _
  rw [intsOf_map]
  rfl
@[simp] theorem gSl_lst {ds : List D} {l h : Option Int} : gSl (.lst ds) l h = some (.lst (cutD ds l h)) := (rfl)
@[simp] theorem gSl_frl {ds : List D} {l h : Option Int} : gSl (.frl ds) l h = some (.lst (cutD ds l h)) := (rfl)
@[simp] theorem gSl_tup {ds : List D} {l h : Option Int} : gSl (.tup ds) l h = some (.tup (cutD ds l h)) := (rfl)
@[simp] theorem gSlL_lst {ds : List D} {l h : Option Int} : gSlL (.lst ds) l h = some (.lst (cutD ds l h)) := (rfl)
@[simp] theorem gSlL_frl {ds : List D} {l h : Option Int} : gSlL (.frl ds) l h = some (.lst (cutD ds l h)) := (rfl)
@[simp] theorem gIx_lst {ds : List D} {i : Int} : gIx (.lst ds) (.int i) = atI ds i := (rfl)
@[simp] theorem gIx_tup {ds : List D} {i : Int} : gIx (.tup ds) (.int i) = atI ds i := (rfl)
@[simp] theorem gIx_ktp {ds : List D} {i : Int} : gIx (.ktp ds) (.int i) = atI ds i := (rfl)
@[simp] theorem gIx_frl {ds : List D} {i : Int} : gIx (.frl ds) (.int i) = atI ds i := (rfl)
theorem atI_of {α : Type} {xs : List α} {i : Int} {x : α} (h0 : 0 ≤ i) (h : xs[i.toNat]? = some x) : atI xs i = some x := by
  have hl := (List.getElem?_eq_some_iff.mp h).1
  unfold atI ixN
  rw [if_pos h0, if_pos (by omega)]
  exact h
@[simp] theorem atI_zero {α : Type} {x : α} {xs : List α} : atI (x :: xs) 0 = some x := atI_of (by decide) rfl
theorem atI_natL0 {α : Type} (l : List α) (m : Nat) : atI l (Int.ofNat m) = l[m]? := by
  unfold atI ixN
  rw [if_pos (by simp)]
  by_cases h : m < l.length
  · rw [if_pos (by simpa using h)]; rfl
  · rw [if_neg (by simpa using h), List.getElem?_eq_none (by omega)]; rfl
@[simp] theorem atI_lit {α : Type} (l : List α) (n : Nat) : atI l (no_index (OfNat.ofNat n : Int)) = l[n]? := atI_natL0 l n
theorem atI_natL {α : Type} (l : List α) (m : Nat) : atI l (m : Int) = l[m]? := by
  unfold atI ixN
  rw [if_pos (by simp)]
  by_cases h : m < l.length
  · rw [if_pos (by simpa using h)]; rfl
  · rw [if_neg (by simpa using h), List.getElem?_eq_none (by omega)]; rfl
theorem atI_lastL {α : Type} (l : List α) : atI l (-1) = l.getLast? := by
  unfold atI ixN
  rw [if_neg (by decide)]
  cases l with
  | nil => rfl
  | cons x r =>
    rw [if_pos (by simp; omega), List.getLast?_eq_getElem?]
    show (x :: r)[((-1 : Int) + ((x :: r).length : Int)).toNat]? = _
    have : ((-1 : Int) + ((x :: r).length : Int)).toNat = (x :: r).length - 1 := by omega
    rw [this]
@[simp] theorem le_size {n : Nat} (h : n ≤ 1000000) : n ≤ sizeLine := Nat.le_trans h (by decide)
@[simp] theorem lt_size {n : Nat} (h : n ≤ 1000000) : n < sizeLine := Nat.lt_of_le_of_lt h (by decide)
@[simp] theorem gIsT_eq {t : TyN} {d : D} (h : noDict d = true) : gIsT t d = some (.bl (isTy t d)) := by
  unfold gIsT
  rw [if_pos h]
/-! ### loops -/
section
variable {gd : D → DEnv → Option DEnv} {body : DS} {ks : List Nat}
def forK (gd : D → DEnv → Option DEnv) (body : DS) (ks : List Nat) (r : List D) (o : Out) : Out := match o with
  | .nx e2 => forGo gd body ks r (killD e2 ks)
  | .ct e2 => forGo gd body ks r (killD e2 ks)
  | .bk e2 => .nx e2
  | o => o
theorem forGo_cons {d : D} {r : List D} {env e1 : DEnv} (h : gd d env = some e1) : forGo gd body ks (d :: r) env = forK gd body ks r (body e1) := by
  have e : forGo gd body ks (d :: r) env = (match gd d env with | none => Out.bad | some e1 => forK gd body ks r (body e1)) := by
    conv => lhs; unfold forGo
    cases gd d env with
    | none => rfl
    | some e =>
      unfold forK
      dsimp only
      try (cases body e <;> rfl)
  rw [e, h]
theorem forGo_inv0 {α : Type} {enc : α → D} (all : List α) (I : List α → DEnv → Prop) (step : ∀ (pre : List α) (x : α) (post : List α) (env : DEnv), all = pre ++ x :: post → I pre env → ∃ e1, gd (enc x) env = some e1 ∧ ∃ e2, (body e1 = .nx e2 ∨ body e1 = .ct e2) ∧ I (pre ++ [x]) (killD e2 ks)) :
    ∀ (xs pre : List α) (env : DEnv), all = pre ++ xs → I pre env → ∃ env', forGo gd body ks (xs.map enc) env = .nx env' ∧ I all env'
  | [], pre, env, ha, h => ⟨env, rfl, by rw [List.append_nil] at ha; rw [ha]; exact h⟩
  | x :: xs, pre, env, ha, h => by
    obtain ⟨e1, h1, e2, h2, h3⟩ := step pre x xs env ha h
    obtain ⟨env', h4, h5⟩ := forGo_inv0 all I step xs (pre ++ [x]) (killD e2 ks) (by simp [ha]) h3
    refine ⟨env', ?_, h5⟩
    rw [List.map_cons, forGo_cons h1]
    rcases h2 with h2 | h2 <;> rw [h2] <;> exact h4
/-- a loop that is gone through: I holds between the turns -/
theorem forGo_inv {α : Type} {enc : α → D} (I : List α → DEnv → Prop) (xs : List α) {env : DEnv} (h : I [] env) (step : ∀ (pre : List α) (x : α) (post : List α) (env : DEnv), xs = pre ++ x :: post → I pre env → ∃ e1, gd (enc x) env = some e1 ∧ ∃ e2, (body e1 = .nx e2 ∨ body e1 = .ct e2) ∧ I (pre ++ [x]) (killD e2 ks)) :
    ∃ env', forGo gd body ks (xs.map enc) env = .nx env' ∧ I xs env' := forGo_inv0 xs I step xs [] env rfl h
theorem forGo_exit0 {α : Type} {enc : α → D} (all : List α) (I : List α → DEnv → Prop) (E : Out → Prop) (step : ∀ (pre : List α) (x : α) (post : List α) (env : DEnv), all = pre ++ x :: post → I pre env → ∃ e1, gd (enc x) env = some e1 ∧ ((∃ e2, (body e1 = .nx e2 ∨ body e1 = .ct e2) ∧ I (pre ++ [x]) (killD e2 ks)) ∨ (∃ d, body e1 = .rt d ∧ E (.rt d)) ∨ (∃ e2, body e1 = .bk e2 ∧ E (.nx e2)) ∨ ∃ c fs e2, body e1 = .exc c fs e2 ∧ E (.exc c fs e2))) :
    ∀ (xs pre : List α) (env : DEnv), all = pre ++ xs → I pre env → E (forGo gd body ks (xs.map enc) env) ∨ ∃ env', forGo gd body ks (xs.map enc) env = .nx env' ∧ I all env'
  | [], pre, env, ha, h => .inr ⟨env, rfl, by rw [List.append_nil] at ha; rw [ha]; exact h⟩
  | x :: xs, pre, env, ha, h => by
    obtain ⟨e1, h1, h2⟩ := step pre x xs env ha h
    rw [List.map_cons, forGo_cons h1]
    rcases h2 with ⟨e2, h2, h3⟩ | ⟨d, h2, h3⟩ | ⟨e2, h2, h3⟩ | ⟨c, fs, e2, h2, h3⟩
    · rcases forGo_exit0 all I E step xs (pre ++ [x]) (killD e2 ks) (by simp [ha]) h3 with h4 | ⟨env', h4, h5⟩
      · refine .inl ?_
        rcases h2 with h2 | h2 <;> rw [h2] <;> exact h4
      · refine .inr ⟨env', ?_, h5⟩
        rcases h2 with h2 | h2 <;> rw [h2] <;> exact h4
    · rw [h2]; exact .inl h3
    · rw [h2]; exact .inl h3
    · rw [h2]; exact .inl h3
/-- a loop that may be left by a return or a break -/
theorem forGo_exit {α : Type} {enc : α → D} (I : List α → DEnv → Prop) (E : Out → Prop) (xs : List α) {env : DEnv} (h : I [] env) (step : ∀ (pre : List α) (x : α) (post : List α) (env : DEnv), xs = pre ++ x :: post → I pre env → ∃ e1, gd (enc x) env = some e1 ∧ ((∃ e2, (body e1 = .nx e2 ∨ body e1 = .ct e2) ∧ I (pre ++ [x]) (killD e2 ks)) ∨ (∃ d, body e1 = .rt d ∧ E (.rt d)) ∨ (∃ e2, body e1 = .bk e2 ∧ E (.nx e2)) ∨ ∃ c fs e2, body e1 = .exc c fs e2 ∧ E (.exc c fs e2))) :
    E (forGo gd body ks (xs.map enc) env) ∨ ∃ env', forGo gd body ks (xs.map enc) env = .nx env' ∧ I xs env' := forGo_exit0 xs I E step xs [] env rfl h
theorem forGo_fold0 {α β : Type} {enc : α → D} (en : β → DEnv) (f : β → α → β) (P : List α → β → Prop) (all : List α) (step : ∀ (pre : List α) (x : α) (post : List α) (b : β), all = pre ++ x :: post → P pre b → ∃ e1, gd (enc x) (en b) = some e1 ∧ ∃ e2, (body e1 = .nx e2 ∨ body e1 = .ct e2) ∧ killD e2 ks = en (f b x) ∧ P (pre ++ [x]) (f b x)) :
    ∀ (xs pre : List α) (b : β), all = pre ++ xs → P pre b → forGo gd body ks (xs.map enc) (en b) = .nx (en (xs.foldl f b)) ∧ P all (xs.foldl f b)
  | [], pre, b, ha, h => ⟨rfl, by rw [List.append_nil] at ha; rw [ha]; exact h⟩
  | x :: xs, pre, b, ha, h => by
    obtain ⟨e1, h1, e2, h2, h3, h4⟩ := step pre x xs b ha h
    obtain ⟨h5, h6⟩ := forGo_fold0 en f P all step xs (pre ++ [x]) (f b x) (by simp [ha]) h4
    refine ⟨?_, h6⟩
    rw [List.map_cons, forGo_cons h1, List.foldl_cons, ← h5, ← h3]
    rcases h2 with h2 | h2 <;> rw [h2] <;> rfl
/-- a loop that folds -/
theorem forGo_fold {α β : Type} {enc : α → D} (en : β → DEnv) (f : β → α → β) (P : List α → β → Prop) (xs : List α) (b : β) (h : P [] b) (step : ∀ (pre : List α) (x : α) (post : List α) (b : β), xs = pre ++ x :: post → P pre b → ∃ e1, gd (enc x) (en b) = some e1 ∧ ∃ e2, (body e1 = .nx e2 ∨ body e1 = .ct e2) ∧ killD e2 ks = en (f b x) ∧ P (pre ++ [x]) (f b x)) :
    forGo gd body ks (xs.map enc) (en b) = .nx (en (xs.foldl f b)) ∧ P xs (xs.foldl f b) := forGo_fold0 en f P xs step xs [] b rfl h
end
theorem pre_lt {α : Type} {xs pre post : List α} {x : α} (h : xs = pre ++ x :: post) : pre.length < xs.length := by rw [h]; simp
theorem pre_mem {α : Type} {xs pre post : List α} {x : α} (h : xs = pre ++ x :: post) : x ∈ xs := by rw [h]; simp
theorem pre_range {n : Nat} {pre post : List Nat} {x : Nat} (h : List.range n = pre ++ x :: post) : x = pre.length ∧ pre.length < n := by
  have h1 : (List.range n)[pre.length]? = some x := by rw [h]; simp
  obtain ⟨h2, h3⟩ := List.getElem?_eq_some_iff.mp h1
  rw [List.getElem_range] at h3
  exact ⟨h3.symm, by simpa using h2⟩
theorem dFor_ok {src : DXs} {gd : D → DEnv → Option DEnv} {body : DS} {ks : List Nat} {env : DEnv} {ds : List D} (h : src env = .ok ds) : dFor src gd body ks env = forGo gd body ks ds env := by
  unfold dFor
  rw [h]
  rfl
@[simp] theorem dForC_eq {i : Nat} {gd : D → DEnv → Option DEnv} {body : DS} {ks : List Nat} {env : DEnv} : dForC i gd body ks env = lstSel (env[i]?) fun ds => forGo gd body ks ds (env.set i none) := by
  unfold dForC lstSel
  cases env[i]? with
  | none => rfl
  | some o =>
    cases o with
    | none => rfl
    | some d => cases d <;> rfl
@[simp] theorem dUnpC_eq {i : Nat} {gd : D → DEnv → Option DEnv} {env : DEnv} : dUnpC i gd env = lstSel (env[i]?) fun ds => nxO (gd (.lst ds) (env.set i none)) := by
  unfold dUnpC lstSel nxO
  cases env[i]? with
  | none => rfl
  | some o =>
    cases o with
    | none => rfl
    | some d =>
      cases d with
      | lst ds =>
        rfl
      | _ => rfl
/-- (the test by choice, so that nothing reckons it) -/
noncomputable def rng (j : Int) : RG (List D) := @ite _ (lim62 j = true) (Classical.propDecidable _) (.ok (rangeD 0 1 j.toNat)) .bad
noncomputable def rngO (d : D) : RG (List D) := match d with
  | .int j => rng j
  | _ => .bad
theorem rngO_int0 {j : Int} : rngO (.int j) = rng j := rfl
@[simp] theorem rngO_int {j : Int} : rngO (.int j) = rng j := by rw [rngO_int0]
@[simp] theorem dRange1_eq {f : DX} {env : DEnv} : dRange1 f env = (f env).bind rngO := by
  unfold dRange1
  cases f env with
  | ok d =>
    cases d with
    | int j =>
      show (if lim62 j = true then RG.ok (rangeD 0 1 j.toNat) else RG.bad) = rng j
      unfold rng
      by_cases h : lim62 j = true
      · rw [if_pos h, if_pos h]
      · rw [if_neg h, if_neg h]
    | _ => rfl
  | exc c fs => rfl
  | bad => rfl
theorem rng_ok {j : Int} (h : j < 2 ^ 62) (h' : -(2 ^ 62) ≤ j) : rng j = .ok ((List.range j.toNat).map fun (i : Nat) => D.int (i : Int)) := by
  unfold rng
  rw [if_pos (by unfold lim62; simp only [Bool.and_eq_true, decide_eq_true_eq]; omega)]
  unfold rangeD
  congr 1
  apply List.map_congr_left
  intro i _
  congr 1
  omega
theorem rng_nat {n : Nat} (h : n < 2 ^ 62) : rng (n : Int) = .ok ((List.range n).map fun (i : Nat) => D.int (i : Int)) := by
  rw [rng_ok (by omega) (by omega)]
  simp
/-! ### comprehensions -/
section
variable {gd : D → DEnv → Option DEnv} {tt fe : DX} {env : DEnv}
theorem compGo_map {α : Type} {enc h : α → D} : ∀ (xs : List α), (∀ x ∈ xs, ∃ e1, gd (enc x) env = some e1 ∧ tt e1 = .ok (.bl true) ∧ fe e1 = .ok (h x)) → compGo gd tt fe env (xs.map enc) = some (xs.map h)
  | [], _ => rfl
  | x :: xs, H => by
    obtain ⟨e1, h1, h2, h3⟩ := H x (by simp)
    have ih := compGo_map xs fun y hy => H y (by simp [hy])
    rw [List.map_cons, List.map_cons]
    unfold compGo
    rw [h1]
    show (match tt e1 with | .ok (.bl true) => _ | .ok (.bl false) => _ | _ => _) = _
    rw [h2]
    show (match fe e1 with | .ok y => _ | _ => _) = _
    rw [h3]
    show (compGo gd tt fe env (xs.map enc)).map (h x :: ·) = _
    rw [ih]
    rfl
theorem compGo_filter {α : Type} {enc h : α → D} (p : α → Bool) : ∀ (xs : List α), (∀ x ∈ xs, ∃ e1, gd (enc x) env = some e1 ∧ tt e1 = .ok (.bl (p x)) ∧ (p x = true → fe e1 = .ok (h x))) → compGo gd tt fe env (xs.map enc) = some ((xs.filter p).map h)
  | [], _ => rfl
  | x :: xs, H => by
    obtain ⟨e1, h1, h2, h3⟩ := H x (by simp)
    have ih := compGo_filter p xs fun y hy => H y (by simp [hy])
    rw [List.map_cons]
    unfold compGo
    rw [h1]
    show (match tt e1 with | .ok (.bl true) => _ | .ok (.bl false) => _ | _ => _) = _
    rw [h2]
    cases hp : p x with
    | false =>
      rw [List.filter_cons_of_neg (by rw [hp]; exact Bool.false_ne_true)]
      exact ih
    | true =>
      rw [List.filter_cons_of_pos hp]
      show (match fe e1 with | .ok y => _ | _ => _) = _
      rw [h3 hp]
      show (compGo gd tt fe env (xs.map enc)).map (h x :: ·) = _
      rw [ih]
      rfl
theorem dComp_map {α : Type} {enc h : α → D} {src : DXs} {vs : List Nat} (xs : List α) (hs : src env = .ok (xs.map enc)) (hz : xs.length ≤ 1000000) (H : ∀ x ∈ xs, ∃ e1, gd (enc x) (wipeD env vs) = some e1 ∧ tt e1 = .ok (.bl true) ∧ fe e1 = .ok (h x)) :
    dComp src gd tt fe vs env = .ok (.lst (xs.map h)) := by
  unfold dComp
  rw [hs]
  show (if (xs.map enc).length ≤ sizeLine then _ else _) = _
  rw [if_pos (by rw [List.length_map]; exact le_size hz), compGo_map xs H]
theorem dComp_filter {α : Type} {enc h : α → D} {src : DXs} {vs : List Nat} (p : α → Bool) (xs : List α) (hs : src env = .ok (xs.map enc)) (hz : xs.length ≤ 1000000) (H : ∀ x ∈ xs, ∃ e1, gd (enc x) (wipeD env vs) = some e1 ∧ tt e1 = .ok (.bl (p x)) ∧ (p x = true → fe e1 = .ok (h x))) :
    dComp src gd tt fe vs env = .ok (.lst ((xs.filter p).map h)) := by
  unfold dComp
  rw [hs]
  show (if (xs.map enc).length ≤ sizeLine then _ else _) = _
  rw [if_pos (by rw [List.length_map]; exact le_size hz), compGo_filter p xs H]
end
/-! ### slices -/
theorem cut_nat {α : Type} (xs : List α) {a b : Nat} (h : a ≤ b) (hb : b ≤ xs.length) : cutD xs (some (a : Int)) (some (b : Int)) = (xs.drop a).take (b - a) := by
  unfold cutD
  rw [HT.sIx_nat, HT.sIx_nat, Nat.min_eq_left hb, Nat.min_eq_left (by omega)]
theorem cut_to {α : Type} (xs : List α) {b : Nat} : cutD xs none (some (b : Int)) = xs.take b := by
  unfold cutD
  rw [HT.sIx_nat]
  show (xs.drop 0).take (min b xs.length - 0) = _
  rw [List.drop_zero, Nat.sub_zero]
  by_cases h : b ≤ xs.length
  · rw [Nat.min_eq_left h]
  · rw [Nat.min_eq_right (by omega), List.take_of_length_le (Nat.le_refl _), List.take_of_length_le (by omega)]
@[simp] theorem cut_lit {α : Type} (xs : List α) (b : Nat) : cutD xs none (some (no_index (OfNat.ofNat b : Int))) = xs.take b := cut_to xs
theorem cut_from {α : Type} (xs : List α) {a : Nat} : cutD xs (some (a : Int)) none = xs.drop a := by
  unfold cutD
  rw [HT.sIx_nat]
  show (xs.drop (min a xs.length)).take (xs.length - min a xs.length) = _
  by_cases h : a ≤ xs.length
  · rw [Nat.min_eq_left h, List.take_of_length_le (by simp)]
  · rw [Nat.min_eq_right (by omega), List.drop_eq_nil_of_le (Nat.le_refl _), List.drop_eq_nil_of_le (by omega)]
    simp
/-! ### told values that only one slot reaches -/
section
variable {env : DEnv}
@[simp] theorem isGone_lst {ds : List D} : isGone (.lst ds) = false := (rfl)
@[simp] theorem isGone_tup {ds : List D} : isGone (.tup ds) = false := (rfl)
@[simp] theorem isGone_non : isGone .non = false := (rfl)
@[simp] theorem isGone_int {i : Int} : isGone (.int i) = false := (rfl)
@[simp] theorem dT1_eq {i : Nat} {f : DX} : dT1 i f env = (match env[i]? with
  | some (some d) => if isGone d then .bad else f env
  | _ => f env) := (rfl)
@[simp] theorem dCall1_eq {g : DF'} {fs : DXs} : dCall1 g fs env = (fs env).bind fun ds => (g ds).bind askD := (rfl)
end
@[simp] theorem dAlL_eq {env : DEnv} {f : DX} : dAlL f env = (f env).bind fun d => match d with
  | .lst w => if imms w then .ok (.lst w) else .bad
  | _ => .bad := (rfl)
@[simp] theorem dAls_eq {env : DEnv} {f : DX} {fs : DXs} : dAls f fs env = (dAlL f env).bind fun x => (fs env).bind fun xs => .ok (x :: xs) := (rfl)
@[simp] theorem setDs_nil {env : DEnv} {ds : List D} : setDs env [] ds = env := by cases ds <;> rfl
@[simp] theorem setDs_cons {env : DEnv} {i : Nat} {is : List Nat} {d : D} {ds : List D} : setDs env (i :: is) (d :: ds) = setDs (env.set i (some d)) is ds := rfl
end Dl
/-! Lib: the meanings of the defs, printed by gen.py. -/
namespace Lw
open PySem PySem.Spec PyProof.Rows L2 Dl
/-- k01: _law_numbers(_law_script, _law_many, _law_row, _law_seed, _law_cell, _law_rest, _law_k) -/
def M_law_numbers_l1 : DS := (dSeq (dIfS (dBin gLt (dCallO gLen (dCons (dVar 2) dNil)) (dVar 1)) (dSeq (dSet 3 (dBin gModI (dBin gAdd (dBin gAdd (dBin gAdd (dBin gPowI (dVar 3) (dC (.int (3)))) (dBin gMulI (dC (.int (40692))) (dVar 3))) (dBin gMulI (dC (.int (7))) (dVar 6))) (dC (.int (5)))) (dC (.int (2147483629))))) (dSeq (dApp 2 (dBin gModI (dBin gFdivI (dVar 3) (dC (.int (1009)))) (dC (.int (1000))))) dNext)) dNext) dNext)
def M_law_numbers_l2 : DS := (dSeq (dIfS (dBin (gCmpI fun i j => decide (j < i)) (dVar 5) (dC (.int (0)))) (dSeq (dApp 2 (dBin gModI (dVar 5) (dC (.int (1000))))) (dSeq (dSet 5 (dBin gFdivI (dVar 5) (dC (.int (1000))))) dNext)) dNext) dNext)
def M_law_numbers_l3 : DS := (dSeq (dSet 3 (dBin gModI (dBin gAdd (dBin gAdd (dBin gMulI (dVar 3) (dC (.int (69621)))) (dBin gModI (dVar 4) (dC (.int (999983))))) (dC (.int (7)))) (dC (.int (2147483629))))) (dSeq (dSet 5 (dBin gSubI (dVar 4) (dBin gPowI (dC (.int (10))) (dC (.int (18)))))) (dSeq (dIfS (dBin gLt (dVar 5) (dC (.int (0)))) (dSeq (dApp 2 (dBin gModI (dVar 4) (dC (.int (1000))))) dNext) dNext) (dSeq (dFor (dRange1 (dC (.int (60)))) (gdName 6) M_law_numbers_l2 [6]) dNext))))
def M_law_numbers : DS := (dSeq (dSet 2 (dLst dNil)) (dSeq (dSet 3 (dC (.int (29)))) (dSeq (dFor (dItems (dSl (dVar 0) dNo (dPart (dC (.int (63)))))) (gdName 4) M_law_numbers_l3 [4, 5, 6]) (dSeq (dFor (dRange1 (dVar 1)) (gdName 6) M_law_numbers_l1 [6]) (dSeq (dRet (dSlL (dVar 2) dNo (dPart (dVar 1)))) dNext)))))
/-- k01: _law_same(_law_found, _law_due, _law_one, _law_other) -/
def M_law_same (rec : DF') : DS := (dSeq (dIfS (dOr (dIsT .list (dVar 1)) (dIsT .tuple (dVar 1))) (dSeq (dIfS (dOr (dBin gNe (dIsT .list (dVar 0)) (dIsT .list (dVar 1))) (dBin gNe (dIsT .tuple (dVar 0)) (dIsT .tuple (dVar 1)))) (dSeq (dRet (dImm (dC (.bl false)))) dNext) dNext) (dSeq (dRet (dImm (dAnd (dBin gEq (dCallO gLen (dCons (dVar 0) dNil)) (dCallO gLen (dCons (dVar 1) dNil))) (dCallO gAll (dCons (dComp (dZip (dVar 0) (dVar 1)) (gdTup 2 (gdCons (gdName 2) (gdCons (gdName 3) gdNil))) (dC (.bl true)) (dCall rec (dCons (dVar 2) (dCons (dVar 3) dNil))) [2, 3]) dNil))))) dNext)) dNext) (dSeq (dIfS (dOr (dBin gIsN (dVar 0) (dC .non)) (dBin gIsN (dVar 1) (dC .non))) (dSeq (dRet (dImm (dAnd (dBin gIsN (dVar 0) (dC .non)) (dBin gIsN (dVar 1) (dC .non))))) dNext) dNext) (dSeq (dIfS (dOr (dBin gNe (dIsT .bool (dVar 0)) (dIsT .bool (dVar 1))) (dBin gNe (dIsT .int (dVar 0)) (dIsT .int (dVar 1)))) (dSeq (dRet (dImm (dC (.bl false)))) dNext) dNext) (dSeq (dRet (dImm (dBin gEq (dVar 0) (dVar 1)))) dNext))))
/-- k01: inside(box, x, y, height, x1, y1, x2, y2, low, high) -/
def M_inside : DS := (dSeq (dUnp (gdTup 6 (gdCons (gdName 4) (gdCons (gdName 5) (gdCons (gdName 6) (gdCons (gdName 7) (gdCons (gdName 8) (gdCons (gdName 9) gdNil))))))) (dVar 0)) (dSeq (dIfS (dOr (dBin gLt (dVar 1) (dVar 4)) (dBin (gCmpI fun i j => decide (j < i)) (dVar 1) (dVar 6))) (dSeq (dRet (dImm (dC (.bl false)))) dNext) dNext) (dSeq (dIfS (dOr (dBin gLt (dVar 2) (dVar 5)) (dBin (gCmpI fun i j => decide (j < i)) (dVar 2) (dVar 7))) (dSeq (dRet (dImm (dC (.bl false)))) dNext) dNext) (dSeq (dRet (dImm (dAnd (dBin (gCmpI fun i j => decide (i ≤ j)) (dVar 8) (dVar 3)) (dBin (gCmpI fun i j => decide (i ≤ j)) (dVar 3) (dVar 9))))) dNext))))
/-- k01: _law_in(_law_box, _law_x, _law_y, _law_z) -/
def M_law_in : DS := (dSeq (dRet (dImm (dAnd (dBin (gCmpI fun i j => decide (i ≤ j)) (dBin gIx (dVar 0) (dC (.int (0)))) (dVar 1)) (dAnd (dBin (gCmpI fun i j => decide (i ≤ j)) (dVar 1) (dBin gIx (dVar 0) (dC (.int (2))))) (dAnd (dBin (gCmpI fun i j => decide (i ≤ j)) (dBin gIx (dVar 0) (dC (.int (1)))) (dVar 2)) (dAnd (dBin (gCmpI fun i j => decide (i ≤ j)) (dVar 2) (dBin gIx (dVar 0) (dC (.int (3))))) (dAnd (dBin (gCmpI fun i j => decide (i ≤ j)) (dBin gIx (dVar 0) (dC (.int (4)))) (dVar 3)) (dBin (gCmpI fun i j => decide (i ≤ j)) (dVar 3) (dBin gIx (dVar 0) (dC (.int (5)))))))))))) dNext)
/-- k03: _law_box(_law_d, _law_base, _law_x, _law_y, _law_low) -/
def M_law_box : DS := (dSeq (dSet 2 (dBin gSubI (dBin gAdd (dBin gIx (dVar 1) (dC (.int (0)))) (dBin gModI (dBin gIx (dVar 0) (dC (.int (0)))) (dC (.int (9))))) (dC (.int (4))))) (dSeq (dSet 3 (dBin gSubI (dBin gAdd (dBin gIx (dVar 1) (dC (.int (1)))) (dBin gModI (dBin gIx (dVar 0) (dC (.int (1)))) (dC (.int (9))))) (dC (.int (4))))) (dSeq (dSet 4 (dBin gModI (dBin gIx (dVar 0) (dC (.int (4)))) (dC (.int (6))))) (dSeq (dRetV (dTup (dCons (dImm (dVar 2)) (dCons (dImm (dVar 3)) (dCons (dImm (dBin gAdd (dVar 2) (dBin gModI (dBin gIx (dVar 0) (dC (.int (2)))) (dC (.int (4)))))) (dCons (dImm (dBin gAdd (dVar 3) (dBin gModI (dBin gIx (dVar 0) (dC (.int (3)))) (dC (.int (4)))))) (dCons (dImm (dVar 4)) (dCons (dImm (dBin gAdd (dVar 4) (dBin gModI (dBin gIx (dVar 0) (dC (.int (5)))) (dBin gSubI (dC (.int (6))) (dVar 4))))) dNil)))))))) dNext))))
/-- k05: _law_wind(_law_winds, _law_hour, _law_height, _law_some, _law_k) -/
def M_law_wind : DS := (dSeq (dSet 3 (dComp (dRange1 (dCallO gLen (dCons (dVar 0) dNil))) (gdName 4) (dAnd (dBin gEq (dBin gIx (dBin gIx (dVar 0) (dVar 4)) (dC (.int (1)))) (dVar 2)) (dBin (gCmpI fun i j => decide (i ≤ j)) (dBin gIx (dBin gIx (dVar 0) (dVar 4)) (dC (.int (0)))) (dVar 1))) (dTup (dCons (dBin gIx (dBin gIx (dVar 0) (dVar 4)) (dC (.int (0)))) (dCons (dVar 4) dNil))) [4])) (dSeq (dIfS (dBin gEq (dCallO gLen (dCons (dVar 3) dNil)) (dC (.int (0)))) (dSeq (dRetV (dTup (dCons (dC (.int (0))) (dCons (dC (.int (0))) dNil)))) dNext) dNext) (dSeq (dRet (dImm (dSl (dBin gIx (dVar 0) (dBin gIx (dCallO gMaxA (dCons (dVar 3) dNil)) (dC (.int (1))))) (dPart (dC (.int (2)))) dNo))) dNext)))
/-- k05: wind_at(winds, hour, height, found, latest, first, level, dx, dy) -/
def M_wind_at_l1 : DS := (dSeq (dIfS (dAnd (dBin gEq (dVar 6) (dVar 2)) (dAnd (dBin (gCmpI fun i j => decide (i ≤ j)) (dVar 5) (dVar 1)) (dBin (gCmpI fun i j => decide (j ≤ i)) (dVar 5) (dVar 4)))) (dSeq (dSet 3 (dTup (dCons (dVar 7) (dCons (dVar 8) dNil)))) (dSeq (dSet 4 (dVar 5)) dNext)) dNext) dNext)
def M_wind_at : DS := (dSeq (dSet 3 (dTup (dCons (dC (.int (0))) (dCons (dC (.int (0))) dNil)))) (dSeq (dSet 4 (dUn gNeg (dC (.int (1))))) (dSeq (dFor (dItems (dVar 0)) (gdTup 4 (gdCons (gdName 5) (gdCons (gdName 6) (gdCons (gdName 7) (gdCons (gdName 8) gdNil))))) M_wind_at_l1 [5, 6, 7, 8]) (dSeq (dRet (dImm (dVar 3))) dNext))))
/-- k05: _law_sky(_law_d, _law_base, _law_hour, _law_hills, _law_j, _law_cool, _law_one, _law_winds, _law_w, _law_first, _law_shuts, _law_s, _law_level) of _law_box -/
def M_law_sky_l1 (c0 : DF') : DS := (dSeq (dSet 11 (dSl (dVar 0) (dPart (dBin gAdd (dC (.int (91))) (dBin gMulI (dC (.int (8))) (dVar 4)))) (dPart (dBin gAdd (dC (.int (99))) (dBin gMulI (dC (.int (8))) (dVar 4)))))) (dSeq (dSet 9 (dBin gIx (dLst (dCons (dBin gModI (dBin gIx (dVar 11) (dC (.int (6)))) (dC (.int (25)))) (dCons (dVar 2) dNil))) (dBin gModI (dBin gIx (dVar 11) (dC (.int (7)))) (dC (.int (2)))))) (dSeq (dApp 10 (dImm (dBin gAdd (dCall c0 (dCons (dVar 11) (dCons (dVar 1) dNil))) (dTup (dCons (dVar 9) (dCons (dBin gAdd (dVar 9) (dBin gModI (dBin gFdivI (dBin gIx (dVar 11) (dC (.int (7)))) (dC (.int (2)))) (dBin gSubI (dC (.int (25))) (dVar 9)))) dNil)))))) dNext)))
def M_law_sky_l2 (c0 : DF') : DS := (dSeq (dSet 8 (dSl (dVar 0) (dPart (dBin gAdd (dC (.int (22))) (dBin gMulI (dC (.int (4))) (dVar 4)))) (dPart (dBin gAdd (dC (.int (26))) (dBin gMulI (dC (.int (4))) (dVar 4)))))) (dSeq (dSet 9 (dBin gIx (dLst (dCons (dBin gModI (dBin gIx (dVar 8) (dC (.int (0)))) (dC (.int (24)))) (dCons (dBin gModI (dBin gAdd (dVar 2) (dBin gModI (dBin gFdivI (dBin gIx (dVar 8) (dC (.int (0)))) (dC (.int (7)))) (dC (.int (6))))) (dC (.int (24)))) dNil))) (dBin gModI (dBin gFdivI (dBin gIx (dVar 8) (dC (.int (1)))) (dC (.int (6)))) (dC (.int (2)))))) (dSeq (dApp 7 (dImm (dTup (dCons (dVar 9) (dCons (dBin gModI (dBin gIx (dVar 8) (dC (.int (1)))) (dC (.int (6)))) (dCons (dBin gSubI (dBin gModI (dBin gIx (dVar 8) (dC (.int (2)))) (dC (.int (5)))) (dC (.int (2)))) (dCons (dBin gSubI (dBin gModI (dBin gIx (dVar 8) (dC (.int (3)))) (dC (.int (5)))) (dC (.int (2)))) dNil))))))) dNext)))
def M_law_sky_l3 (c0 : DF') : DS := (dSeq (dSet 6 (dBin gIx (dLst (dCons (dBin gModI (dBin gIx (dVar 0) (dBin gAdd (dC (.int (16))) (dVar 4))) (dC (.int (24)))) (dCons (dBin gModI (dBin gAdd (dVar 2) (dBin gModI (dBin gIx (dVar 0) (dBin gAdd (dC (.int (16))) (dVar 4))) (dC (.int (4))))) (dC (.int (24)))) dNil))) (dBin gModI (dBin gFdivI (dBin gIx (dVar 0) (dC (.int (0)))) (dC (.int (30)))) (dC (.int (2)))))) (dSeq (dIfS (dBin gNotIn (dVar 6) (dVar 5)) (dSeq (dApp 5 (dImm (dVar 6))) dNext) dNext) dNext))
def M_law_sky_l4 (c0 : DF') : DS := (dSeq (dApp 3 (dTup (dCons (dBin gSubI (dBin gAdd (dBin gIx (dVar 1) (dC (.int (0)))) (dBin gModI (dBin gIx (dVar 0) (dBin gAdd (dBin gMulI (dC (.int (3))) (dVar 4)) (dC (.int (1))))) (dC (.int (9))))) (dC (.int (4)))) (dCons (dBin gSubI (dBin gAdd (dBin gIx (dVar 1) (dC (.int (1)))) (dBin gModI (dBin gIx (dVar 0) (dBin gAdd (dBin gMulI (dC (.int (3))) (dVar 4)) (dC (.int (2))))) (dC (.int (9))))) (dC (.int (4)))) (dCons (dBin gAdd (dC (.int (1))) (dBin gModI (dBin gIx (dVar 0) (dBin gAdd (dBin gMulI (dC (.int (3))) (dVar 4)) (dC (.int (3))))) (dC (.int (5))))) dNil))))) dNext)
def M_law_sky (c0 : DF') : DS := (dSeq (dSet 3 (dLst dNil)) (dSeq (dFor (dRange1 (dBin gModI (dBin gIx (dVar 0) (dC (.int (0)))) (dC (.int (6))))) (gdName 4) (M_law_sky_l4 c0) [4]) (dSeq (dSet 5 (dLst dNil)) (dSeq (dFor (dRange1 (dBin gModI (dBin gFdivI (dBin gIx (dVar 0) (dC (.int (0)))) (dC (.int (6)))) (dC (.int (5))))) (gdName 4) (M_law_sky_l3 c0) [4, 6]) (dSeq (dSet 7 (dLst dNil)) (dSeq (dIfS (dBin (gCmpI fun i j => decide (j < i)) (dBin gModI (dBin gIx (dVar 0) (dC (.int (21)))) (dC (.int (4)))) (dC (.int (0)))) (dSeq (dSet 7 (dComp (dRange1 (dC (.int (6)))) (gdName 12) (dC (.bl true)) (dImm (dTup (dCons (dC (.int (0))) (dCons (dVar 12) (dCons (dBin gSubI (dBin gModI (dBin gIx (dVar 0) (dBin gAdd (dC (.int (78))) (dBin gMulI (dC (.int (2))) (dVar 12)))) (dC (.int (5)))) (dC (.int (2)))) (dCons (dBin gSubI (dBin gModI (dBin gIx (dVar 0) (dBin gAdd (dC (.int (79))) (dBin gMulI (dC (.int (2))) (dVar 12)))) (dC (.int (5)))) (dC (.int (2)))) dNil)))))) [12])) dNext) dNext) (dSeq (dFor (dRange1 (dBin gModI (dBin gFdivI (dBin gIx (dVar 0) (dC (.int (21)))) (dC (.int (4)))) (dC (.int (14))))) (gdName 4) (M_law_sky_l2 c0) [4, 8, 9]) (dSeq (dSet 10 (dLst dNil)) (dSeq (dFor (dRange1 (dBin gModI (dBin gIx (dVar 0) (dC (.int (90)))) (dC (.int (4))))) (gdName 4) (M_law_sky_l1 c0) [4, 11, 9]) (dSeq (dRetV (dTup (dCons (dVar 3) (dCons (dVar 5) (dCons (dVar 7) (dCons (dVar 10) dNil)))))) dNext))))))))))
/-- k07: _law_base(_law_d) -/
def M_law_base : DS := (dSeq (dIfS (dBin gEq (dBin gModI (dBin gIx (dVar 0) (dC (.int (0)))) (dC (.int (5)))) (dC (.int (1)))) (dSeq (dRetV (dTup (dCons (dBin gSubI (dBin gIx (dVar 0) (dC (.int (1)))) (dC (.int (500)))) (dCons (dBin gSubI (dBin gIx (dVar 0) (dC (.int (2)))) (dC (.int (500)))) dNil)))) dNext) dNext) (dSeq (dIfS (dBin gEq (dBin gModI (dBin gIx (dVar 0) (dC (.int (0)))) (dC (.int (5)))) (dC (.int (2)))) (dSeq (dRetV (dTup (dCons (dBin gMulI (dBin gSubI (dBin gModI (dBin gIx (dVar 0) (dC (.int (1)))) (dC (.int (3)))) (dC (.int (1)))) (dC (.int (985)))) (dCons (dBin gMulI (dBin gSubI (dBin gModI (dBin gIx (dVar 0) (dC (.int (2)))) (dC (.int (3)))) (dC (.int (1)))) (dC (.int (985)))) dNil)))) dNext) dNext) (dSeq (dRetV (dTup (dCons (dC (.int (0))) (dCons (dC (.int (0))) dNil)))) dNext)))
/-- k07: _law_ground(_law_hills, _law_x, _law_y, _law_a, _law_b, _law_top) -/
def M_law_ground : DS := (dSeq (dRet (dImm (dCallO gMaxA (dCons (dBin gAdd (dLst (dCons (dC (.int (0))) dNil)) (dComp (dItems (dVar 0)) (gdTup 3 (gdCons (gdName 3) (gdCons (gdName 4) (gdCons (gdName 5) gdNil)))) (dAnd (dBin gEq (dVar 3) (dVar 1)) (dBin gEq (dVar 4) (dVar 2))) (dVar 5) [3, 4, 5])) dNil)))) dNext)
/-- k07: ground_at(hills, x, y, found, hill_x, hill_y, top) -/
def M_ground_at_l1 : DS := (dSeq (dIfS (dAnd (dBin gEq (dVar 4) (dVar 1)) (dBin gEq (dVar 5) (dVar 2))) (dSeq (dSet 3 (dCallO gMax (dCons (dVar 3) (dCons (dVar 6) dNil)))) dNext) dNext) dNext)
def M_ground_at : DS := (dSeq (dSet 3 (dC (.int (0)))) (dSeq (dFor (dItems (dVar 0)) (gdTup 3 (gdCons (gdName 4) (gdCons (gdName 5) (gdCons (gdName 6) gdNil)))) M_ground_at_l1 [4, 5, 6]) (dSeq (dRet (dImm (dVar 3))) dNext)))
/-- k08: _law_shut(_law_shuts_here, _law_hour, _law_x, _law_y, _law_z, _law_one) of _law_in -/
def M_law_shut (c0 : DF') : DS := (dSeq (dRet (dImm (dBin gIn (dC (.bl true)) (dComp (dItems (dVar 0)) (gdName 5) (dAnd (dBin (gCmpI fun i j => decide (i ≤ j)) (dBin gIx (dVar 5) (dC (.int (6)))) (dVar 1)) (dBin (gCmpI fun i j => decide (i ≤ j)) (dVar 1) (dBin gIx (dVar 5) (dC (.int (7)))))) (dCall c0 (dCons (dSl (dVar 5) dNo (dPart (dC (.int (6))))) (dCons (dVar 2) (dCons (dVar 3) (dCons (dVar 4) dNil))))) [5])))) dNext)
/-- k08: shut_at(shuts, hour, x, y, height, x1, y1, x2, y2, low, high, first, last) of inside -/
def M_shut_at_l1 (c0 : DF') : DS := (dSeq (dIfS (dAnd (dBin (gCmpI fun i j => decide (i ≤ j)) (dVar 11) (dVar 1)) (dAnd (dBin (gCmpI fun i j => decide (i ≤ j)) (dVar 1) (dVar 12)) (dCall c0 (dCons (dTup (dCons (dVar 5) (dCons (dVar 6) (dCons (dVar 7) (dCons (dVar 8) (dCons (dVar 9) (dCons (dVar 10) dNil))))))) (dCons (dVar 2) (dCons (dVar 3) (dCons (dVar 4) dNil))))))) (dSeq (dRet (dImm (dC (.bl true)))) dNext) dNext) dNext)
def M_shut_at (c0 : DF') : DS := (dSeq (dFor (dItems (dVar 0)) (gdTup 8 (gdCons (gdName 5) (gdCons (gdName 6) (gdCons (gdName 7) (gdCons (gdName 8) (gdCons (gdName 9) (gdCons (gdName 10) (gdCons (gdName 11) (gdCons (gdName 12) gdNil))))))))) (M_shut_at_l1 c0) [5, 6, 7, 8, 9, 10, 11, 12]) (dSeq (dRet (dImm (dC (.bl false)))) dNext))
/-- k09: _law_copy(_law_sky_here) -/
def M_law_copy : DS := (dSeq (dRetV (dTup (dCons (dImmL (dListOf (dCons (dBin gIx (dVar 0) (dC (.int (0)))) dNil))) (dCons (dImmL (dListOf (dCons (dBin gIx (dVar 0) (dC (.int (1)))) dNil))) (dCons (dImmL (dListOf (dCons (dBin gIx (dVar 0) (dC (.int (2)))) dNil))) (dCons (dImmL (dListOf (dCons (dBin gIx (dVar 0) (dC (.int (3)))) dNil))) dNil)))))) dNext)
/-- k09: _law_state(_law_d, _law_base_here, _law_most, _law_x, _law_y) -/
def M_law_state : DS := (dSeq (dSet 3 (dBin gSubI (dBin gAdd (dBin gIx (dVar 1) (dC (.int (0)))) (dBin gModI (dBin gIx (dVar 0) (dC (.int (0)))) (dC (.int (7))))) (dC (.int (3))))) (dSeq (dSet 4 (dBin gSubI (dBin gAdd (dBin gIx (dVar 1) (dC (.int (1)))) (dBin gModI (dBin gIx (dVar 0) (dC (.int (1)))) (dC (.int (7))))) (dC (.int (3))))) (dSeq (dRetV (dTup (dCons (dImm (dVar 3)) (dCons (dImm (dVar 4)) (dCons (dBin gModI (dBin gIx (dVar 0) (dC (.int (2)))) (dC (.int (6)))) (dCons (dBin gModI (dBin gIx (dVar 0) (dC (.int (3)))) (dBin gAdd (dVar 2) (dC (.int (1))))) (dCons (dBin gModI (dBin gIx (dVar 0) (dC (.int (4)))) (dBin gAdd (dVar 2) (dC (.int (1))))) dNil))))))) dNext)))
/-- k09: standing(sky, hour, state, hills, cool, winds, shuts) of shut_at, ground_at -/
def M_standing (c0 : DF') (c1 : DF') : DS := (dSeq (dUnp (gdTup 4 (gdCons (gdName 3) (gdCons (gdName 4) (gdCons (gdName 5) (gdCons (gdName 6) gdNil))))) (dVar 0)) (dSeq (dIfS (dBin gLt (dBin gIx (dVar 2) (dC (.int (2)))) (dCall c1 (dCons (dVar 3) (dCons (dBin gIx (dVar 2) (dC (.int (0)))) (dCons (dBin gIx (dVar 2) (dC (.int (1)))) dNil))))) (dSeq (dRet (dImm (dC (.str ("hill" : Str))))) dNext) dNext) (dSeq (dIfS (dCall c0 (dCons (dVar 6) (dCons (dVar 1) (dCons (dBin gIx (dVar 2) (dC (.int (0)))) (dCons (dBin gIx (dVar 2) (dC (.int (1)))) (dCons (dBin gIx (dVar 2) (dC (.int (2)))) dNil)))))) (dSeq (dRet (dImm (dC (.str ("shut" : Str))))) dNext) dNext) (dSeq (dRet (dImm (dC (.str ("" : Str))))) dNext))))
/-- k09: _law_stand(_law_sky_here, _law_hour, _law_state_here) of _law_shut, _law_ground -/
def M_law_stand (c0 : DF') (c1 : DF') : DS := (dSeq (dIfS (dBin gLt (dBin gIx (dVar 2) (dC (.int (2)))) (dCall c1 (dCons (dBin gIx (dVar 0) (dC (.int (0)))) (dCons (dBin gIx (dVar 2) (dC (.int (0)))) (dCons (dBin gIx (dVar 2) (dC (.int (1)))) dNil))))) (dSeq (dRet (dImm (dC (.str ("hill" : Str))))) dNext) dNext) (dSeq (dIfS (dCall c0 (dCons (dBin gIx (dVar 0) (dC (.int (3)))) (dCons (dVar 1) (dCons (dBin gIx (dVar 2) (dC (.int (0)))) (dCons (dBin gIx (dVar 2) (dC (.int (1)))) (dCons (dBin gIx (dVar 2) (dC (.int (2)))) dNil)))))) (dSeq (dRet (dImm (dC (.str ("shut" : Str))))) dNext) dNext) (dSeq (dRet (dImm (dC (.str ("" : Str))))) dNext)))
/-- k10: _law_led(_law_sky_here, _law_hour, _law_state_here, _law_order, _law_x, _law_y, _law_z, _law_sacks, _law_puffs, _law_step, _law_dx, _law_dy) of _law_wind -/
def M_law_led (c0 : DF') : DS := (dSeq (dUnp (gdTup 5 (gdCons (gdName 4) (gdCons (gdName 5) (gdCons (gdName 6) (gdCons (gdName 7) (gdCons (gdName 8) gdNil)))))) (dVar 2)) (dSeq (dSet 9 (dBin gIx (dDict [("up" : Str), ("level" : Str), ("down" : Str)] (dCons (dC (.int (1))) (dCons (dC (.int (0))) (dCons (dUn gNeg (dC (.int (1)))) dNil)))) (dVar 3))) (dSeq (dSet 6 (dBin gAdd (dVar 6) (dVar 9))) (dSeq (dIfS (dAnd (dBin gIn (dVar 1) (dBin gIx (dVar 0) (dC (.int (1))))) (dBin (gCmpI fun i j => decide (j < i)) (dVar 6) (dC (.int (0))))) (dSeq (dSet 6 (dBin gSubI (dVar 6) (dC (.int (1))))) dNext) dNext) (dSeq (dUnp (gdTup 2 (gdCons (gdName 10) (gdCons (gdName 11) gdNil))) (dCall c0 (dCons (dBin gIx (dVar 0) (dC (.int (2)))) (dCons (dVar 1) (dCons (dVar 6) dNil))))) (dSeq (dRetV (dTup (dCons (dImm (dBin gAdd (dVar 4) (dVar 10))) (dCons (dImm (dBin gAdd (dVar 5) (dVar 11))) (dCons (dImm (dVar 6)) (dCons (dBin gSubI (dVar 7) (dCallO gMax (dCons (dC (.int (0))) (dCons (dVar 9) dNil)))) (dCons (dBin gSubI (dVar 8) (dCallO gMax (dCons (dC (.int (0))) (dCons (dUn gNeg (dVar 9)) dNil)))) dNil))))))) dNext))))))
/-- k10: _law_why(_law_sky_here, _law_hour, _law_state_here, _law_order) of _law_led, _law_stand -/
def M_law_why (c0 : DF') (c1 : DF') : DS := (dSeq (dIfS (dAnd (dBin gEq (dVar 3) (dC (.str ("up" : Str)))) (dBin gEq (dBin gIx (dVar 2) (dC (.int (3)))) (dC (.int (0))))) (dSeq (dRet (dImm (dC (.str ("sacks" : Str))))) dNext) dNext) (dSeq (dIfS (dAnd (dBin gEq (dVar 3) (dC (.str ("down" : Str)))) (dBin gEq (dBin gIx (dVar 2) (dC (.int (4)))) (dC (.int (0))))) (dSeq (dRet (dImm (dC (.str ("puffs" : Str))))) dNext) dNext) (dSeq (dIfS (dAnd (dBin gEq (dVar 3) (dC (.str ("up" : Str)))) (dBin gEq (dBin gIx (dVar 2) (dC (.int (2)))) (dC (.int (5))))) (dSeq (dRet (dImm (dC (.str ("high" : Str))))) dNext) dNext) (dSeq (dIfS (dAnd (dBin gEq (dVar 3) (dC (.str ("down" : Str)))) (dBin gEq (dBin gIx (dVar 2) (dC (.int (2)))) (dC (.int (0))))) (dSeq (dRet (dImm (dC (.str ("low" : Str))))) dNext) dNext) (dSeq (dRet (dImm (dCall c1 (dCons (dVar 0) (dCons (dBin gAdd (dVar 1) (dC (.int (1)))) (dCons (dCall c0 (dCons (dVar 0) (dCons (dVar 1) (dCons (dVar 2) (dCons (dVar 3) dNil))))) dNil)))))) dNext)))))
/-- k10: held_back(state, order) -/
def M_held_back : DS := (dSeq (dIfS (dAnd (dBin gEq (dVar 1) (dC (.str ("up" : Str)))) (dBin gEq (dBin gIx (dVar 0) (dC (.int (3)))) (dC (.int (0))))) (dSeq (dRet (dImm (dC (.str ("sacks" : Str))))) dNext) dNext) (dSeq (dIfS (dAnd (dBin gEq (dVar 1) (dC (.str ("down" : Str)))) (dBin gEq (dBin gIx (dVar 0) (dC (.int (4)))) (dC (.int (0))))) (dSeq (dRet (dImm (dC (.str ("puffs" : Str))))) dNext) dNext) (dSeq (dIfS (dAnd (dBin gEq (dVar 1) (dC (.str ("up" : Str)))) (dBin gEq (dBin gIx (dVar 0) (dC (.int (2)))) (dC (.int (5))))) (dSeq (dRet (dImm (dC (.str ("high" : Str))))) dNext) dNext) (dSeq (dIfS (dAnd (dBin gEq (dVar 1) (dC (.str ("down" : Str)))) (dBin gEq (dBin gIx (dVar 0) (dC (.int (2)))) (dC (.int (0))))) (dSeq (dRet (dImm (dC (.str ("low" : Str))))) dNext) dNext) (dSeq (dRet (dImm (dC (.str ("" : Str))))) dNext)))))
/-- k10: led_to(sky, hour, state, order, hills, cool, winds, shuts, x, y, height, sacks, puffs, dx, dy) of wind_at -/
def M_led_to (c0 : DF') : DS := (dSeq (dUnp (gdTup 4 (gdCons (gdName 4) (gdCons (gdName 5) (gdCons (gdName 6) (gdCons (gdName 7) gdNil))))) (dVar 0)) (dSeq (dUnp (gdTup 5 (gdCons (gdName 8) (gdCons (gdName 9) (gdCons (gdName 10) (gdCons (gdName 11) (gdCons (gdName 12) gdNil)))))) (dVar 2)) (dSeq (dIfS (dBin gEq (dVar 3) (dC (.str ("up" : Str)))) (dSeq (dSet 10 (dBin gAdd (dVar 10) (dC (.int (1))))) (dSeq (dSet 11 (dBin gSubI (dVar 11) (dC (.int (1))))) dNext)) dNext) (dSeq (dIfS (dBin gEq (dVar 3) (dC (.str ("down" : Str)))) (dSeq (dSet 10 (dBin gSubI (dVar 10) (dC (.int (1))))) (dSeq (dSet 12 (dBin gSubI (dVar 12) (dC (.int (1))))) dNext)) dNext) (dSeq (dIfS (dBin gIn (dVar 1) (dVar 5)) (dSeq (dSet 10 (dCallO gMax (dCons (dC (.int (0))) (dCons (dBin gSubI (dVar 10) (dC (.int (1)))) dNil)))) dNext) dNext) (dSeq (dUnp (gdTup 2 (gdCons (gdName 13) (gdCons (gdName 14) gdNil))) (dCall c0 (dCons (dVar 6) (dCons (dVar 1) (dCons (dVar 10) dNil))))) (dSeq (dRetV (dTup (dCons (dImm (dBin gAdd (dVar 8) (dVar 13))) (dCons (dImm (dBin gAdd (dVar 9) (dVar 14))) (dCons (dImm (dVar 10)) (dCons (dImm (dVar 11)) (dCons (dImm (dVar 12)) dNil))))))) dNext)))))))
/-- k10: why_not(sky, hour, state, order, found) of led_to, standing, held_back -/
def M_why_not (c0 : DF') (c1 : DF') (c2 : DF') : DS := (dSeq (dSet 4 (dCall c2 (dCons (dVar 2) (dCons (dVar 3) dNil)))) (dSeq (dIfS (dBin gNe (dVar 4) (dC (.str ("" : Str)))) (dSeq (dRetV (dVar 4)) dNext) dNext) (dSeq (dRet (dImm (dCall c1 (dCons (dVar 0) (dCons (dBin gAdd (dVar 1) (dC (.int (1)))) (dCons (dCall c0 (dCons (dVar 0) (dCons (dVar 1) (dCons (dVar 2) (dCons (dVar 3) dNil))))) dNil)))))) dNext)))
/-- k10: choices(sky, hour, state, order) of why_not -/
def M_choices (c0 : DF') : DS := (dSeq (dRet (dComp (dItems (dC ((.ktp [.str ("up" : Str), .str ("level" : Str), .str ("down" : Str)])))) (gdName 3) (dBin gEq (dCall c0 (dCons (dVar 0) (dCons (dVar 1) (dCons (dVar 2) (dCons (dVar 3) dNil))))) (dC (.str ("" : Str)))) (dImm (dVar 3)) [3])) dNext)
/-- k13: front(pairs, found, most, sacks, puffs) -/
def M_front_l1 : DS := (dSeq (dIfS (dBin (gCmpI fun i j => decide (j < i)) (dVar 4) (dVar 2)) (dSeq (dApp 1 (dImm (dTup (dCons (dVar 3) (dCons (dVar 4) dNil))))) (dSeq (dSet 2 (dVar 4)) dNext)) dNext) dNext)
def M_front : DS := (dSeq (dSet 1 (dLst dNil)) (dSeq (dSet 2 (dUn gNeg (dC (.int (1))))) (dSeq (dFor (dRev (dSorted (dCons (dVar 0) dNil))) (gdTup 2 (gdCons (gdName 3) (gdCons (gdName 4) gdNil))) M_front_l1 [3, 4]) (dSeq (dRet (dRevL (dVar 1))) dNext))))
/-- k14: _law_beaten(_law_pair, _law_pairs, _law_one) -/
def M_law_beaten : DS := (dSeq (dRet (dImm (dBin gIn (dC (.bl true)) (dComp (dItems (dVar 1)) (gdName 2) (dC (.bl true)) (dAnd (dBin (gCmpI fun i j => decide (j ≤ i)) (dBin gIx (dVar 2) (dC (.int (0)))) (dBin gIx (dVar 0) (dC (.int (0))))) (dAnd (dBin (gCmpI fun i j => decide (j ≤ i)) (dBin gIx (dVar 2) (dC (.int (1)))) (dBin gIx (dVar 0) (dC (.int (1))))) (dBin gNe (dVar 2) (dVar 0)))) [2])))) dNext)
/-- k15: _law_case(_law_numbers_here, _law_base_here, _law_many, _law_left, _law_hour, _law_sky_here, _law_state_here) of _law_state, _law_sky, _law_base -/
def M_law_case (c0 : DF') (c1 : DF') (c2 : DF') : DS := (dSeq (dSet 1 (dCall c2 (dCons (dSl (dVar 0) dNo (dPart (dC (.int (3))))) dNil))) (dSeq (dSet 2 (dBin gModI (dBin gIx (dVar 0) (dC (.int (3)))) (dC (.int (5))))) (dSeq (dSet 3 (dTup (dCons (dC (.int (6))) (dCons (dC (.int (6))) dNil)))) (dSeq (dIfS (dBin gEq (dBin gModI (dBin gIx (dVar 0) (dC (.int (4)))) (dC (.int (6)))) (dC (.int (1)))) (dSeq (dSet 2 (dC (.int (5)))) dNext) dNext) (dSeq (dIfS (dBin gEq (dBin gModI (dBin gIx (dVar 0) (dC (.int (4)))) (dC (.int (6)))) (dC (.int (2)))) (dSeq (dSet 2 (dBin gSubI (dC (.int (8))) (dBin gModI (dBin gIx (dVar 0) (dC (.int (5)))) (dC (.int (3)))))) (dSeq (dSet 3 (dBin gIx (dLst (dCons (dTup (dCons (dC (.int (1))) (dCons (dC (.int (1))) dNil))) (dCons (dTup (dCons (dC (.int (3))) (dCons (dC (.int (0))) dNil))) (dCons (dTup (dCons (dC (.int (0))) (dCons (dC (.int (3))) dNil))) (dCons (dTup (dCons (dC (.int (2))) (dCons (dC (.int (0))) dNil))) dNil))))) (dBin gModI (dBin gIx (dVar 0) (dC (.int (9)))) (dC (.int (4)))))) dNext)) dNext) (dSeq (dSet 4 (dBin gModI (dBin gIx (dVar 0) (dC (.int (6)))) (dBin gSubI (dC (.int (25))) (dVar 2)))) (dSeq (dIfS (dBin gEq (dBin gModI (dBin gIx (dVar 0) (dC (.int (7)))) (dC (.int (5)))) (dC (.int (1)))) (dSeq (dSet 4 (dBin gSubI (dC (.int (24))) (dVar 2))) dNext) dNext) (dSeq (dSet 5 (dCall c1 (dCons (dSl (dVar 0) (dPart (dC (.int (10)))) (dPart (dC (.int (130))))) (dCons (dVar 1) (dCons (dVar 4) dNil))))) (dSeq (dSet 6 (dCall c0 (dCons (dSl (dVar 0) (dPart (dC (.int (130)))) (dPart (dC (.int (136))))) (dCons (dVar 1) (dCons (dC (.int (6))) dNil))))) (dSeq (dSet 6 (dBin gAdd (dSl (dVar 6) dNo (dPart (dC (.int (3))))) (dTup (dCons (dBin gModI (dBin gIx (dVar 0) (dC (.int (133)))) (dBin gAdd (dBin gIx (dVar 3) (dC (.int (0)))) (dC (.int (1))))) (dCons (dBin gModI (dBin gIx (dVar 0) (dC (.int (134)))) (dBin gAdd (dBin gIx (dVar 3) (dC (.int (1)))) (dC (.int (1))))) dNil))))) (dSeq (dRetV (dTup (dCons (dVar 1) (dCons (dImm (dVar 4)) (dCons (dImm (dVar 2)) (dCons (dVar 5) (dCons (dImm (dVar 6)) dNil))))))) dNext)))))))))))
/-- k15: next_state(sky, hour, state, order, why) of led_to, why_not -/
def M_next_state_2 (c0 : DF') (c1 : DF') : DS := (dSeq (dSet 4 (dCall c1 (dCons (dVar 0) (dCons (dVar 1) (dCons (dVar 2) (dCons (dVar 3) dNil)))))) (dSeq (dIfS (dBin gNe (dVar 4) (dC (.str ("" : Str)))) (dSeq dNever dNext) dNext) (dSeq (dRet (dImm (dCall c0 (dCons (dVar 0) (dCons (dVar 1) (dCons (dVar 2) (dCons (dVar 3) dNil))))))) dNext)))
/-- k16: behind(sky, hour, some, found, state, order) of choices, next_state -/
def M_behind_l1 (c0 : DF') (c1 : DF') : DS := (dSeq (dPut 3 (dCall c1 (dCons (dVar 0) (dCons (dVar 1) (dCons (dVar 4) (dCons (dVar 5) dNil))))) (dC (.bl true))) dNext)
def M_behind_l2 (c0 : DF') (c1 : DF') : DS := (dSeq (dFor (dItems (dCall c0 (dCons (dVar 0) (dCons (dVar 1) (dCons (dVar 4) dNil))))) (gdName 5) (M_behind_l1 c0 c1) [5]) dNext)
def M_behind (c0 : DF') (c1 : DF') : DS := (dSeq (dSet 3 (dC (.dic true [] []))) (dSeq (dFor (dItems (dVar 2)) (gdName 4) (M_behind_l2 c0 c1) [4, 5]) (dSeq (dRet (dSorted (dCons (dListOf (dCons (dVar 3) dNil)) dNil))) dNext)))
/-- k17: unbeaten(some, left, x, y, height, sacks, puffs, spot, found) of front -/
def M_unbeaten_l1 (c0 : DF') : DS := (dSeq (dApp 8 (dImm (dTup (dCons (dVar 2) (dCons (dVar 3) (dCons (dVar 4) (dCons (dVar 5) (dCons (dVar 6) dNil)))))))) dNext)
def M_unbeaten_l2 (c0 : DF') : DS := (dSeq (dFor (dItems (dCall c0 (dCons (dBin gIx (dVar 1) (dTup (dCons (dVar 2) (dCons (dVar 3) (dCons (dVar 4) dNil))))) dNil))) (gdTup 2 (gdCons (gdName 5) (gdCons (gdName 6) gdNil))) (M_unbeaten_l1 c0) [5, 6]) dNext)
def M_unbeaten_l3 (c0 : DF') : DS := (dSeq (dSet 7 (dTup (dCons (dVar 2) (dCons (dVar 3) (dCons (dVar 4) dNil))))) (dSeq (dIfS (dNotInD 1 (dVar 7)) (dSeq (dPutN 1 (dVar 7)) dNext) dNext) (dSeq (dAppD 1 (dVar 7) (dTup (dCons (dVar 5) (dCons (dVar 6) dNil)))) dNext)))
def M_unbeaten (c0 : DF') : DS := (dSeq (dSet 1 (dC (.dic true [] []))) (dSeq (dFor (dItems (dVar 0)) (gdTup 5 (gdCons (gdName 2) (gdCons (gdName 3) (gdCons (gdName 4) (gdCons (gdName 5) (gdCons (gdName 6) gdNil)))))) (M_unbeaten_l3 c0) [2, 3, 4, 5, 6, 7]) (dSeq (dSet 8 (dLst dNil)) (dSeq (dForK 1 (gdTup 3 (gdCons (gdName 2) (gdCons (gdName 3) (gdCons (gdName 4) gdNil)))) (M_unbeaten_l2 c0) [2, 3, 4, 5, 6]) (dSeq (dRet (dSorted (dCons (dVar 8) dNil))) dNext)))))
/-- k17: table(sky, hour, state, many, rows, at) of behind, unbeaten -/
def M_table_l1 (c0 : DF') (c1 : DF') : DS := (dSeq (dApp 4 (dCall c1 (dCons (dCall c0 (dCons (dVar 0) (dCons (dBin gAdd (dVar 1) (dVar 5)) (dCons (dBin gIx (dVar 4) (dUn gNeg (dC (.int (1))))) dNil)))) dNil))) dNext)
def M_table (c0 : DF') (c1 : DF') : DS := (dSeq (dSet 4 (dLst (dCons (dLst (dCons (dImm (dVar 2)) dNil)) dNil))) (dSeq (dFor (dRange1 (dVar 3)) (gdName 5) (M_table_l1 c0 c1) [5]) (dSeq (dRet (dVar 4)) dNext)))
/-- k18: _law_spots(_law_row, _law_found, _law_state_here) -/
def M_law_spots_l1 : DS := (dSeq (dIfS (dNotInD 1 (dSl (dVar 2) dNo (dPart (dC (.int (3)))))) (dSeq (dPutN 1 (dSl (dVar 2) dNo (dPart (dC (.int (3)))))) dNext) dNext) (dSeq (dAppD 1 (dSl (dVar 2) dNo (dPart (dC (.int (3))))) (dSl (dVar 2) (dPart (dC (.int (3)))) dNo)) dNext))
def M_law_spots : DS := (dSeq (dSet 1 (dC (.dic true [] []))) (dSeq (dFor (dItems (dVar 0)) (gdName 2) M_law_spots_l1 [2]) (dSeq (dRet (dVar 1)) dNext)))
/-- k18: _law_plain(_law_row, _law_state_here, _law_part) -/
def M_law_plain_l1 : DS := (dSeq (dIfS (dOr (dNot (dIsT .tuple (dVar 1))) (dBin gNe (dCallO gLen (dCons (dVar 1) dNil)) (dC (.int (5))))) (dSeq (dRet (dImm (dC (.bl false)))) dNext) dNext) (dSeq (dIfS (dNot (dCallO gAll (dCons (dComp (dItems (dVar 1)) (gdName 2) (dC (.bl true)) (dAnd (dIsT .int (dVar 2)) (dNot (dIsT .bool (dVar 2)))) [2]) dNil))) (dSeq (dRet (dImm (dC (.bl false)))) dNext) dNext) dNext))
def M_law_plain : DS := (dSeq (dIfS (dNot (dIsT .list (dVar 0))) (dSeq (dRet (dImm (dC (.bl false)))) dNext) dNext) (dSeq (dFor (dItems (dVar 0)) (gdName 1) M_law_plain_l1 [1]) (dSeq (dRet (dImm (dC (.bl true)))) dNext)))
/-- k18: _law_link(_law_sky_here, _law_hour, _law_row, _law_later, _law_spots_here, _law_led_here, _law_state_here, _law_order, _law_one, _law_p) of _law_why, _law_led, _law_spots -/
def M_law_link_l1 (c0 : DF') (c1 : DF') (c2 : DF') : DS := (dSeq (dIfS (dBin gEq (dCall c0 (dCons (dVar 0) (dCons (dVar 1) (dCons (dVar 6) (dCons (dVar 7) dNil))))) (dC (.str ("" : Str)))) (dSeq (dSet 8 (dCall c1 (dCons (dVar 0) (dCons (dVar 1) (dCons (dVar 6) (dCons (dVar 7) dNil)))))) (dSeq (dPut 5 (dVar 8) (dC (.bl true))) (dSeq (dIfS (dNot (dCallO gAny (dCons (dComp (dItems (dGet (dVar 4) (dSl (dVar 8) dNo (dPart (dC (.int (3))))) (dLst dNil))) (gdName 9) (dC (.bl true)) (dAnd (dBin (gCmpI fun i j => decide (j ≤ i)) (dBin gIx (dVar 9) (dC (.int (0)))) (dBin gIx (dVar 8) (dC (.int (3))))) (dBin (gCmpI fun i j => decide (j ≤ i)) (dBin gIx (dVar 9) (dC (.int (1)))) (dBin gIx (dVar 8) (dC (.int (4)))))) [9]) dNil))) (dSeq (dRet (dImm (dC (.bl false)))) dNext) dNext) dNext))) dNext) dNext)
def M_law_link_l2 (c0 : DF') (c1 : DF') (c2 : DF') : DS := (dSeq (dFor (dItems (dTup (dCons (dC (.str ("up" : Str))) (dCons (dC (.str ("level" : Str))) (dCons (dC (.str ("down" : Str))) dNil))))) (gdName 7) (M_law_link_l1 c0 c1 c2) [7, 8]) dNext)
def M_law_link (c0 : DF') (c1 : DF') (c2 : DF') : DS := (dSeq (dSet 4 (dCall c2 (dCons (dVar 3) dNil))) (dSeq (dSet 5 (dC (.dic true [] []))) (dSeq (dFor (dItems (dVar 2)) (gdName 6) (M_law_link_l2 c0 c1 c2) [6, 7, 8]) (dSeq (dRet (dImm (dCallO gAll (dCons (dComp (dItems (dVar 3)) (gdName 6) (dC (.bl true)) (dBin gIn (dVar 6) (dVar 5)) [6]) dNil)))) dNext))))
end Lw
/-! Sp1: what the small defs give: boxes, the drawn numbers, the comparing. -/
namespace Lw
open PySem PySem.Spec PyProof.Rows L2 Dl
def box6 (a b c d e f : Int) : D := .tup [.int a, .int b, .int c, .int d, .int e, .int f]
theorem inside_ok (a b c d e f x y z : Int) : runF 10 M_inside [box6 a b c d e f, .int x, .int y, .int z] = .ok (.bl (decide (a ≤ x ∧ x ≤ c ∧ b ≤ y ∧ y ≤ d ∧ e ≤ z ∧ z ≤ f))) := by
  rw [runF_eq]
  simp [M_inside, box6]
  repeat' split
  all_goals (simp only [RG.ok.injEq, D.bl.injEq]; rw [Bool.eq_iff_iff]; simp; try omega)
theorem law_in_ok (a b c d e f x y z : Int) : runF 4 M_law_in [box6 a b c d e f, .int x, .int y, .int z] = .ok (.bl (decide (a ≤ x ∧ x ≤ c ∧ b ≤ y ∧ y ≤ d ∧ e ≤ z ∧ z ≤ f))) := by
  rw [runF_eq]
  simp [M_law_in, box6]
/-! ### numbers that are drawn -/
def Rw (ns : List Int) : Prop := ∀ v ∈ ns, 0 ≤ v ∧ v < 1000
def Dr (n : Nat) (ns : List Int) : Prop := ns.length = n ∧ Rw ns
theorem Rw.snoc {ns : List Int} {v : Int} (h : Rw ns) (h1 : 0 ≤ v) (h2 : v < 1000) : Rw (ns ++ [v]) := fun u hu => by
  rcases List.mem_append.mp hu with hu | hu
  · exact h u hu
  · rw [List.mem_singleton.mp hu]; exact ⟨h1, h2⟩
/-- the frame of the numbers' drawing -/
def enN (sc m : D) (r : List Int) (s : Int) (c x : Option D) : DEnv := [some sc, some m, some (.lst (r.map D.int)), some (.int s), c, x, none]
theorem num_in {sc m : D} {s c : Int} (r : List Int) (x : Int) (hr : Rw r) (hl : r.length ≤ 5000) :
    ∃ r' x', forGo (gdName 6) M_law_numbers_l2 [6] ((List.range 60).map fun (i : Nat) => D.int (i : Int)) (enN sc m r s (some (.int c)) (some (.int x))) = .nx (enN sc m r' s (some (.int c)) (some (.int x'))) ∧ Rw r' ∧ r'.length ≤ r.length + 60 := by
  obtain ⟨env', h1, r', x', rfl, h2, h3⟩ := forGo_inv (gd := gdName 6) (body := M_law_numbers_l2) (ks := [6]) (enc := fun (i : Nat) => D.int (i : Int)) (fun pre env => ∃ r' x', env = enN sc m r' s (some (.int c)) (some (.int x')) ∧ Rw r' ∧ r'.length ≤ r.length + pre.length) (List.range 60)
    ⟨r, x, rfl, hr, by simp⟩ fun pre i post env hi ⟨r', x', e, h2, h3⟩ => by
      subst e
      have hp := pre_lt hi
      rw [List.length_range] at hp
      have hz : r'.length < sizeLine := lt_size (by omega)
      refine ⟨_, rfl, ?_⟩
      by_cases h : 0 < x'
      · exact ⟨_, .inl (by simp [M_law_numbers_l2, enN, h, hz]; rfl), r' ++ [x' % 1000], x' / 1000, by simp [enN], h2.snoc (by omega) (by omega), by simp; omega⟩
      · exact ⟨_, .inl (by simp [M_law_numbers_l2, enN, h, hz]; rfl), r', x', by simp [enN], h2, by simp; omega⟩
  exact ⟨r', x', h1, h2, by simpa using h3⟩
theorem num_cells {sc m : D} (cs : List Int) (hc : cs.length ≤ 63) :
    ∃ r s, forGo (gdName 4) M_law_numbers_l3 [4, 5, 6] (cs.map D.int) (enN sc m [] 29 none none) = .nx (enN sc m r s none none) ∧ Rw r ∧ r.length ≤ 5000 ∧ 0 ≤ s ∧ s < 2147483629 := by
  obtain ⟨env', h1, r', s', rfl, h2, h3, h4, h5⟩ := forGo_inv (gd := gdName 4) (body := M_law_numbers_l3) (ks := [4, 5, 6]) (enc := D.int) (fun pre env => ∃ r s, env = enN sc m r s none none ∧ Rw r ∧ r.length ≤ 61 * pre.length ∧ 0 ≤ s ∧ s < 2147483629) cs
    (env := enN sc m [] 29 none none) ⟨[], 29, rfl, fun _ h => (by cases h), by simp, by omega, by omega⟩ fun pre c post env hi ⟨r, s, e, h2, h3, h4, h5⟩ => by
      subst e
      have hp := pre_lt hi
      have hz : r.length < sizeLine := lt_size (by omega)
      refine ⟨_, rfl, ?_⟩
      by_cases h : c - 1000000000000000000 < 0
      · obtain ⟨r', x', g1, g2, g3⟩ := num_in (sc := sc) (m := m) (s := (s * 69621 + c % 999983 + 7) % 2147483629) (c := c) (r ++ [c % 1000]) (c - 1000000000000000000) (h2.snoc (by omega) (by omega)) (by simp; omega)
        simp [enN] at g1
        exact ⟨_, .inl (by simp [M_law_numbers_l3, enN, h, hz, dFor, rng_ok, g1]; rfl), r', (s * 69621 + c % 999983 + 7) % 2147483629, by simp [enN], g2, by simp at g3; simp; omega, by omega, by omega⟩
      · obtain ⟨r', x', g1, g2, g3⟩ := num_in (sc := sc) (m := m) (s := (s * 69621 + c % 999983 + 7) % 2147483629) (c := c) r (c - 1000000000000000000) h2 (by omega)
        simp [enN] at g1
        exact ⟨_, .inl (by simp [M_law_numbers_l3, enN, h, hz, dFor, rng_ok, g1]; rfl), r', (s * 69621 + c % 999983 + 7) % 2147483629, by simp [enN], g2, by simp; omega, by omega, by omega⟩
  exact ⟨r', s', h1, h2, by omega, h4, h5⟩
theorem num_fill {sc : D} {m : Nat} (r : List Int) (s : Int) (hr : Rw r) (hl : r.length ≤ 5000) (hm : m ≤ 1000) (h0 : 0 ≤ s) (h1 : s < 2147483629) :
    ∃ r' s', forGo (gdName 6) M_law_numbers_l1 [6] ((List.range m).map fun (i : Nat) => D.int (i : Int)) (enN sc (.int m) r s none none) = .nx (enN sc (.int m) r' s' none none) ∧ Rw r' ∧ r'.length ≤ 6000 ∧ m ≤ r'.length := by
  obtain ⟨env', h1, r', s', rfl, h2, h3, h4, h5, h6⟩ := forGo_inv (gd := gdName 6) (body := M_law_numbers_l1) (ks := [6]) (enc := fun (i : Nat) => D.int (i : Int)) (fun pre env => ∃ r' s', env = enN sc (.int m) r' s' none none ∧ Rw r' ∧ r'.length ≤ 5000 + pre.length ∧ (m ≤ r'.length ∨ pre.length ≤ r'.length) ∧ 0 ≤ s' ∧ s' < 2147483629) (List.range m)
    (env := enN sc (.int m) r s none none) ⟨r, s, rfl, hr, by simpa using hl, .inr (by simp), h0, h1⟩ fun pre i post env hi ⟨r', s', e, h2, h3, h4, h5, h6⟩ => by
      subst e
      obtain ⟨rfl, hp⟩ := pre_range hi
      have hz : r'.length < sizeLine := lt_size (by omega)
      refine ⟨_, rfl, ?_⟩
      by_cases h : r'.length < m
      · have e1 : ((r'.length : Int) < m) := by omega
        have p3 : gPowI (.int s') (.int 3) = some (.int (s' ^ 3)) := gPowI_ok (by decide) (by decide) (by omega) (by omega)
        exact ⟨_, .inl (by simp [M_law_numbers_l1, enN, e1, h, hz, p3]; rfl), r' ++ [(s' ^ 3 + 40692 * s' + 7 * (pre.length : Int) + 5) % 2147483629 / 1009 % 1000], (s' ^ 3 + 40692 * s' + 7 * (pre.length : Int) + 5) % 2147483629, by simp [enN], h2.snoc (by omega) (by omega), by simp; omega, by simp; omega, by omega, by omega⟩
      · have e1 : ¬ ((r'.length : Int) < m) := by omega
        exact ⟨_, .inl (by simp [M_law_numbers_l1, enN, e1, h]; rfl), r', s', by simp [enN], h2, by simp; omega, .inl (by omega), h5, h6⟩
  exact ⟨r', s', h1, h2, by simp at h3; omega, by simp at h4; omega⟩
/-- the drawn numbers: as many as are asked, each of 0 to 999 -/
theorem numbers_ok (sc : List Int) (hs : sc.length ≤ 63) (m : Nat) (hm : m ≤ 1000) : ∃ ns : List Int, Dr m ns ∧ runF 7 M_law_numbers [frScript sc, .int m] = .ok (.lst (ns.map D.int)) := by
  obtain ⟨r, s, g1, g2, g3, g4, g5⟩ := num_cells (sc := frScript sc) (m := .int m) (sc.take 63) (by simp; omega)
  obtain ⟨r', s', k1, k2, k3, k4⟩ := num_fill (sc := frScript sc) (m := m) r s g2 g3 hm g4 g5
  refine ⟨r'.take m, ⟨by simp; omega, fun v hv => k2 v (List.mem_of_mem_take hv)⟩, ?_⟩
  rw [runF_eq]
  have e : rng (m : Int) = .ok ((List.range m).map fun (i : Nat) => D.int (i : Int)) := rng_nat (Nat.lt_of_le_of_lt hm (by decide))
  have src : dItems (dSl (dVar 0) dNo (dPart (dC (.int 63)))) (enN (frScript sc) (.int m) [] 29 none none) = .ok ((sc.take 63).map D.int) := by
    simp [enN, frScript, List.map_take]
  have c1 := (dFor_ok (gd := gdName 4) (body := M_law_numbers_l3) (ks := [4, 5, 6]) src).trans g1
  have c2 := (dFor_ok (gd := gdName 6) (body := M_law_numbers_l1) (ks := [6]) (src := dRange1 (dVar 1)) (env := enN (frScript sc) (.int m) r s none none) (by simp [enN, e])).trans k1
  simp only [enN] at c1 c2
  simp [M_law_numbers, enN, frScript] at c1 c2 ⊢
  simp [c1, c2, cut_to, List.map_take]
/-! ### the comparing -/
/-- data that the law's comparing goes through, so deep -/
def okS : Nat → D → Bool
  | 0, _ => false
  | _ + 1, .non => true
  | _ + 1, .bl _ => true
  | _ + 1, .int _ => true
  | _ + 1, .str x => eqOk (.str x)
  | n + 1, .tup ds => ds.all (okS n) && decide (ds.length ≤ 1000000)
  | n + 1, .lst ds => ds.all (okS n) && decide (ds.length ≤ 1000000)
  | _ + 1, _ => false
theorem zip_self (ds : List D) : zipD ds ds = ds.map fun d => D.tup [d, d] := by
  unfold zipD
  induction ds with
  | nil => rfl
  | cons d ds ih => simp only [List.zip_cons_cons, List.map_cons, ih]
theorem gEq_leaf (d : D) (h : eqOk d = true) : gEq d d = some (.bl true) := by
  unfold gEq
  rw [if_pos (by rw [h]; rfl), SeqAt.eqv_refl]
  unfold eqOk at h
  rw [Bool.and_eq_true] at h
  exact SeqAt.canLay_of_shaped h.2
theorem same_leaf (rec : DF') (d : D) (h : eqOk d = true) (h1 : isTy .list d = false) (h2 : isTy .tuple d = false) (h3 : noDict d = true) : runF 4 (M_law_same rec) [d, d] = .ok (.bl true) := by
  have e := gEq_leaf d h
  have n1 : ∀ b : Bool, gNe (.bl b) (.bl b) = some (.bl false) := fun b => by cases b <;> rfl
  have ty : ∀ t, gIsT t d = some (.bl (isTy t d)) := fun t => gIsT_eq h3
  rw [runF_eq]
  cases d with
  | non => simp [M_law_same, ty, isTy, n1, e]
  | bl b => simp [M_law_same, ty, isTy, n1, e]
  | int b => simp [M_law_same, ty, isTy, n1, e]
  | str b => simp [M_law_same, ty, isTy, n1, e]
  | tup _ => cases h2
  | ktp _ => cases h2
  | lst _ => cases h1
  | frl _ => cases h1
  | dic _ _ _ => cases h3
  | obj _ => cases h3
theorem same_many (rec : DF') (ds : List D) (hz : ds.length ≤ 1000000) (hr : ∀ d ∈ ds, rec [d, d] = .ok (.bl true)) (b : Bool) : runF 4 (M_law_same rec) [if b then .tup ds else .lst ds, if b then .tup ds else .lst ds] = .ok (.bl true) := by
  have n1 : ∀ b : Bool, gNe (.bl b) (.bl b) = some (.bl false) := fun b => by cases b <;> rfl
  have hl : gEq (.int (ds.length : Int)) (.int (ds.length : Int)) = some (.bl true) := gEq_leaf _ rfl
  have comp : ∀ x : D, gZip x x = some (zipD ds ds) → dComp (dZip (dVar 0) (dVar 1)) (gdTup 2 (gdCons (gdName 2) (gdCons (gdName 3) gdNil))) (dC (.bl true)) (dCall rec (dCons (dVar 2) (dCons (dVar 3) dNil))) [2, 3] [some x, some x, none, none] = .ok (.lst ((ds.map fun _ => true).map D.bl)) := by
    intro x hx
    rw [dComp_map (h := fun _ => D.bl true) (enc := fun d => D.tup [d, d]) ds (by unfold dZip; simp [hx, zip_self]) hz]
    · rw [List.map_map]; rfl
    · intro d hd
      exact ⟨_, rfl, rfl, by simp [hr d hd]⟩
  have all : (ds.map fun _ => true).all id = true := by simp
  have i1 : gIsT .list (.tup ds) = some (.bl false) := rfl
  have i2 : gIsT .tuple (.tup ds) = some (.bl true) := rfl
  have i3 : gIsT .list (.lst ds) = some (.bl true) := rfl
  have i4 : gIsT .tuple (.lst ds) = some (.bl false) := rfl
  rw [runF_eq]
  cases b with
  | true =>
    have c := comp (.tup ds) rfl
    simp [M_law_same, i1, i2, i3, i4, n1, hl, c, gAll_map, all, -List.map_map, -List.map_const]
  | false =>
    have c := comp (.lst ds) rfl
    simp [M_law_same, i1, i2, i3, i4, n1, hl, c, gAll_map, all, -List.map_map, -List.map_const]
theorem same_fam {g : Nat → DF'} (hq : ∀ n, g (n + 1) = runF 4 (M_law_same (g n))) : ∀ (n : Nat) (d : D), okS n d = true → g n [d, d] = .ok (.bl true)
  | 0, d, h => by cases h
  | n + 1, d, h => by
    rw [hq]
    cases d with
    | non => exact same_leaf _ _ (by decide) rfl rfl rfl
    | bl b => exact same_leaf _ _ (by cases b <;> decide) rfl rfl rfl
    | int b => exact same_leaf _ _ (by unfold eqOk; simp [noDic, toPy, SeqAt.shaped, PyData.canLay0, PyData.depth]) rfl rfl rfl
    | str x => exact same_leaf _ _ h rfl rfl rfl
    | tup ds =>
      have h : (ds.all (okS n) && decide (ds.length ≤ 1000000)) = true := h
      simp only [Bool.and_eq_true, List.all_eq_true, decide_eq_true_eq] at h
      exact same_many _ ds h.2 (fun d hd => same_fam hq n d (h.1 d hd)) true
    | lst ds =>
      have h : (ds.all (okS n) && decide (ds.length ≤ 1000000)) = true := h
      simp only [Bool.and_eq_true, List.all_eq_true, decide_eq_true_eq] at h
      exact same_many _ ds h.2 (fun d hd => same_fam hq n d (h.1 d hd)) false
    | frl _ => cases h
    | ktp _ => cases h
    | dic _ _ _ => cases h
    | obj _ => cases h
/-! ### items at places -/
theorem atI_ints (ns : List Int) {i : Int} (h0 : 0 ≤ i) (h1 : i < ns.length) : ∃ v ∈ ns, atI (ns.map D.int) i = some (.int v) := by
  have hl : i.toNat < ns.length := by omega
  refine ⟨ns[i.toNat], List.getElem_mem hl, atI_of h0 ?_⟩
  rw [List.getElem?_map, List.getElem?_eq_getElem hl]
  rfl
/-- a part of the drawn numbers -/
theorem dr_cut {n : Nat} {ns : List Int} (h : Dr n ns) {a b : Nat} (hab : a ≤ b) (hb : b ≤ n) : ∃ d, Dr (b - a) d ∧ cutD (ns.map D.int) (some (a : Int)) (some (b : Int)) = d.map D.int := by
  refine ⟨(ns.drop a).take (b - a), ⟨by simp [h.1]; omega, fun v hv => h.2 v (List.mem_of_mem_drop (List.mem_of_mem_take hv))⟩, ?_⟩
  rw [cut_nat _ hab (by simp [h.1, hb]), ← List.map_drop, ← List.map_take]
theorem dr_cutI {n : Nat} {ns : List Int} (h : Dr n ns) {i j : Int} (a b : Nat) (ha : i = a) (hb' : j = b) (hab : a ≤ b) (hb : b ≤ n) : ∃ d, Dr (b - a) d ∧ cutD (ns.map D.int) (some i) (some j) = d.map D.int := by
  rw [ha, hb']
  exact dr_cut h hab hb
theorem dr_to {n : Nat} {ns : List Int} (h : Dr n ns) {b : Nat} (hb : b ≤ n) : Dr b (ns.take b) := ⟨by simp [h.1]; omega, fun v hv => h.2 v (List.mem_of_mem_take hv)⟩
theorem dr_get {n : Nat} {ns : List Int} (h : Dr n ns) {i : Int} (h0 : 0 ≤ i) (h1 : i < n) : ∃ v, 0 ≤ v ∧ v < 1000 ∧ atI (ns.map D.int) i = some (.int v) := by
  obtain ⟨v, hv, e⟩ := atI_ints ns h0 (by rw [h.1]; exact h1)
  exact ⟨v, (h.2 v hv).1, (h.2 v hv).2, e⟩
theorem len_cons {α : Type} {l : List α} {n : Nat} (h : l.length = n + 1) : ∃ a r, l = a :: r ∧ r.length = n := by
  cases l with
  | nil => cases h
  | cons a r => exact ⟨a, r, rfl, by simpa using h⟩
theorem dr_uncons {n : Nat} {ns : List Int} (h : Dr (n + 1) ns) : ∃ v r, ns = v :: r ∧ 0 ≤ v ∧ v < 1000 ∧ Dr n r := by
  obtain ⟨a, r, rfl, hl⟩ := len_cons h.1
  exact ⟨a, r, rfl, (h.2 a (by simp)).1, (h.2 a (by simp)).2, hl, fun v hv => h.2 v (by simp [hv])⟩
theorem dr_nil {ns : List Int} (h : Dr 0 ns) : ns = [] := List.eq_nil_of_length_eq_zero h.1
theorem dr4 {ns : List Int} (h : Dr 4 ns) : ∃ a b c d, ns = [a, b, c, d] ∧ (0 ≤ a ∧ a < 1000) ∧ (0 ≤ b ∧ b < 1000) ∧ (0 ≤ c ∧ c < 1000) ∧ (0 ≤ d ∧ d < 1000) := by
  obtain ⟨a, r, rfl, a0, a1, h⟩ := dr_uncons h
  obtain ⟨b, r, rfl, b0, b1, h⟩ := dr_uncons h
  obtain ⟨c, r, rfl, c0, c1, h⟩ := dr_uncons h
  obtain ⟨d, r, rfl, d0, d1, h⟩ := dr_uncons h
  rw [dr_nil h]
  exact ⟨a, b, c, d, rfl, ⟨a0, a1⟩, ⟨b0, b1⟩, ⟨c0, c1⟩, d0, d1⟩
theorem dr8 {ns : List Int} (h : Dr 8 ns) : ∃ a b c d e f g i, ns = [a, b, c, d, e, f, g, i] ∧ (0 ≤ a ∧ a < 1000) ∧ (0 ≤ b ∧ b < 1000) ∧ (0 ≤ c ∧ c < 1000) ∧ (0 ≤ d ∧ d < 1000) ∧ (0 ≤ e ∧ e < 1000) ∧ (0 ≤ f ∧ f < 1000) ∧ (0 ≤ g ∧ g < 1000) ∧ (0 ≤ i ∧ i < 1000) := by
  obtain ⟨a, r, rfl, a0, a1, h⟩ := dr_uncons h
  obtain ⟨b, r, rfl, b0, b1, h⟩ := dr_uncons h
  obtain ⟨c, r, rfl, c0, c1, h⟩ := dr_uncons h
  obtain ⟨d, r, rfl, d0, d1, h⟩ := dr_uncons h
  obtain ⟨e, r, rfl, e0, e1, h⟩ := dr_uncons h
  obtain ⟨f, r, rfl, f0, f1, h⟩ := dr_uncons h
  obtain ⟨g, r, rfl, g0, g1, h⟩ := dr_uncons h
  obtain ⟨i, r, rfl, i0, i1, h⟩ := dr_uncons h
  rw [dr_nil h]
  exact ⟨a, b, c, d, e, f, g, i, rfl, ⟨a0, a1⟩, ⟨b0, b1⟩, ⟨c0, c1⟩, ⟨d0, d1⟩, ⟨e0, e1⟩, ⟨f0, f1⟩, ⟨g0, g1⟩, i0, i1⟩
/-! ### boxes drawn -/
end Lw
/-! Sp2: data that are compared, unrolled loops, boxes that two share. -/
namespace Dl
open PySem PySem.Spec PyProof.Rows L2
/-- (by choice) -/
noncomputable def dec (p : Prop) : Bool := @decide p (Classical.propDecidable p)
@[simp] theorem dec_iff {p : Prop} : (dec p = true) = p := by
  unfold dec
  simp
@[simp] theorem dec_false {p : Prop} : (dec p = false) = ¬ p := by
  unfold dec
  simp
theorem dec_dec {p : Prop} [h : Decidable p] : dec p = decide p := by
  unfold dec
  congr
/-- data without truths, so deep at most -/
def okE : Nat → D → Bool
  | _, .non => true
  | _, .int _ => true
  | _, .str x => PyData.canLay0 (.str x)
  | n + 1, .tup ds => ds.all (okE n)
  | n + 1, .lst ds => ds.all (okE n)
  | _, _ => false
theorem noDics_all : ∀ {ds : List D}, (∀ d ∈ ds, noDic d = true) → noDics ds = true
  | [], _ => rfl
  | d :: ds, h => by
    show (noDic d && noDics ds) = true
    rw [h d (by simp), noDics_all fun e he => h e (by simp [he])]
    rfl
theorem canLays_all : ∀ {ds : List D}, (∀ d ∈ ds, (toPy d).canLay0 = true) → PyData.canLayAll0 (toPys ds) = true
  | [], _ => rfl
  | d :: ds, h => by
    show (PyData.canLay0 (toPy d) && PyData.canLayAll0 (toPys ds)) = true
    rw [h d (by simp), canLays_all fun e he => h e (by simp [he])]
    rfl
theorem depths_all : ∀ {ds : List D} {n : Nat}, (∀ d ∈ ds, (toPy d).depth ≤ n) → PyData.depthAll (toPys ds) ≤ n
  | [], _, _ => Nat.zero_le _
  | d :: ds, n, h => by
    show max (PyData.depth (toPy d)) (PyData.depthAll (toPys ds)) ≤ n
    have h1 := h d (by simp)
    have h2 : PyData.depthAll (toPys ds) ≤ n := depths_all fun e he => h e (List.mem_cons_of_mem _ he)
    omega
theorem okE_facts : ∀ (n : Nat) (d : D), okE n d = true → noDic d = true ∧ (toPy d).canLay0 = true ∧ (toPy d).depth ≤ n
  | _, .non, _ => ⟨rfl, rfl, Nat.zero_le _⟩
  | _, .int _, _ => ⟨rfl, rfl, Nat.zero_le _⟩
  | 0, .str x, h => ⟨rfl, h, Nat.zero_le _⟩
  | n + 1, .str x, h => ⟨rfl, h, Nat.zero_le _⟩
  | n + 1, .tup ds, h => by
    have h : ds.all (okE n) = true := h
    rw [List.all_eq_true] at h
    have ih := fun d hd => okE_facts n d (h d hd)
    refine ⟨noDics_all fun d hd => (ih d hd).1, canLays_all fun d hd => (ih d hd).2.1, ?_⟩
    show PyData.depthAll (toPys ds) + 1 ≤ n + 1
    have := depths_all fun d hd => (ih d hd).2.2
    omega
  | n + 1, .lst ds, h => by
    have h : ds.all (okE n) = true := h
    rw [List.all_eq_true] at h
    have ih := fun d hd => okE_facts n d (h d hd)
    refine ⟨noDics_all fun d hd => (ih d hd).1, canLays_all fun d hd => (ih d hd).2.1, ?_⟩
    show PyData.depthAll (toPys ds) + 1 ≤ n + 1
    have := depths_all fun d hd => (ih d hd).2.2
    omega
  | 0, .tup _, h => by cases h
  | 0, .lst _, h => by cases h
  | 0, .bl _, h => by cases h
  | n + 1, .bl _, h => by cases h
  | 0, .frl _, h => by cases h
  | n + 1, .frl _, h => by cases h
  | 0, .ktp _, h => by cases h
  | n + 1, .ktp _, h => by cases h
  | 0, .dic _ _ _, h => by cases h
  | n + 1, .dic _ _ _, h => by cases h
  | 0, .obj _, h => by cases h
  | n + 1, .obj _, h => by cases h
theorem okE_eqOk {n : Nat} {d : D} (h : okE n d = true) (hn : n ≤ 64) : eqOk d = true := by
  obtain ⟨h1, h2, h3⟩ := okE_facts n d h
  unfold eqOk SeqAt.shaped
  rw [h1, h2, decide_eq_true (by omega)]
  rfl
theorem eqvs_iff : ∀ (xs ys : List D), (∀ x ∈ xs, ∀ y ∈ ys, (PyData.eqv (toPy x) (toPy y) = true ↔ x = y)) → (PyData.eqvAll (toPys xs) (toPys ys) = true ↔ xs = ys)
  | [], [], _ => ⟨fun _ => rfl, fun _ => rfl⟩
  | [], _ :: _, _ => ⟨fun h => Bool.noConfusion h, fun h => nomatch h⟩
  | _ :: _, [], _ => ⟨fun h => Bool.noConfusion h, fun h => nomatch h⟩
  | x :: xs, y :: ys, h => by
    show (PyData.eqv (toPy x) (toPy y) && PyData.eqvAll (toPys xs) (toPys ys)) = true ↔ _
    rw [Bool.and_eq_true, h x (by simp) y (by simp), eqvs_iff xs ys fun a ha b hb => h a (by simp [ha]) b (by simp [hb]), List.cons.injEq]
theorem okE_eqv : ∀ (n m : Nat) (a b : D), okE n a = true → okE m b = true → (PyData.eqv (toPy a) (toPy b) = true ↔ a = b) := by
  intro n
  induction n with
  | zero =>
    intro m a b ha hb
    cases a <;> cases m <;> cases b <;> first
      | (cases ha; done)
      | (cases hb; done)
      | exact ⟨fun _ => rfl, fun _ => rfl⟩
      | exact ⟨fun h => Bool.noConfusion h, fun h => D.noConfusion h⟩
      | (next x y => show ((x == y) = true) ↔ _; rw [beq_iff_eq, D.int.injEq])
      | (next x y => show ((x == y) = true) ↔ _; rw [beq_iff_eq, D.str.injEq])
      | (next x _ y => show ((x == y) = true) ↔ _; rw [beq_iff_eq, D.int.injEq])
      | (next x _ y => show ((x == y) = true) ↔ _; rw [beq_iff_eq, D.str.injEq])
  | succ n ih =>
    intro m a b ha hb
    cases a <;> cases m <;> cases b <;> first
      | (cases ha; done)
      | (cases hb; done)
      | exact ⟨fun _ => rfl, fun _ => rfl⟩
      | exact ⟨fun h => Bool.noConfusion h, fun h => D.noConfusion h⟩
      | (next x y => show ((x == y) = true) ↔ _; rw [beq_iff_eq, D.int.injEq])
      | (next x y => show ((x == y) = true) ↔ _; rw [beq_iff_eq, D.str.injEq])
      | (next x _ y => show ((x == y) = true) ↔ _; rw [beq_iff_eq, D.int.injEq])
      | (next x _ y => show ((x == y) = true) ↔ _; rw [beq_iff_eq, D.str.injEq])
      | (next xs m ys =>
          have ha : xs.all (okE n) = true := ha
          have hb : ys.all (okE m) = true := hb
          rw [List.all_eq_true] at ha hb
          show PyData.eqvAll (toPys xs) (toPys ys) = true ↔ _
          rw [eqvs_iff xs ys fun x hx y hy => ih m x y (ha x hx) (hb y hy)]
          simp)
theorem gEq_E {a b : D} (n m : Nat) (ha : okE n a = true) (hb : okE m b = true) (hn : n ≤ 64) (hm : m ≤ 64) : gEq a b = some (.bl (dec (a = b))) := by
  unfold gEq
  rw [okE_eqOk ha hn, okE_eqOk hb hm]
  show some (D.bl (PyData.eqv (toPy a) (toPy b))) = _
  congr 2
  rw [Bool.eq_iff_iff, okE_eqv n m a b ha hb, dec_iff]
theorem gNe_E {a b : D} (n m : Nat) (ha : okE n a = true) (hb : okE m b = true) (hn : n ≤ 64) (hm : m ≤ 64) : gNe a b = some (.bl (!dec (a = b))) := by
  unfold gNe
  rw [okE_eqOk ha hn, okE_eqOk hb hm]
  show some (D.bl (!PyData.eqv (toPy a) (toPy b))) = _
  congr 3
  rw [Bool.eq_iff_iff, okE_eqv n m a b ha hb, dec_iff]
@[simp] theorem gEq_int {i j : Int} : gEq (.int i) (.int j) = some (.bl (decide (i = j))) := by
  rw [gEq_E 0 0 rfl rfl (by decide) (by decide), ← dec_dec, D.int.injEq]
@[simp] theorem gNe_int {i j : Int} : gNe (.int i) (.int j) = some (.bl (!decide (i = j))) := by
  rw [gNe_E 0 0 rfl rfl (by decide) (by decide), ← dec_dec, D.int.injEq]
@[simp] theorem gEq_self {d : D} (h : eqOk d = true) : gEq d d = some (.bl true) := by
  unfold gEq
  rw [h, SeqAt.eqv_refl]
  · rfl
  · unfold eqOk at h
    rw [Bool.and_eq_true] at h
    exact SeqAt.canLay_of_shaped h.2
@[simp] theorem gNe_self {d : D} (h : eqOk d = true) : gNe d d = some (.bl false) := by
  unfold gNe
  rw [h, SeqAt.eqv_refl]
  · rfl
  · unfold eqOk at h
    rw [Bool.and_eq_true] at h
    exact SeqAt.canLay_of_shaped h.2
@[simp] theorem gInt_int {i : Int} : gInt [.int i] = some (.int i) := (rfl)
@[simp] theorem gInt_bl {k : Bool} : gInt [.bl k] = some (.int (if k = true then 1 else 0)) := (rfl)
theorem maxI_eq {i j : Int} : maxI i j = max i j := by
  unfold maxI
  split <;> omega
/-! ### a loop over a display, unrolled -/
section
variable {body : DS} {ks : List Nat} {env : DEnv}
variable {gd : D → DEnv → Option DEnv} {r : List D}
@[simp] theorem forGo_end : forGo gd body ks [] env = .nx env := (rfl)
@[simp] theorem forK_nx {e : DEnv} : forK gd body ks r (.nx e) = forGo gd body ks r (killD e ks) := (rfl)
@[simp] theorem forK_ct {e : DEnv} : forK gd body ks r (.ct e) = forGo gd body ks r (killD e ks) := (rfl)
@[simp] theorem forK_bk {e : DEnv} : forK gd body ks r (.bk e) = .nx e := (rfl)
@[simp] theorem forK_rt {d : D} : forK gd body ks r (.rt d) = .rt d := (rfl)
@[simp] theorem forK_bad : forK gd body ks r .bad = .bad := (rfl)
@[simp] theorem forK_ite {p : Prop} [Decidable p] {a b : Out} : forK gd body ks r (if p then a else b) = if p then forK gd body ks r a else forK gd body ks r b := by split <;> rfl
end
end Dl
namespace Lw
open PySem PySem.Spec PyProof.Rows L2 Dl
/-- a box near the base -/
def boxN (x y d0 d1 d2 d3 d4 d5 : Int) : D := box6 (x + d0 % 9 - 4) (y + d1 % 9 - 4) (x + d0 % 9 - 4 + d2 % 4) (y + d1 % 9 - 4 + d3 % 4) (d4 % 6) (d4 % 6 + d5 % (6 - d4 % 6))
theorem box_ok (x y d0 d1 d2 d3 d4 d5 : Int) (r : List Int) : runF 5 M_law_box [.lst ((d0 :: d1 :: d2 :: d3 :: d4 :: d5 :: r).map D.int), .tup [.int x, .int y]] = .ok (boxN x y d0 d1 d2 d3 d4 d5) := by
  have m5 : gModI (.int d5) (.int (6 - d4 % 6)) = some (.int (d5 % (6 - d4 % 6))) := gModI_pos (by omega)
  rw [runF_eq]
  simp [M_law_box, m5, boxN, box6]
end Lw
/-! Sp3: numbers sorted, the least and the greatest. -/
namespace Dl
open PySem PySem.Spec PyProof.Rows L2
@[simp] theorem dSorted_eq {fs : DXs} {env : DEnv} : dSorted fs env = (fs env).bind (oneO sortedO) := (rfl)
@[simp] theorem oneO_one {g : D → Option D} {d : D} : oneO g [d] = .ofO (g d) := (rfl)
def IsMin (l : List Int) (m : Int) : Prop := m ∈ l ∧ ∀ x ∈ l, m ≤ x
def IsMax (l : List Int) (m : Int) : Prop := m ∈ l ∧ ∀ x ∈ l, x ≤ m
theorem IsMin.snoc {l : List Int} {m x : Int} (h : IsMin l m) : IsMin (l ++ [x]) (min m x) := ⟨by
  by_cases hx : m ≤ x
  · rw [Int.min_eq_left hx]; exact List.mem_append_left _ h.1
  · rw [Int.min_eq_right (by omega)]; simp, fun y hy => by
  rcases List.mem_append.mp hy with hy | hy
  · have := h.2 y hy; omega
  · rw [List.mem_singleton.mp hy]; omega⟩
theorem IsMax.snoc {l : List Int} {m x : Int} (h : IsMax l m) : IsMax (l ++ [x]) (max m x) := ⟨by
  by_cases hx : x ≤ m
  · rw [Int.max_eq_left hx]; exact List.mem_append_left _ h.1
  · rw [Int.max_eq_right (by omega)]; simp, fun y hy => by
  rcases List.mem_append.mp hy with hy | hy
  · have := h.2 y hy; omega
  · rw [List.mem_singleton.mp hy]; omega⟩
end Dl
namespace Lw
open PySem PySem.Spec PyProof.Rows L2 Dl
/-- a spot of three numbers -/
abbrev Sp := Int × Int × Int
def spD (p : Sp) : D := .tup [.int p.1, .int p.2.1, .int p.2.2]
end Lw
/-! Sp4: winds. -/
namespace Dl
open PySem PySem.Spec PyProof.Rows L2
@[simp] theorem cut_fromL {α : Type} (xs : List α) (b : Nat) : cutD xs (some (no_index (OfNat.ofNat b : Int))) none = xs.drop b := cut_from xs
def pqD (p : Int × Int) : D := .tup [.int p.1, .int p.2]
def lexP (x y : Int × Int) : Prop := x.1 < y.1 ∨ (x.1 = y.1 ∧ x.2 ≤ y.2)
theorem maxP_spec : ∀ (L : List (Int × Int)) (a : Int × Int), ∃ m ∈ a :: L, maxOfD (pqD a) (L.map pqD) = pqD m ∧ ∀ x ∈ a :: L, lexP x m
  | [], a => ⟨a, by simp, rfl, fun x hx => by rw [List.mem_singleton.mp hx]; exact .inr ⟨rfl, Int.le_refl _⟩⟩
  | y :: L, a => by
    have e : maxOfD (pqD a) ((y :: L).map pqD) = maxOfD (if PySem.W.dataLt (toPy (pqD a)) (toPy (pqD y)) then pqD y else pqD a) (L.map pqD) := rfl
    have lt : PySem.W.dataLt (toPy (pqD a)) (toPy (pqD y)) = decide (a.1 < y.1 ∨ (a.1 = y.1 ∧ a.2 < y.2)) := PySem.W.dataLt_ii _ _ _ _
    rw [e, lt]
    by_cases h : a.1 < y.1 ∨ (a.1 = y.1 ∧ a.2 < y.2)
    · rw [if_pos (decide_eq_true h)]
      obtain ⟨m, hm, em, hx⟩ := maxP_spec L y
      refine ⟨m, List.mem_cons_of_mem _ hm, em, fun x hx' => ?_⟩
      rcases List.mem_cons.mp hx' with rfl | hx'
      · have := hx y (by simp)
        unfold lexP at *
        omega
      · exact hx x hx'
    · rw [if_neg (by simpa using h)]
      obtain ⟨m, hm, em, hx⟩ := maxP_spec L a
      refine ⟨m, ?_, em, fun x hx' => ?_⟩
      · rcases List.mem_cons.mp hm with rfl | hm
        · simp
        · simp [hm]
      · rcases List.mem_cons.mp hx' with rfl | hx'
        · exact hx _ (by simp)
        · rcases List.mem_cons.mp hx' with rfl | hx'
          · have := hx a (by simp)
            unfold lexP at *
            omega
          · exact hx x (by simp [hx'])
theorem mmOk_pr (L : List (Int × Int)) : mmOk (L.map pqD) = true := by
  unfold mmOk
  simp only [Bool.and_eq_true, List.all_eq_true, List.mem_map, decide_eq_true_eq]
  rintro _ ⟨i, _, rfl⟩
  refine ⟨⟨⟨⟨rfl, rfl⟩, rfl⟩, ?_⟩, ?_⟩
  · show max 0 (max 0 0) + 1 ≤ 50
    omega
  · rintro _ ⟨j, _, rfl⟩
    rfl
theorem gMaxA_pr {L : List (Int × Int)} (h : L ≠ []) : ∃ m ∈ L, gMaxA [.lst (L.map pqD)] = some (pqD m) ∧ ∀ x ∈ L, lexP x m := by
  cases L with
  | nil => exact absurd rfl h
  | cons a L =>
    obtain ⟨m, hm, em, hx⟩ := maxP_spec L a
    refine ⟨m, hm, ?_, hx⟩
    have e : gOneD maxOfD [.lst (pqD a :: L.map pqD)] = some (pqD m) := by
      unfold gOneD
      have := mmOk_pr (a :: L)
      rw [List.map_cons] at this
      simp only [em, this]
      rfl
    unfold gMaxA
    exact e
theorem foldl_pre {α β : Type} {f : β → α → β} (P : List α → β → Prop) {b : β} (h0 : P [] b) (step : ∀ pre x b, P pre b → P (pre ++ [x]) (f b x)) (xs : List α) : P xs (xs.foldl f b) := by
  have : ∀ (xs pre : List α) (b : β), P pre b → P (pre ++ xs) (xs.foldl f b) := by
    intro xs
    induction xs with
    | nil => intro pre b h; simpa using h
    | cons x xs ih =>
      intro pre b h
      have := ih (pre ++ [x]) (f b x) (step pre x b h)
      simpa using this
  simpa using this xs [] b h0
end Dl
namespace Lw
open PySem PySem.Spec PyProof.Rows L2 Dl
/-- first, level, dx, dy -/
abbrev Wn := Int × Int × Int × Int
def wnD (w : Wn) : D := .tup [.int w.1, .int w.2.1, .int w.2.2.1, .int w.2.2.2]
def cand (h l : Int) (w : Wn) : Prop := w.2.1 = l ∧ w.1 ≤ h
instance (h l : Int) (w : Wn) : Decidable (cand h l w) := inferInstanceAs (Decidable (_ ∧ _))
def wStep (h l : Int) (a : (Int × Int) × Int) (w : Wn) : (Int × Int) × Int := if w.2.1 = l ∧ w.1 ≤ h ∧ a.2 ≤ w.1 then (w.2.2, w.1) else a
def windF (ws : List Wn) (h l : Int) : Int × Int := (ws.foldl (wStep h l) ((0, 0), -1)).1
theorem wind_at_ok (ws : List Wn) (h l : Int) : runF 9 M_wind_at [.lst (ws.map wnD), .int h, .int l] = .ok (pqD (windF ws h l)) := by
  obtain ⟨h1, _⟩ := forGo_fold (gd := gdTup 4 (gdCons (gdName 5) (gdCons (gdName 6) (gdCons (gdName 7) (gdCons (gdName 8) gdNil))))) (body := M_wind_at_l1) (ks := [5, 6, 7, 8]) (enc := wnD)
    (fun b => [some (.lst (ws.map wnD)), some (.int h), some (.int l), some (pqD b.1), some (.int b.2), none, none, none, none]) (wStep h l) (fun _ _ => True) ws ((0, 0), -1) trivial fun pre w post b _ _ => by
      refine ⟨_, by simp [wnD]; rfl, ?_⟩
      by_cases c : w.2.1 = l ∧ w.1 ≤ h ∧ b.2 ≤ w.1
      · exact ⟨_, .inl (by simp [M_wind_at_l1, c]; rfl), by simp [wStep, c, pqD], trivial⟩
      · refine ⟨_, .inl (by simp [M_wind_at_l1, c]; rfl), by simp [wStep, c, pqD], trivial⟩
  rw [runF_eq]
  simp [pqD] at h1
  simp [M_wind_at, dFor, h1, pqD, windF]
/-- what is found: the last of the greatest first hours -/
def WindS (h l : Int) (ws : List Wn) (s : (Int × Int) × Int) : Prop := (s = ((0, 0), -1) ∧ ∀ w ∈ ws, ¬ cand h l w) ∨ ∃ k w, ws[k]? = some w ∧ cand h l w ∧ s = (w.2.2, w.1) ∧ ∀ (j : Nat) w', ws[j]? = some w' → cand h l w' → w'.1 < w.1 ∨ (w'.1 = w.1 ∧ j ≤ k)
theorem get_snoc {α : Type} {l : List α} {x y : α} {j : Nat} (h : (l ++ [x])[j]? = some y) : l[j]? = some y ∨ (j = l.length ∧ y = x) := by
  by_cases hj : j < l.length
  · rw [List.getElem?_append_left hj] at h
    exact .inl h
  · obtain ⟨h1, h2⟩ := List.getElem?_eq_some_iff.mp h
    have hl : j = l.length := by simp at h1; omega
    subst hl
    simp at h
    exact .inr ⟨rfl, h.symm⟩
theorem windS_ok (h l : Int) (ws : List Wn) (h0 : ∀ w ∈ ws, 0 ≤ w.1) : WindS h l ws (ws.foldl (wStep h l) ((0, 0), -1)) := by
  refine foldl_pre (fun pre s => (∀ w ∈ pre, 0 ≤ w.1) → WindS h l pre s) (fun _ => .inl ⟨rfl, by simp⟩) (fun pre x s ih h0 => ?_) ws h0
  have hx : 0 ≤ x.1 := h0 x (by simp)
  have ih := ih fun w hw => h0 w (by simp [hw])
  unfold wStep
  by_cases c : cand h l x
  · rcases ih with ⟨rfl, hn⟩ | ⟨k, w, hk, cw, rfl, hm⟩
    · rw [if_pos ⟨c.1, c.2, by omega⟩]
      refine .inr ⟨pre.length, x, by simp, c, rfl, fun j w' hj cw' => ?_⟩
      rcases get_snoc hj with hj | ⟨rfl, rfl⟩
      · exact absurd cw' (hn w' (List.mem_of_getElem? hj))
      · exact .inr ⟨rfl, Nat.le_refl _⟩
    · by_cases hle : w.1 ≤ x.1
      · rw [if_pos ⟨c.1, c.2, hle⟩]
        refine .inr ⟨pre.length, x, by simp, c, rfl, fun j w' hj cw' => ?_⟩
        rcases get_snoc hj with hj | ⟨rfl, rfl⟩
        · have h1 := hm j w' hj cw'
          have h2 := (List.getElem?_eq_some_iff.mp hj).1
          omega
        · exact .inr ⟨rfl, Nat.le_refl _⟩
      · rw [if_neg (by rintro ⟨_, _, h3⟩; exact hle h3)]
        refine .inr ⟨k, w, ?_, cw, rfl, fun j w' hj cw' => ?_⟩
        · rw [List.getElem?_append_left (List.getElem?_eq_some_iff.mp hk).1]; exact hk
        rcases get_snoc hj with hj | ⟨rfl, rfl⟩
        · exact hm j w' hj cw'
        · exact .inl (by omega)
  · rw [if_neg (by rintro ⟨h1, h2, _⟩; exact c ⟨h1, h2⟩)]
    rcases ih with ⟨rfl, hn⟩ | ⟨k, w, hk, cw, rfl, hm⟩
    · refine .inl ⟨rfl, fun w hw => ?_⟩
      rcases List.mem_append.mp hw with hw | hw
      · exact hn w hw
      · rw [List.mem_singleton.mp hw]; exact c
    · refine .inr ⟨k, w, ?_, cw, rfl, fun j w' hj cw' => ?_⟩
      · rw [List.getElem?_append_left (List.getElem?_eq_some_iff.mp hk).1]; exact hk
      rcases get_snoc hj with hj | ⟨rfl, rfl⟩
      · exact hm j w' hj cw'
      · exact absurd cw' c
theorem law_wind_ok (ws : List Wn) (h l : Int) (h0 : ∀ w ∈ ws, 0 ≤ w.1) (hz : ws.length ≤ 1000) : runF 5 M_law_wind [.lst (ws.map wnD), .int h, .int l] = .ok (pqD (windF ws h l)) := by
  have W := windS_ok h l ws h0
  let p : Nat → Bool := fun k => match ws[k]? with | some w => decide (cand h l w) | none => false
  let q : Nat → Int × Int := fun k => ((match ws[k]? with | some w => w.1 | none => 0), (k : Int))
  have comp : ∀ e1, dComp (dRange1 (dCallO gLen (dCons (dVar 0) dNil))) (gdName 4) (dAnd (dBin gEq (dBin gIx (dBin gIx (dVar 0) (dVar 4)) (dC (.int (1)))) (dVar 2)) (dBin (gCmpI fun i j => decide (i ≤ j)) (dBin gIx (dBin gIx (dVar 0) (dVar 4)) (dC (.int (0)))) (dVar 1))) (dTup (dCons (dBin gIx (dBin gIx (dVar 0) (dVar 4)) (dC (.int (0)))) (dCons (dVar 4) dNil))) [4]
      [some (.lst (ws.map wnD)), some (.int h), some (.int l), e1, none] = .ok (.lst ((((List.range ws.length).filter p).map q).map pqD)) := by
    intro e1
    rw [dComp_filter (h := fun k => pqD (q k)) (enc := fun (i : Nat) => D.int (i : Int)) p (List.range ws.length) (by simp; rw [rng_nat (by omega)]) (by simp; omega), List.map_map]
    · rfl
    · intro k hk
      have hk := List.mem_range.mp hk
      have ek : ws[k]? = some ws[k] := List.getElem?_eq_getElem hk
      have ea : atI (ws.map wnD) (k : Int) = some (wnD ws[k]) := by rw [atI_natL, List.getElem?_map, ek]; rfl
      refine ⟨_, rfl, ?_, fun _ => ?_⟩
      · simp [ea, p, ek]
        simp [wnD, cand]
        rw [Bool.eq_iff_iff]
        simp only [Bool.and_eq_true, decide_eq_true_eq]
        exact ⟨fun h => decide_eq_true h, of_decide_eq_true⟩
      · simp [ea, q, ek, pqD]
        simp [wnD]
  rw [runF_eq]
  by_cases hn : ((List.range ws.length).filter p).map q = []
  · have hw : windF ws h l = (0, 0) := by
      rcases W with ⟨e, _⟩ | ⟨k, w, hk, cw, _, _⟩
      · unfold windF; rw [e]
      · exfalso
        have : k ∈ (List.range ws.length).filter p := List.mem_filter.mpr ⟨List.mem_range.mpr (List.getElem?_eq_some_iff.mp hk).1, by simp [p, hk, cw]⟩
        rw [List.map_eq_nil_iff.mp hn] at this
        cases this
    rw [hn] at comp
    simp [M_law_wind, comp, hw, pqD]
  · obtain ⟨m, hm, em, hx⟩ := gMaxA_pr hn
    obtain ⟨k, hk, rfl⟩ := List.mem_map.mp hm
    obtain ⟨hk1, hk2⟩ := List.mem_filter.mp hk
    have hk1 := List.mem_range.mp hk1
    have ek : ws[k]? = some ws[k] := List.getElem?_eq_getElem hk1
    have ck : cand h l ws[k] := by simpa [p, ek] using hk2
    have ea : atI (ws.map wnD) (k : Int) = some (wnD ws[k]) := by rw [atI_natL, List.getElem?_map, ek]; rfl
    have hw : windF ws h l = (ws[k]).2.2 := by
      rcases W with ⟨_, hno⟩ | ⟨k', w, hk', cw, es, hmx⟩
      · exact absurd ck (hno _ (List.getElem_mem hk1))
      · have h1 := hmx k _ ek ck
        have h2 := hx (q k') (List.mem_map.mpr ⟨k', List.mem_filter.mpr ⟨List.mem_range.mpr (List.getElem?_eq_some_iff.mp hk').1, by simp [p, hk', cw]⟩, rfl⟩)
        simp only [lexP, q, hk', ek] at h2
        have : k = k' := by omega
        subst this
        rw [ek] at hk'
        cases hk'
        unfold windF
        rw [es]
    have hne := hn
    simp at hne
    have hne' : ¬ ∀ a : Nat, a < ws.length → p a = false := fun h => by obtain ⟨x, h1, h2⟩ := hne; rw [h x h1] at h2; cases h2
    simp [M_law_wind, comp, hne', em, -List.map_map]
    simp [pqD, q, ea, hw]
    simp [wnD]
end Lw
/-! Sp5: a sky that is drawn. -/
namespace Dl
open PySem PySem.Spec PyProof.Rows L2
theorem toPys_any {ys : List D} {f : PyData → Bool} : (toPys ys).any f = ys.any fun y => f (toPy y) := by
  rw [toPys_map, List.any_map]
  rfl
theorem gIn_E {x : D} {ys : List D} (n m : Nat) (hx : okE n x = true) (hy : okE m (.lst ys) = true) (hn : n ≤ 64) (hm : m ≤ 64) : gIn x (.lst ys) = some (.bl (dec (x ∈ ys))) := by
  cases m with
  | zero => cases hy
  | succ m =>
    show (if eqOk x && eqOk (.lst ys) then some (D.bl ((toPys ys).any fun z => PyData.eqv z (toPy x))) else none) = _
    rw [okE_eqOk hx hn, okE_eqOk hy hm, toPys_any]
    show some (D.bl _) = _
    congr 2
    have hy : ys.all (okE m) = true := hy
    rw [List.all_eq_true] at hy
    rw [Bool.eq_iff_iff, List.any_eq_true, dec_iff]
    constructor
    · rintro ⟨y, h1, h2⟩
      rw [← (okE_eqv m n y x (hy y h1) hx).mp h2]
      exact h1
    · intro h
      exact ⟨x, h, (okE_eqv m n x x (hy x h) hx).mpr rfl⟩
theorem gNotIn_of {x y : D} {b : Bool} (h : gIn x y = some (.bl b)) : gNotIn x y = some (.bl (!b)) := by
  unfold gNotIn
  rw [h]
@[simp] theorem gIn_ints {x : Int} {cs : List Int} : gIn (.int x) (.lst (cs.map D.int)) = some (.bl (decide (x ∈ cs))) := by
  rw [gIn_E 0 1 rfl (by
    show (cs.map D.int).all (okE 0) = true
    rw [List.all_eq_true]
    rintro _ h
    obtain ⟨p, _, rfl⟩ := List.mem_map.mp h
    rfl) (by decide) (by decide), ← dec_dec]
  congr 3
  simp
@[simp] theorem gNotIn_ints {x : Int} {cs : List Int} : gNotIn (.int x) (.lst (cs.map D.int)) = some (.bl (!decide (x ∈ cs))) := gNotIn_of gIn_ints
end Dl
namespace Lw
open PySem PySem.Spec PyProof.Rows L2 Dl
/-- a shut box: six of the box, first, last -/
structure Sh where
  (a b c e f g h i : Int)
def shD (s : Sh) : D := .tup [.int s.a, .int s.b, .int s.c, .int s.e, .int s.f, .int s.g, .int s.h, .int s.i]
structure Sky where
  hills : List Sp
  cools : List Int
  winds : List Wn
  shuts : List Sh
def skyD (s : Sky) : D := .tup [.lst (s.hills.map spD), .lst (s.cools.map D.int), .lst (s.winds.map wnD), .lst (s.shuts.map shD)]
structure SkyOk (x y : Int) (s : Sky) : Prop where
  hl : s.hills.length ≤ 5
  hk : ∀ p ∈ s.hills, (x - 4 ≤ p.1 ∧ p.1 ≤ x + 4) ∧ (y - 4 ≤ p.2.1 ∧ p.2.1 ≤ y + 4) ∧ 1 ≤ p.2.2 ∧ p.2.2 ≤ 5
  cl : s.cools.length ≤ 4
  ck : ∀ c ∈ s.cools, 0 ≤ c ∧ c ≤ 23
  cn : s.cools.Nodup
  wl : s.winds.length ≤ 19
  wk : ∀ w ∈ s.winds, (0 ≤ w.1 ∧ w.1 ≤ 23) ∧ (0 ≤ w.2.1 ∧ w.2.1 ≤ 5) ∧ (-2 ≤ w.2.2.1 ∧ w.2.2.1 ≤ 2) ∧ -2 ≤ w.2.2.2 ∧ w.2.2.2 ≤ 2
  sl : s.shuts.length ≤ 3
  sk : ∀ t ∈ s.shuts, t.a ≤ t.c ∧ t.b ≤ t.e ∧ (0 ≤ t.f ∧ t.f ≤ t.g ∧ t.g ≤ 5) ∧ 0 ≤ t.h ∧ t.h ≤ t.i ∧ t.i ≤ 24
def enS (d : List Int) (x y h : Int) (a b c e : Option D) : DEnv := [some (.lst (d.map D.int)), some (.tup [.int x, .int y]), some (.int h), a, none, b, none, c, none, none, e, none, none]
section
variable {d : List Int} {n : Nat} (hd : Dr n d) (hn : 120 ≤ n) {x y h : Int}
include hd hn
theorem sky_hills (c0 : DF') (m : Nat) (hm : m ≤ 5) : ∃ ps : List Sp, forGo (gdName 4) (M_law_sky_l4 c0) [4] ((List.range m).map fun (i : Nat) => D.int (i : Int)) (enS d x y h (some (.lst [])) none none none) = .nx (enS d x y h (some (.lst (ps.map spD))) none none none)
    ∧ ps.length ≤ 5 ∧ ∀ p ∈ ps, (x - 4 ≤ p.1 ∧ p.1 ≤ x + 4) ∧ (y - 4 ≤ p.2.1 ∧ p.2.1 ≤ y + 4) ∧ 1 ≤ p.2.2 ∧ p.2.2 ≤ 5 := by
  obtain ⟨env', h1, ps, rfl, h2, h3⟩ := forGo_inv (gd := gdName 4) (body := M_law_sky_l4 c0) (ks := [4]) (enc := fun (i : Nat) => D.int (i : Int))
    (fun pre env => ∃ ps : List Sp, env = enS d x y h (some (.lst (ps.map spD))) none none none ∧ ps.length ≤ pre.length ∧ ∀ p ∈ ps, (x - 4 ≤ p.1 ∧ p.1 ≤ x + 4) ∧ (y - 4 ≤ p.2.1 ∧ p.2.1 ≤ y + 4) ∧ 1 ≤ p.2.2 ∧ p.2.2 ≤ 5) (List.range m)
    (env := enS d x y h (some (.lst [])) none none none) ⟨[], rfl, by simp, by simp⟩ fun pre k post env hi ⟨ps, ev, h2, h3⟩ => by
      subst ev
      obtain ⟨rfl, hk⟩ := pre_range hi
      obtain ⟨u, u0, u1, eu⟩ := dr_get hd (i := 3 * (pre.length : Int) + 1) (by omega) (by omega)
      obtain ⟨v, v0, v1, evv⟩ := dr_get hd (i := 3 * (pre.length : Int) + 2) (by omega) (by omega)
      obtain ⟨w, w0, w1, ew⟩ := dr_get hd (i := 3 * (pre.length : Int) + 3) (by omega) (by omega)
      have hz : ps.length < sizeLine := lt_size (by omega)
      refine ⟨_, rfl, _, .inl (by simp [M_law_sky_l4, enS, eu, evv, ew, hz]; rfl), ps ++ [(x + u % 9 - 4, y + v % 9 - 4, 1 + w % 5)], by simp [enS, spD], by simp; omega, fun p hp => ?_⟩
      rcases List.mem_append.mp hp with hp | hp
      · exact h3 p hp
      · rw [List.mem_singleton.mp hp]
        refine ⟨⟨?_, ?_⟩, ⟨?_, ?_⟩, ?_, ?_⟩ <;> simp only <;> omega
  exact ⟨ps, h1, by simp at h2; omega, h3⟩
theorem sky_cools (c0 : DF') (m : Nat) (hm : m ≤ 4) (h0 : 0 ≤ h) (a : Option D) {z : Int} (ez : atI (d.map D.int) 0 = some (.int z)) (z0 : 0 ≤ z) : ∃ cs : List Int, forGo (gdName 4) (M_law_sky_l3 c0) [4, 6] ((List.range m).map fun (i : Nat) => D.int (i : Int)) (enS d x y h a (some (.lst [])) none none) = .nx (enS d x y h a (some (.lst (cs.map D.int))) none none)
    ∧ cs.length ≤ 4 ∧ (∀ c ∈ cs, 0 ≤ c ∧ c ≤ 23) ∧ cs.Nodup := by
  obtain ⟨env', h1, cs, rfl, h2, h3, h4⟩ := forGo_inv (gd := gdName 4) (body := M_law_sky_l3 c0) (ks := [4, 6]) (enc := fun (i : Nat) => D.int (i : Int))
    (fun pre env => ∃ cs : List Int, env = enS d x y h a (some (.lst (cs.map D.int))) none none ∧ cs.length ≤ pre.length ∧ (∀ c ∈ cs, 0 ≤ c ∧ c ≤ 23) ∧ cs.Nodup) (List.range m)
    (env := enS d x y h a (some (.lst [])) none none) ⟨[], rfl, by simp, by simp, by simp⟩ fun pre k post env hi ⟨cs, ev, h2, h3, h4⟩ => by
      subst ev
      obtain ⟨rfl, hk⟩ := pre_range hi
      obtain ⟨u, u0, u1, eu⟩ := dr_get hd (i := 16 + (pre.length : Int)) (by omega) (by omega)
      have hz : cs.length < sizeLine := lt_size (by omega)
      obtain ⟨w, hw, ew⟩ := atI_ints [u % 24, (h + u % 4) % 24] (i := z / 30 % 2) (by omega) (by simp; omega)
      have hw' : 0 ≤ w ∧ w ≤ 23 := by
        simp at hw
        rcases hw with rfl | rfl <;> omega
      simp only [atI_lit, atI_zero] at ez
      simp at ew
      refine ⟨_, rfl, ?_⟩
      by_cases c : w ∈ cs
      · exact ⟨_, .inl (by simp [M_law_sky_l3, enS, eu, ez, ew, c, -List.getElem?_map]; rfl), cs, by simp [enS], by simp; omega, h3, h4⟩
      · refine ⟨_, .inl (by simp [M_law_sky_l3, enS, eu, ez, ew, c, hz, -List.getElem?_map]; rfl), cs ++ [w], by simp [enS], by simp; omega, fun c' hc => ?_, ?_⟩
        · rcases List.mem_append.mp hc with hc | hc
          · exact h3 c' hc
          · rw [List.mem_singleton.mp hc]; exact hw'
        · exact List.nodup_append.mpr ⟨h4, by simp, fun a ha b hb => by rw [List.mem_singleton.mp hb]; rintro rfl; exact c ha⟩
  exact ⟨cs, h1, by simp at h2; omega, h3, h4⟩
def WnK (w : Wn) : Prop := (0 ≤ w.1 ∧ w.1 ≤ 23) ∧ (0 ≤ w.2.1 ∧ w.2.1 ≤ 5) ∧ (-2 ≤ w.2.2.1 ∧ w.2.2.1 ≤ 2) ∧ -2 ≤ w.2.2.2 ∧ w.2.2.2 ≤ 2
theorem sky_still (a b : Option D) : ∃ ws : List Wn, ws.length = 6 ∧ (∀ w ∈ ws, WnK w) ∧ dComp (dRange1 (dC (.int (6)))) (gdName 12) (dC (.bl true)) (dImm (dTup (dCons (dC (.int (0))) (dCons (dVar 12) (dCons (dBin gSubI (dBin gModI (dBin gIx (dVar 0) (dBin gAdd (dC (.int (78))) (dBin gMulI (dC (.int (2))) (dVar 12)))) (dC (.int (5)))) (dC (.int (2)))) (dCons (dBin gSubI (dBin gModI (dBin gIx (dVar 0) (dBin gAdd (dC (.int (79))) (dBin gMulI (dC (.int (2))) (dVar 12)))) (dC (.int (5)))) (dC (.int (2)))) dNil)))))) [12]
    (enS d x y h a b (some (.lst [])) none) = .ok (.lst (ws.map wnD)) := by
  let g : Int → Int := fun i => match atI (d.map D.int) i with | some (.int v) => v | _ => 0
  let w : Nat → Wn := fun k => (0, (k : Int), g (78 + 2 * k) % 5 - 2, g (79 + 2 * k) % 5 - 2)
  refine ⟨(List.range 6).map w, by simp, ?_, ?_⟩
  · rintro _ hw
    obtain ⟨k, hk, rfl⟩ := List.mem_map.mp hw
    have hk := List.mem_range.mp hk
    refine ⟨⟨?_, ?_⟩, ⟨?_, ?_⟩, ⟨?_, ?_⟩, ?_, ?_⟩ <;> simp only [w] <;> omega
  · rw [dComp_map (h := fun k => wnD (w k)) (enc := fun (i : Nat) => D.int (i : Int)) (List.range 6) (by simp [rng_ok]) (by simp), List.map_map]
    · rfl
    · intro k hk
      have hk := List.mem_range.mp hk
      obtain ⟨u, u0, u1, eu⟩ := dr_get hd (i := 78 + 2 * (k : Int)) (by omega) (by omega)
      obtain ⟨v, v0, v1, ev⟩ := dr_get hd (i := 79 + 2 * (k : Int)) (by omega) (by omega)
      refine ⟨_, rfl, rfl, ?_⟩
      simp [enS, eu, ev, w, wnD, g]
theorem sky_winds (c0 : DF') (m : Nat) (hm : m ≤ 13) (h0 : 0 ≤ h) (a b : Option D) (ws0 : List Wn) (hl : ws0.length ≤ 6) (hk : ∀ w ∈ ws0, WnK w) : ∃ ws : List Wn, forGo (gdName 4) (M_law_sky_l2 c0) [4, 8, 9] ((List.range m).map fun (i : Nat) => D.int (i : Int)) (enS d x y h a b (some (.lst (ws0.map wnD))) none) = .nx (enS d x y h a b (some (.lst (ws.map wnD))) none)
    ∧ ws.length ≤ 19 ∧ ∀ w ∈ ws, WnK w := by
  obtain ⟨env', h1, ws, rfl, h2, h3⟩ := forGo_inv (gd := gdName 4) (body := M_law_sky_l2 c0) (ks := [4, 8, 9]) (enc := fun (i : Nat) => D.int (i : Int))
    (fun pre env => ∃ ws : List Wn, env = enS d x y h a b (some (.lst (ws.map wnD))) none ∧ ws.length ≤ 6 + pre.length ∧ ∀ w ∈ ws, WnK w) (List.range m)
    (env := enS d x y h a b (some (.lst (ws0.map wnD))) none) ⟨ws0, rfl, by simpa using hl, hk⟩ fun pre k post env hi ⟨ws, ev, h2, h3⟩ => by
      subst ev
      obtain ⟨rfl, hk⟩ := pre_range hi
      obtain ⟨d', hd', ed⟩ := dr_cutI hd (i := 22 + 4 * (pre.length : Int)) (j := 26 + 4 * (pre.length : Int)) (22 + 4 * pre.length) (26 + 4 * pre.length) (by omega) (by omega) (by omega) (by omega)
      rw [show 26 + 4 * pre.length - (22 + 4 * pre.length) = 4 by omega] at hd'
      obtain ⟨d0, d1, d2, d3, rfl, _, _, _, _⟩ := dr4 hd'
      have hz : ws.length < sizeLine := lt_size (by omega)
      obtain ⟨w, hw, ew⟩ := atI_ints [d0 % 24, (h + d0 / 7 % 6) % 24] (i := d1 / 6 % 2) (by omega) (by simp; omega)
      have hw' : 0 ≤ w ∧ w ≤ 23 := by
        simp at hw
        rcases hw with rfl | rfl <;> omega
      simp at ew
      refine ⟨_, rfl, _, .inl (by simp [M_law_sky_l2, enS, ed, ew, hz]; rfl), ws ++ [(w, d1 % 6, d2 % 5 - 2, d3 % 5 - 2)], by simp [enS, wnD], by simp; omega, fun w' hw2 => ?_⟩
      rcases List.mem_append.mp hw2 with hw2 | hw2
      · exact h3 w' hw2
      · rw [List.mem_singleton.mp hw2]
        refine ⟨hw', ⟨?_, ?_⟩, ⟨?_, ?_⟩, ?_, ?_⟩ <;> simp only <;> omega
  exact ⟨ws, h1, by simp at h2; omega, h3⟩
def ShK (t : Sh) : Prop := t.a ≤ t.c ∧ t.b ≤ t.e ∧ (0 ≤ t.f ∧ t.f ≤ t.g ∧ t.g ≤ 5) ∧ 0 ≤ t.h ∧ t.h ≤ t.i ∧ t.i ≤ 24
theorem sky_shuts (c0 : DF') (hc : ∀ (d0 d1 d2 d3 d4 d5 : Int) (r : List Int), c0 [.lst ((d0 :: d1 :: d2 :: d3 :: d4 :: d5 :: r).map D.int), .tup [.int x, .int y]] = .ok (boxN x y d0 d1 d2 d3 d4 d5)) (m : Nat) (hm : m ≤ 3) (h0 : 0 ≤ h) (h24 : h ≤ 24) (a b c : Option D) : ∃ ss : List Sh, forGo (gdName 4) (M_law_sky_l1 c0) [4, 11, 9] ((List.range m).map fun (i : Nat) => D.int (i : Int)) (enS d x y h a b c (some (.lst []))) = .nx (enS d x y h a b c (some (.lst (ss.map shD))))
    ∧ ss.length ≤ 3 ∧ ∀ s ∈ ss, ShK s := by
  obtain ⟨env', h1, ss, rfl, h2, h3⟩ := forGo_inv (gd := gdName 4) (body := M_law_sky_l1 c0) (ks := [4, 11, 9]) (enc := fun (i : Nat) => D.int (i : Int))
    (fun pre env => ∃ ss : List Sh, env = enS d x y h a b c (some (.lst (ss.map shD))) ∧ ss.length ≤ pre.length ∧ ∀ s ∈ ss, ShK s) (List.range m)
    (env := enS d x y h a b c (some (.lst []))) ⟨[], rfl, by simp, by simp⟩ fun pre k post env hi ⟨ss, ev, h2, h3⟩ => by
      subst ev
      obtain ⟨rfl, hk⟩ := pre_range hi
      obtain ⟨d', hd', ed⟩ := dr_cutI hd (i := 91 + 8 * (pre.length : Int)) (j := 99 + 8 * (pre.length : Int)) (91 + 8 * pre.length) (99 + 8 * pre.length) (by omega) (by omega) (by omega) (by omega)
      rw [show 99 + 8 * pre.length - (91 + 8 * pre.length) = 8 by omega] at hd'
      obtain ⟨d0, d1, d2, d3, d4, d5, d6, d7, rfl, _, _, _, _, _, _, _, _⟩ := dr8 hd'
      have hz : ss.length < sizeLine := lt_size (by omega)
      obtain ⟨w, hw, ew⟩ := atI_ints [d6 % 25, h] (i := d7 % 2) (by omega) (by simp; omega)
      have hw' : 0 ≤ w ∧ w ≤ 24 := by
        simp at hw
        rcases hw with rfl | rfl <;> omega
      have eb := hc d0 d1 d2 d3 d4 d5 [d6, d7]
      have m25 : gModI (.int (d7 / 2)) (.int (25 - w)) = some (.int (d7 / 2 % (25 - w))) := gModI_pos (by omega)
      have p1 : 0 ≤ d7 / 2 % (25 - w) := Int.emod_nonneg _ (by omega)
      have p2 : d7 / 2 % (25 - w) < 25 - w := Int.emod_lt_of_pos _ (by omega)
      have p3 : 0 ≤ d5 % (6 - d4 % 6) := Int.emod_nonneg _ (by omega)
      have p4 : d5 % (6 - d4 % 6) < 6 - d4 % 6 := Int.emod_lt_of_pos _ (by omega)
      simp at ew eb
      refine ⟨_, rfl, _, .inl (by simp [M_law_sky_l1, enS, ed, ew, hz, eb, m25, boxN, box6]; rfl), ss ++ [⟨x + d0 % 9 - 4, y + d1 % 9 - 4, x + d0 % 9 - 4 + d2 % 4, y + d1 % 9 - 4 + d3 % 4, d4 % 6, d4 % 6 + d5 % (6 - d4 % 6), w, w + d7 / 2 % (25 - w)⟩], by simp [enS, shD], by simp; omega, fun t ht => ?_⟩
      rcases List.mem_append.mp ht with ht | ht
      · exact h3 t ht
      · rw [List.mem_singleton.mp ht]
        refine ⟨?_, ?_, ⟨?_, ?_, ?_⟩, ?_, ?_, ?_⟩ <;> simp only <;> omega
  exact ⟨ss, h1, by simp at h2; omega, h3⟩
/-- a sky that is drawn -/
theorem sky_ok (c0 : DF') (hc : ∀ (d0 d1 d2 d3 d4 d5 : Int) (r : List Int), c0 [.lst ((d0 :: d1 :: d2 :: d3 :: d4 :: d5 :: r).map D.int), .tup [.int x, .int y]] = .ok (boxN x y d0 d1 d2 d3 d4 d5)) (h0 : 0 ≤ h) (h24 : h ≤ 24) :
    ∃ s : Sky, SkyOk x y s ∧ runF 13 (M_law_sky c0) [.lst (d.map D.int), .tup [.int x, .int y], .int h] = .ok (skyD s) := by
  obtain ⟨z, z0, z1, ez⟩ := dr_get hd (i := 0) (by omega) (by omega)
  obtain ⟨z21, z210, z211, ez21⟩ := dr_get hd (i := 21) (by omega) (by omega)
  obtain ⟨z90, z900, z901, ez90⟩ := dr_get hd (i := 90) (by omega) (by omega)
  obtain ⟨ps, e1, p1, p2⟩ := sky_hills hd hn (x := x) (y := y) (h := h) c0 (z % 6).toNat (by omega)
  obtain ⟨cs, e2, q1, q2, q3⟩ := sky_cools hd hn (x := x) (y := y) (h := h) c0 (z / 6 % 5).toNat (by omega) h0 (some (.lst (ps.map spD))) ez z0
  have rg : ∀ v k : Int, 0 < k → k ≤ 1000 → rng (v % k) = .ok ((List.range (v % k).toNat).map fun (i : Nat) => D.int (i : Int)) := fun v k hk hk2 => by
    have := Int.emod_lt_of_pos v hk
    have := Int.emod_nonneg v (b := k) (by omega)
    exact rng_ok (by omega) (by omega)
  have rg6 := rg z 6 (by omega) (by omega)
  have rg5 := rg (z / 6) 5 (by omega) (by omega)
  have rg14 := rg (z21 / 4) 14 (by omega) (by omega)
  have rg4 := rg z90 4 (by omega) (by omega)
  obtain ⟨wsS, w1, w2, w3⟩ := sky_still hd hn (x := x) (y := y) (h := h) (some (.lst (ps.map spD))) (some (.lst (cs.map D.int)))
  simp only [atI_lit, atI_zero] at ez ez21 ez90
  by_cases c : 0 < z21 % 4
  · obtain ⟨ws, e3, r1, r2⟩ := sky_winds hd hn (x := x) (y := y) (h := h) c0 (z21 / 4 % 14).toNat (by omega) h0 (some (.lst (ps.map spD))) (some (.lst (cs.map D.int))) wsS (by omega) w2
    obtain ⟨ss, e4, s1, s2⟩ := sky_shuts hd hn c0 hc (z90 % 4).toNat (by omega) h0 h24 (some (.lst (ps.map spD))) (some (.lst (cs.map D.int))) (some (.lst (ws.map wnD)))
    refine ⟨⟨ps, cs, ws, ss⟩, ⟨p1, p2, q1, q2, q3, r1, r2, s1, s2⟩, ?_⟩
    rw [runF_eq]
    simp only [enS] at e1 e2 w3 e3 e4
    simp [M_law_sky, dFor, ez, ez21, ez90, rg6, rg5, rg14, rg4, e1, e2, c, w3, e3, e4, skyD, -List.getElem?_map]
  · obtain ⟨ws, e3, r1, r2⟩ := sky_winds hd hn (x := x) (y := y) (h := h) c0 (z21 / 4 % 14).toNat (by omega) h0 (some (.lst (ps.map spD))) (some (.lst (cs.map D.int))) [] (by simp) (by simp)
    obtain ⟨ss, e4, s1, s2⟩ := sky_shuts hd hn c0 hc (z90 % 4).toNat (by omega) h0 h24 (some (.lst (ps.map spD))) (some (.lst (cs.map D.int))) (some (.lst (ws.map wnD)))
    refine ⟨⟨ps, cs, ws, ss⟩, ⟨p1, p2, q1, q2, q3, r1, r2, s1, s2⟩, ?_⟩
    rw [runF_eq]
    simp only [enS] at e1 e2 w3 e3 e4
    simp only [List.map_nil] at e3
    simp [M_law_sky, dFor, ez, ez21, ez90, rg6, rg5, rg14, rg4, e1, e2, c, e3, e4, skyD, -List.getElem?_map]
end
end Lw
/-! Sp6: spells of one wind. -/
namespace Dl
open PySem PySem.Spec PyProof.Rows L2
end Dl
/-! Sp7: ground, shut air, where a state may stand. -/
namespace Dl
open PySem PySem.Spec PyProof.Rows L2
theorem imms_map {α : Type} {f : α → D} {xs : List α} (h : ∀ x ∈ xs, imm (f x) = true) : imms (xs.map f) = true := by
  induction xs with
  | nil => rfl
  | cons x xs ih =>
    rw [List.map_cons, imms_cons, h x (by simp), ih fun y hy => h y (by simp [hy])]
    rfl
theorem noDics_map {α : Type} {f : α → D} {xs : List α} (h : ∀ x ∈ xs, noDic (f x) = true) : noDics (xs.map f) = true :=
  noDics_all fun d hd => by obtain ⟨x, hx, rfl⟩ := List.mem_map.mp hd; exact h x hx
theorem gIn_bls {bs : List Bool} : gIn (.bl true) (.lst (bs.map D.bl)) = some (.bl (bs.any id)) := by
  have e1 : eqOk (.bl true) = true := rfl
  have e2 : eqOk (.lst (bs.map D.bl)) = true := by
    have h1 : noDic (.lst (bs.map D.bl)) = true := noDics_map fun _ _ => rfl
    have h2 : (toPy (.lst (bs.map D.bl))).canLay0 = true := canLays_all fun d hd => by obtain ⟨x, hx, rfl⟩ := List.mem_map.mp hd; rfl
    have h3 : (toPy (.lst (bs.map D.bl))).depth ≤ 1 := by
      show PyData.depthAll (toPys (bs.map D.bl)) + 1 ≤ 1
      have : PyData.depthAll (toPys (bs.map D.bl)) ≤ 0 := depths_all fun d hd => by obtain ⟨x, hx, rfl⟩ := List.mem_map.mp hd; exact Nat.zero_le _
      omega
    unfold eqOk SeqAt.shaped
    rw [h1, h2, decide_eq_true (by omega)]
    rfl
  show (if eqOk (.bl true) && eqOk (.lst (bs.map D.bl)) then some (D.bl ((toPys (bs.map D.bl)).any fun z => PyData.eqv z (toPy (.bl true)))) else none) = _
  rw [e1, e2, toPys_any, List.any_map]
  show some (D.bl _) = _
  congr 2
  apply congrArg (List.any bs)
  funext b
  cases b <;> rfl
theorem gMaxA_ints {n : Int} {ns : List Int} : gMaxA [.lst (D.int n :: ns.map D.int)] = some (.int (ns.foldl maxI n)) := by
  unfold gMaxA gMaxL
  have : intsOf (D.int n :: ns.map D.int) = some (n :: ns) := intsOf_map (n :: ns)
  simp only [this]
  rfl
end Dl
namespace Lw
open PySem PySem.Spec PyProof.Rows L2 Dl
/-! ### the ground -/
def gStep (x y : Int) (g : Int) (p : Sp) : Int := if p.1 = x ∧ p.2.1 = y then maxI g p.2.2 else g
def groundF (ps : List Sp) (x y : Int) : Int := ps.foldl (gStep x y) 0
theorem ground_at_ok (ps : List Sp) (x y : Int) : runF 7 M_ground_at [.lst (ps.map spD), .int x, .int y] = .ok (.int (groundF ps x y)) := by
  obtain ⟨h1, _⟩ := forGo_fold (gd := gdTup 3 (gdCons (gdName 4) (gdCons (gdName 5) (gdCons (gdName 6) gdNil)))) (body := M_ground_at_l1) (ks := [4, 5, 6]) (enc := spD)
    (fun g => [some (.lst (ps.map spD)), some (.int x), some (.int y), some (.int g), none, none, none]) (gStep x y) (fun _ _ => True) ps 0 trivial fun pre p post g _ _ => by
      refine ⟨_, by simp [spD]; rfl, ?_⟩
      by_cases c : p.1 = x ∧ p.2.1 = y
      · exact ⟨_, .inl (by simp [M_ground_at_l1, c]; rfl), by simp [gStep, c], trivial⟩
      · exact ⟨_, .inl (by simp [M_ground_at_l1, c]; rfl), by simp [gStep, c], trivial⟩
  rw [runF_eq]
  simp [M_ground_at, dFor, h1, groundF]
theorem fold_filter (x y : Int) : ∀ (ps : List Sp) (g : Int), (((ps.filter fun p => decide (p.1 = x) && decide (p.2.1 = y)).map (·.2.2)).foldl maxI g) = ps.foldl (gStep x y) g
  | [], g => rfl
  | p :: ps, g => by
    by_cases c : p.1 = x ∧ p.2.1 = y
    · rw [List.filter_cons_of_pos (by simp [c]), List.map_cons, List.foldl_cons, List.foldl_cons, fold_filter x y ps, gStep, if_pos c]
    · rw [List.filter_cons_of_neg (by simpa using c), List.foldl_cons, fold_filter x y ps, gStep, if_neg c]
theorem law_ground_ok (ps : List Sp) (x y : Int) (hz : ps.length ≤ 1000) : runF 6 M_law_ground [.lst (ps.map spD), .int x, .int y] = .ok (.int (groundF ps x y)) := by
  have c : dComp (dItems (dVar 0)) (gdTup 3 (gdCons (gdName 3) (gdCons (gdName 4) (gdCons (gdName 5) gdNil)))) (dAnd (dBin gEq (dVar 3) (dVar 1)) (dBin gEq (dVar 4) (dVar 2))) (dVar 5) [3, 4, 5] [some (.lst (ps.map spD)), some (.int x), some (.int y), none, none, none]
      = .ok (.lst (((ps.filter fun p => decide (p.1 = x) && decide (p.2.1 = y)).map (·.2.2)).map D.int)) := by
    rw [dComp_filter (h := fun p => D.int p.2.2) (enc := spD) (fun p => decide (p.1 = x) && decide (p.2.1 = y)) ps (by simp) (by omega), List.map_map]
    · rfl
    · intro p _
      exact ⟨_, by simp [spD]; rfl, by simp, fun _ => by simp⟩
  rw [runF_eq]
  have z : ((ps.filter fun p => decide (p.1 = x) && decide (p.2.1 = y)).map (·.2.2)).length ≤ 1000 := by
    rw [List.length_map]
    exact Nat.le_trans (List.length_filter_le _ _) hz
  generalize hL : (ps.filter fun p => decide (p.1 = x) && decide (p.2.1 = y)).map (·.2.2) = L at c z
  have z2 : 1 + L.length ≤ sizeLine := le_size (by omega)
  have e : L.foldl maxI 0 = groundF ps x y := by rw [← hL]; exact fold_filter x y ps 0
  simp [M_law_ground, c, z2, gMaxA_ints, e]
/-! ### shut air -/
def shutP (h x y z : Int) (t : Sh) : Prop := (t.h ≤ h ∧ h ≤ t.i) ∧ t.a ≤ x ∧ x ≤ t.c ∧ t.b ≤ y ∧ y ≤ t.e ∧ t.f ≤ z ∧ z ≤ t.g
instance (h x y z : Int) (t : Sh) : Decidable (shutP h x y z t) := inferInstanceAs (Decidable (_ ∧ _))
def shutF (ss : List Sh) (h x y z : Int) : Bool := ss.any fun t => decide (shutP h x y z t)
theorem shut_at_ok {c0 : DF'} (hc : ∀ a b c e f g x y z : Int, c0 [box6 a b c e f g, .int x, .int y, .int z] = .ok (.bl (decide (a ≤ x ∧ x ≤ c ∧ b ≤ y ∧ y ≤ e ∧ f ≤ z ∧ z ≤ g)))) (ss : List Sh) (h x y z : Int) :
    runF 13 (M_shut_at c0) [.lst (ss.map shD), .int h, .int x, .int y, .int z] = .ok (.bl (shutF ss h x y z)) := by
  have out := forGo_exit (gd := gdTup 8 (gdCons (gdName 5) (gdCons (gdName 6) (gdCons (gdName 7) (gdCons (gdName 8) (gdCons (gdName 9) (gdCons (gdName 10) (gdCons (gdName 11) (gdCons (gdName 12) gdNil))))))))) (body := M_shut_at_l1 c0) (ks := [5, 6, 7, 8, 9, 10, 11, 12]) (enc := shD)
    (fun pre env => env = [some (.lst (ss.map shD)), some (.int h), some (.int x), some (.int y), some (.int z), none, none, none, none, none, none, none, none] ∧ ∀ t ∈ pre, ¬ shutP h x y z t) (fun o => o = .rt (.bl true) ∧ ∃ t ∈ ss, shutP h x y z t) ss (env := [some (.lst (ss.map shD)), some (.int h), some (.int x), some (.int y), some (.int z), none, none, none, none, none, none, none, none]) ⟨rfl, by simp⟩ fun pre t post env hi ⟨ev, hn⟩ => by
      subst ev
      refine ⟨_, by simp [shD]; rfl, ?_⟩
      have hb := hc t.a t.b t.c t.e t.f t.g x y z
      simp only [box6] at hb
      by_cases c : shutP h x y z t
      · have c' := c
        obtain ⟨⟨c1, c2⟩, c3⟩ := c
        have c3' := decide_eq_true c3
        rw [c3'] at hb
        exact .inr (.inl ⟨.bl true, by simp [M_shut_at_l1, hb, c1, c2], rfl, t, pre_mem hi, c'⟩)
      · refine .inl ⟨[some (.lst (ss.map shD)), some (.int h), some (.int x), some (.int y), some (.int z), some (.int t.a), some (.int t.b), some (.int t.c), some (.int t.e), some (.int t.f), some (.int t.g), some (.int t.h), some (.int t.i)], .inl ?_, by simp, fun t' ht => ?_⟩
        · by_cases c1 : t.h ≤ h
          · by_cases c2 : h ≤ t.i
            · have c3 : ¬ (t.a ≤ x ∧ x ≤ t.c ∧ t.b ≤ y ∧ y ≤ t.e ∧ t.f ≤ z ∧ z ≤ t.g) := fun c3 => c ⟨⟨c1, c2⟩, c3⟩
              have c3' := decide_eq_false c3
              rw [c3'] at hb
              simp [M_shut_at_l1, hb, c1, c2]
            · simp [M_shut_at_l1, c1, c2]
          · simp [M_shut_at_l1, c1]
        · rcases List.mem_append.mp ht with ht | ht
          · exact hn t' ht
          · rw [List.mem_singleton.mp ht]; exact c
  rw [runF_eq]
  rcases out with ⟨h1, t, ht, hp⟩ | ⟨env', h1, rfl, hn⟩
  · have e : shutF ss h x y z = true := List.any_eq_true.mpr ⟨t, ht, decide_eq_true hp⟩
    simp [M_shut_at, dFor, h1, e]
  · have e : shutF ss h x y z = false := by
      unfold shutF
      rw [Bool.eq_false_iff]
      intro e
      obtain ⟨t, ht, hp⟩ := List.any_eq_true.mp e
      exact hn t ht (of_decide_eq_true hp)
    simp [M_shut_at, dFor, h1, e]
theorem law_shut_ok {c0 : DF'} (hc : ∀ a b c e f g x y z : Int, c0 [box6 a b c e f g, .int x, .int y, .int z] = .ok (.bl (decide (a ≤ x ∧ x ≤ c ∧ b ≤ y ∧ y ≤ e ∧ f ≤ z ∧ z ≤ g)))) (ss : List Sh) (h x y z : Int) (hz : ss.length ≤ 1000) :
    runF 6 (M_law_shut c0) [.lst (ss.map shD), .int h, .int x, .int y, .int z] = .ok (.bl (shutF ss h x y z)) := by
  have c : dComp (dItems (dVar 0)) (gdName 5) (dAnd (dBin (gCmpI fun i j => decide (i ≤ j)) (dBin gIx (dVar 5) (dC (.int (6)))) (dVar 1)) (dBin (gCmpI fun i j => decide (i ≤ j)) (dVar 1) (dBin gIx (dVar 5) (dC (.int (7)))))) (dCall c0 (dCons (dSl (dVar 5) dNo (dPart (dC (.int (6))))) (dCons (dVar 2) (dCons (dVar 3) (dCons (dVar 4) dNil))))) [5]
      [some (.lst (ss.map shD)), some (.int h), some (.int x), some (.int y), some (.int z), none] = .ok (.lst (((ss.filter fun t => decide (t.h ≤ h) && decide (h ≤ t.i)).map fun t => decide (t.a ≤ x ∧ x ≤ t.c ∧ t.b ≤ y ∧ y ≤ t.e ∧ t.f ≤ z ∧ z ≤ t.g)).map D.bl)) := by
    rw [dComp_filter (h := fun t => D.bl (decide (t.a ≤ x ∧ x ≤ t.c ∧ t.b ≤ y ∧ y ≤ t.e ∧ t.f ≤ z ∧ z ≤ t.g))) (enc := shD) (fun t => decide (t.h ≤ h) && decide (h ≤ t.i)) ss (by simp) (by omega), List.map_map]
    · rfl
    · intro t _
      have hb := hc t.a t.b t.c t.e t.f t.g x y z
      simp only [box6] at hb
      exact ⟨_, rfl, by simp [shD], fun _ => by simp [shD, hb]⟩
  have e : ((ss.filter fun t => decide (t.h ≤ h) && decide (h ≤ t.i)).map fun t => decide (t.a ≤ x ∧ x ≤ t.c ∧ t.b ≤ y ∧ y ≤ t.e ∧ t.f ≤ z ∧ z ≤ t.g)).any id = shutF ss h x y z := by
    rw [Bool.eq_iff_iff]
    unfold shutF
    simp only [List.any_eq_true, List.mem_map, List.mem_filter, Bool.and_eq_true, decide_eq_true_eq, id]
    constructor
    · rintro ⟨_, ⟨t, ⟨ht, h1⟩, rfl⟩, h2⟩
      exact ⟨t, ht, h1, of_decide_eq_true h2⟩
    · rintro ⟨t, ht, h1, h2⟩
      exact ⟨_, ⟨t, ⟨ht, h1⟩, rfl⟩, decide_eq_true h2⟩
  rw [runF_eq]
  simp only [M_law_shut, dSeq_eq, dRet_eq, dImm_eq, dBin_eq, dC_eq, bind_ok]
  simp [c, gIn_bls, ← e, -List.map_map]
/-! ### standing -/
def standF (s : Sky) (h x y z : Int) : Str := if z < groundF s.hills x y then "hill" else if shutF s.shuts h x y z = true then "shut" else ""
abbrev stD (x y z a b : Int) : D := .tup [.int x, .int y, .int z, .int a, .int b]
theorem standing_ok {c0 c1 : DF'} (s : Sky) (h0 : ∀ h x y z : Int, c0 [.lst (s.shuts.map shD), .int h, .int x, .int y, .int z] = .ok (.bl (shutF s.shuts h x y z))) (h1 : ∀ x y : Int, c1 [.lst (s.hills.map spD), .int x, .int y] = .ok (.int (groundF s.hills x y))) (h x y z a b : Int) :
    runF 7 (M_standing c0 c1) [skyD s, .int h, stD x y z a b] = .ok (.str (standF s h x y z)) := by
  rw [runF_eq]
  unfold standF
  by_cases c1 : z < groundF s.hills x y
  · simp [M_standing, skyD, h0, h1, c1]
  · by_cases c2 : shutF s.shuts h x y z = true
    · simp [M_standing, skyD, h0, h1, c1, c2]
    · simp [M_standing, skyD, h0, h1, c1, c2]
theorem law_stand_ok {c0 c1 : DF'} (s : Sky) (h0 : ∀ h x y z : Int, c0 [.lst (s.shuts.map shD), .int h, .int x, .int y, .int z] = .ok (.bl (shutF s.shuts h x y z))) (h1 : ∀ x y : Int, c1 [.lst (s.hills.map spD), .int x, .int y] = .ok (.int (groundF s.hills x y))) (h x y z a b : Int) :
    runF 3 (M_law_stand c0 c1) [skyD s, .int h, stD x y z a b] = .ok (.str (standF s h x y z)) := by
  rw [runF_eq]
  unfold standF
  by_cases c1 : z < groundF s.hills x y
  · simp [M_law_stand, skyD, h0, h1, c1]
  · by_cases c2 : shutF s.shuts h x y z = true
    · simp [M_law_stand, skyD, h0, h1, c1, c2]
    · simp [M_law_stand, skyD, h0, h1, c1, c2]
theorem standF_ok (s : Sky) (h x y z : Int) : okE 0 (.str (standF s h x y z)) = true := by
  unfold standF
  split
  · kernel_rfl
  · split <;> kernel_rfl
/-! ### where things stand at first -/
theorem base_ok {d : List Int} (h : Dr 3 d) : ∃ x y : Int, (-1000 < x ∧ x < 1000) ∧ (-1000 < y ∧ y < 1000) ∧ runF 1 M_law_base [.lst (d.map D.int)] = .ok (.tup [.int x, .int y]) := by
  obtain ⟨d0, r, rfl, a0, a1, h⟩ := dr_uncons h
  obtain ⟨d1, r, rfl, b0, b1, h⟩ := dr_uncons h
  obtain ⟨d2, r, rfl, c0, c1, h⟩ := dr_uncons h
  rw [dr_nil h, runF_eq]
  by_cases e1 : d0 % 5 = 1
  · exact ⟨d1 - 500, d2 - 500, by omega, by omega, by simp [M_law_base, e1]⟩
  · by_cases e2 : d0 % 5 = 2
    · exact ⟨(d1 % 3 - 1) * 985, (d2 % 3 - 1) * 985, by omega, by omega, by simp [M_law_base, e1, e2]⟩
    · exact ⟨0, 0, by omega, by omega, by simp [M_law_base, e1, e2]⟩
theorem copy_ok (s : Sky) : runF 1 M_law_copy [skyD s] = .ok (skyD s) := by
  have h1 : imms (s.hills.map spD) = true := imms_map fun _ _ => rfl
  have h2 : imms (s.cools.map D.int) = true := imms_map fun _ _ => rfl
  have h3 : imms (s.winds.map wnD) = true := imms_map fun _ _ => rfl
  have h4 : imms (s.shuts.map shD) = true := imms_map fun _ _ => rfl
  rw [runF_eq]
  simp [M_law_copy, skyD, h1, h2, h3, h4]
/-- a drawn state: near the base, 0 to 5 high, ballast and gas of 0 to n -/
theorem state_ok {d : List Int} {n : Nat} (h : Dr (n + 5) d) (x y k : Int) (hk : 0 ≤ k) : ∃ u v z a b : Int, (x - 3 ≤ u ∧ u ≤ x + 3) ∧ (y - 3 ≤ v ∧ v ≤ y + 3) ∧ (0 ≤ z ∧ z ≤ 5) ∧ (0 ≤ a ∧ a ≤ k) ∧ (0 ≤ b ∧ b ≤ k) ∧ runF 5 M_law_state [.lst (d.map D.int), .tup [.int x, .int y], .int k] = .ok (stD u v z a b) := by
  obtain ⟨d0, r, rfl, a0, a1, h⟩ := dr_uncons h
  obtain ⟨d1, r, rfl, b0, b1, h⟩ := dr_uncons h
  obtain ⟨d2, r, rfl, c0, c1, h⟩ := dr_uncons h
  obtain ⟨d3, r, rfl, e0, e1, h⟩ := dr_uncons h
  obtain ⟨d4, r, rfl, f0, f1, h⟩ := dr_uncons h
  have m : ∀ v : Int, gModI (.int v) (.int (k + 1)) = some (.int (v % (k + 1))) := fun v => gModI_pos (by omega)
  have m0 : ∀ v : Int, 0 ≤ v % (k + 1) ∧ v % (k + 1) ≤ k := fun v => ⟨Int.emod_nonneg _ (by omega), by have := Int.emod_lt_of_pos v (b := k + 1) (by omega); omega⟩
  rw [runF_eq]
  exact ⟨x + d0 % 7 - 3, y + d1 % 7 - 3, d2 % 6, d3 % (k + 1), d4 % (k + 1), by omega, by omega, by omega, m0 d3, m0 d4, by simp [M_law_state, m]⟩
end Lw
/-! Sp8: sightings. -/
namespace Dl
open PySem PySem.Spec PyProof.Rows L2
@[simp] theorem gNe_bl {a b : Bool} : gNe (.bl a) (.bl b) = some (.bl (a != b)) := by cases a <;> cases b <;> rfl
@[simp] theorem gEq_bl {a b : Bool} : gEq (.bl a) (.bl b) = some (.bl (a == b)) := by cases a <;> cases b <;> rfl
end Dl
namespace Lw
open PySem PySem.Spec PyProof.Rows L2 Dl
/-- a state: x, y, height, ballast, gas -/
abbrev St := Int × Int × Int × Int × Int
def tD (s : St) : D := .tup [.int s.1, .int s.2.1, .int s.2.2.1, .int s.2.2.2.1, .int s.2.2.2.2]
/-- a sighting -/
structure Si where
  (w a b c e f g : Int)
  seen : Bool
def misfit (h x y z : Int) (t : Si) : Prop := t.w = h ∧ decide (t.a ≤ x ∧ x ≤ t.c ∧ t.b ≤ y ∧ y ≤ t.e ∧ t.f ≤ z ∧ z ≤ t.g) ≠ t.seen
instance (h x y z : Int) (t : Si) : Decidable (misfit h x y z t) := inferInstanceAs (Decidable (_ ∧ _))
def fitF (ss : List Si) (h x y z : Int) : Bool := ss.all fun t => !decide (misfit h x y z t)
end Lw
/-! Sp9: orders, where they lead, what holds one back. -/
namespace Lw
open PySem PySem.Spec PyProof.Rows L2 Dl
inductive Od where
  | up | level | down
def oS : Od → Str
  | .up => "up"
  | .level => "level"
  | .down => "down"
abbrev oD (o : Od) : D := .str (oS o)
def Od.dz : Od → Int
  | .up => 1
  | .level => 0
  | .down => -1
def Od.isUp : Od → Bool
  | .up => true
  | _ => false
def Od.isDown : Od → Bool
  | .down => true
  | _ => false
@[simp] theorem eq_up {o : Od} : gEq (.str (oS o)) (.str "up") = some (.bl o.isUp) := by cases o <;> kernel_rfl
@[simp] theorem eq_down {o : Od} : gEq (.str (oS o)) (.str "down") = some (.bl o.isDown) := by cases o <;> kernel_rfl
@[simp] theorem ix_order {o : Od} : gIx (.dic false [.str "up", .str "level", .str "down"] [.int 1, .int 0, .int (-1)]) (.str (oS o)) = some (.int o.dz) := by cases o <;> kernel_rfl
/-- what holds one back on the spot -/
def heldF (p : St) (o : Od) : Str := if o.isUp = true ∧ p.2.2.2.1 = 0 then "sacks" else if o.isDown = true ∧ p.2.2.2.2 = 0 then "puffs" else if o.isUp = true ∧ p.2.2.1 = 5 then "high" else if o.isDown = true ∧ p.2.2.1 = 0 then "low" else ""
theorem held_ok (p : St) (o : Od) : runF 2 M_held_back [tD p, oD o] = .ok (.str (heldF p o)) := by
  rw [runF_eq]
  unfold heldF
  cases h1 : o.isUp <;> cases h2 : o.isDown <;> by_cases c1 : p.2.2.2.1 = 0 <;> by_cases c2 : p.2.2.2.2 = 0 <;> by_cases c3 : p.2.2.1 = 5 <;> by_cases c4 : p.2.2.1 = 0 <;> first
    | (exfalso; omega)
    | simp [M_held_back, tD, h1, h2, c1, c2, c3, c4]
/-- the height after the hour's cool air -/
def zF (s : Sky) (h z : Int) : Int := if h ∈ s.cools then max 0 (z - 1) else z
/-- where an order leads -/
def ledF (s : Sky) (h : Int) (p : St) (o : Od) : St :=
  (p.1 + (windF s.winds h (zF s h (p.2.2.1 + o.dz))).1, p.2.1 + (windF s.winds h (zF s h (p.2.2.1 + o.dz))).2, zF s h (p.2.2.1 + o.dz), p.2.2.2.1 - (if o.isUp = true then 1 else 0), p.2.2.2.2 - (if o.isDown = true then 1 else 0))
theorem led_to_ok {c0 : DF'} (s : Sky) (hc : ∀ h l, c0 [.lst (s.winds.map wnD), .int h, .int l] = .ok (pqD (windF s.winds h l))) (h : Int) (p : St) (o : Od) : runF 15 (M_led_to c0) [skyD s, .int h, tD p, oD o] = .ok (tD (ledF s h p o)) := by
  have a1 : ∀ z : Int, z + -1 = z - 1 := fun z => by omega
  have a2 : ∀ z : Int, z + 1 - 1 = z := fun z => by omega
  rw [runF_eq]
  unfold ledF zF
  by_cases c : h ∈ s.cools
  · cases o <;> simp [M_led_to, tD, skyD, pqD, Od.isUp, Od.isDown, Od.dz, c, hc, maxI_eq, a1, a2]
  · cases o <;> simp [M_led_to, tD, skyD, pqD, Od.isUp, Od.isDown, Od.dz, c, hc, a1, a2]
theorem law_led_ok {c0 : DF'} (s : Sky) (hc : ∀ h l, c0 [.lst (s.winds.map wnD), .int h, .int l] = .ok (pqD (windF s.winds h l))) (h : Int) (p : St) (o : Od) (h0 : 0 ≤ p.2.2.1 + o.dz) : runF 12 (M_law_led c0) [skyD s, .int h, tD p, oD o] = .ok (tD (ledF s h p o)) := by
  have m1 : max (0 : Int) 1 = 1 := by omega
  have m2 : max (0 : Int) (-1) = 0 := by omega
  have m3 : max (0 : Int) 0 = 0 := by omega
  have m4 : maxI 0 1 = 1 := rfl
  have m5 : maxI 0 (-1) = 0 := rfl
  have m6 : maxI 0 0 = 0 := rfl
  rw [runF_eq]
  unfold ledF zF
  generalize hz : p.2.2.1 + o.dz = z1 at h0
  have g1 : gAdd (.int p.2.2.1) (.int o.dz) = some (.int z1) := by rw [gAdd_int, hz]
  have gm : (if o.isUp = true then (1 : Int) else 0) = maxI 0 o.dz := by cases o <;> rfl
  have gn : (if o.isDown = true then (1 : Int) else 0) = maxI 0 (-o.dz) := by cases o <;> rfl
  rw [gm, gn]
  by_cases c : h ∈ s.cools
  · by_cases c2 : 0 < z1
    · have e : max 0 (z1 - 1) = z1 - 1 := by omega
      simp only [if_pos c, e]
      simp [M_law_led, tD, skyD, pqD, g1, hz, c, c2, hc]
    · have e : max 0 (z1 - 1) = z1 := by omega
      simp only [if_pos c, e]
      simp [M_law_led, tD, skyD, pqD, g1, hz, c, c2, hc]
  · simp only [if_neg c]
    simp [M_law_led, tD, skyD, pqD, g1, hz, c, hc]
/-- why not: the reason, or no sign -/
noncomputable def whyF (s : Sky) (h : Int) (p : St) (o : Od) : Str := if heldF p o = "" then standF s (h + 1) (ledF s h p o).1 (ledF s h p o).2.1 (ledF s h p o).2.2.1 else heldF p o
theorem ne_held (p : St) (o : Od) : gNe (.str (heldF p o)) (.str "") = some (.bl (!dec (heldF p o = ""))) := by
  have k : okE 0 (.str (heldF p o)) = true := by
    unfold heldF
    split
    · kernel_rfl
    · split
      · kernel_rfl
      · split
        · kernel_rfl
        · split <;> kernel_rfl
  rw [gNe_E 0 0 k (by kernel_rfl) (by decide) (by decide), D.str.injEq]
theorem why_not_ok {c0 c1 c2 : DF'} (s : Sky) (h0 : ∀ h p o, c0 [skyD s, .int h, tD p, oD o] = .ok (tD (ledF s h p o))) (h1 : ∀ h p, c1 [skyD s, .int h, tD p] = .ok (.str (standF s h p.1 p.2.1 p.2.2.1))) (h2 : ∀ p o, c2 [tD p, oD o] = .ok (.str (heldF p o))) (h : Int) (p : St) (o : Od) :
    runF 5 (M_why_not c0 c1 c2) [skyD s, .int h, tD p, oD o] = .ok (.str (whyF s h p o)) := by
  rw [runF_eq]
  unfold whyF
  by_cases c : heldF p o = ""
  · have ne0 : gNe (.str "") (.str "") = some (.bl false) := by kernel_rfl
    simp [M_why_not, h2, c, ne0, h0, h1]
  · simp [M_why_not, h2, ne_held, c]
theorem law_why_ok {c0 c1 : DF'} (s : Sky) (h0 : ∀ h p o, 0 ≤ p.2.2.1 + o.dz → c0 [skyD s, .int h, tD p, oD o] = .ok (tD (ledF s h p o))) (h1 : ∀ h p, c1 [skyD s, .int h, tD p] = .ok (.str (standF s h p.1 p.2.1 p.2.2.1))) (h : Int) (p : St) (o : Od) (hp : 0 ≤ p.2.2.1) :
    runF 4 (M_law_why c0 c1) [skyD s, .int h, tD p, oD o] = .ok (.str (whyF s h p o)) := by
  have e0 : (("" : Str) = "") = True := by simp
  have n1 : (("sacks" : Str) = "") = False := eq_false (by decide +kernel)
  have n2 : (("puffs" : Str) = "") = False := eq_false (by decide +kernel)
  have n3 : (("high" : Str) = "") = False := eq_false (by decide +kernel)
  have n4 : (("low" : Str) = "") = False := eq_false (by decide +kernel)
  rw [runF_eq]
  unfold whyF heldF
  by_cases d1 : o.isUp = true ∧ p.2.2.2.1 = 0
  · simp only [if_pos d1, n1, if_false]
    simp [M_law_why, tD, d1]
  · simp only [if_neg d1]
    by_cases d2 : o.isDown = true ∧ p.2.2.2.2 = 0
    · have u : o.isUp = false := by cases o <;> first | rfl | cases d2.1
      simp only [if_pos d2, n2, if_false]
      simp [M_law_why, tD, d2, u]
    · simp only [if_neg d2]
      by_cases d3 : o.isUp = true ∧ p.2.2.1 = 5
      · have u : o.isDown = false := by cases o <;> first | rfl | cases d3.1
        have v : ¬ p.2.2.2.1 = 0 := fun e => d1 ⟨d3.1, e⟩
        simp only [if_pos d3, n3, if_false]
        simp [M_law_why, tD, d3, u, v]
      · simp only [if_neg d3]
        by_cases d4 : o.isDown = true ∧ p.2.2.1 = 0
        · have u : o.isUp = false := by cases o <;> first | rfl | cases d4.1
          have v : ¬ p.2.2.2.2 = 0 := fun e => d2 ⟨d4.1, e⟩
          simp only [if_pos d4, n4, if_false]
          simp [M_law_why, tD, d4, u, v]
        · simp only [if_neg d4, e0, if_true]
          have hz : 0 ≤ p.2.2.1 + o.dz := by
            cases o with
            | up => show 0 ≤ p.2.2.1 + 1; omega
            | level => show 0 ≤ p.2.2.1 + 0; omega
            | down =>
              have : ¬ p.2.2.1 = 0 := fun e => d4 ⟨rfl, e⟩
              show 0 ≤ p.2.2.1 + -1
              omega
          have q := h0 h p o hz
          have q1 := h1 (h + 1) (ledF s h p o)
          simp only [tD] at q q1
          cases o with
          | level => simp [M_law_why, tD, Od.isUp, Od.isDown, q, q1]
          | up =>
            have v : ¬ p.2.2.2.1 = 0 := fun e => d1 ⟨rfl, e⟩
            have w : ¬ p.2.2.1 = 5 := fun e => d3 ⟨rfl, e⟩
            simp [M_law_why, tD, Od.isUp, Od.isDown, v, w, q, q1]
          | down =>
            have v : ¬ p.2.2.2.2 = 0 := fun e => d2 ⟨rfl, e⟩
            have w : ¬ p.2.2.1 = 0 := fun e => d4 ⟨rfl, e⟩
            simp [M_law_why, tD, Od.isUp, Od.isDown, v, w, q, q1]
end Lw
/-! Sp10: lists of lists of states. -/
namespace Dl
open PySem PySem.Spec PyProof.Rows L2
@[simp] theorem dEnum_eq {fa : DX} {env : DEnv} : dEnum fa env = (fa env).bind fun x => .ofO ((lsD x).map (enumD 0)) := (rfl)
@[simp] theorem lsD_lst {ds : List D} : lsD (.lst ds) = some ds := (rfl)
@[simp] theorem lsD_tup {ds : List D} : lsD (.tup ds) = some ds := (rfl)
@[simp] theorem listD_lst {ds : List D} : listD (.lst ds) = some ds := (rfl)
end Dl
namespace Lw
open PySem PySem.Spec PyProof.Rows L2 Dl
abbrev rowD (l : List St) : D := .lst (l.map tD)
end Lw
/-! Sp11: rows of numbers as keys, sets of them, sorted. -/
namespace Dl
open PySem PySem.Spec PyProof.Rows L2
/-- a tuple of numbers -/
def iD (xs : List Int) : D := .tup (xs.map D.int)
theorem iD_key (xs : List Int) : iD xs = .tup ((xs.map Sum.inl : List Key).map keyD) := by
  unfold iD
  rw [List.map_map]
  rfl
theorem keyEq_iD (xs ys : List Int) : keyEq (iD xs) (iD ys) = decide (xs = ys) := by
  rw [iD_key, iD_key, keyEq_keys]
  congr 1
  apply propext
  constructor
  · intro h
    exact (List.map_inj_right (fun a b e => by cases e; rfl)).mp h
  · intro h
    rw [h]
theorem keyFits_iD (xs : List Int) : keyFits true (iD xs) = true := by
  rw [iD_key]
  show (keysOf _).isSome = true
  rw [keysOf_map]
  rfl
/-- numbers, set by set -/
def addL {α : Type} [DecidableEq α] (L : List α) (x : α) : List α := if x ∈ L then L else L ++ [x]
section
variable {α : Type} [DecidableEq α] {e : α → D} (he : ∀ a b, keyEq (e a) (e b) = decide (a = b))
include he
theorem any_key (L : List α) (x : α) : (L.map e).any (fun y => keyEq y (e x)) = decide (x ∈ L) := by
  rw [List.any_map, Bool.eq_iff_iff, List.any_eq_true, decide_eq_true_eq]
  constructor
  · rintro ⟨y, hy, h⟩
    have h : keyEq (e y) (e x) = true := h
    rw [he] at h
    rw [← of_decide_eq_true h]
    exact hy
  · intro h
    exact ⟨x, h, by show keyEq (e x) (e x) = true; rw [he, decide_eq_true rfl]⟩
theorem putKs_add (L : List α) (x : α) : putKs (L.map e) (e x) = (addL L x).map e := by
  unfold putKs addL
  rw [any_key he]
  by_cases h : x ∈ L
  · rw [if_pos (decide_eq_true h), if_pos h]
  · rw [if_neg (by simpa using h), if_neg h, List.map_append]
    rfl
theorem putWs_add (L : List α) (x : α) (w : D) : putWs (L.map e) (L.map fun _ => w) (e x) w = (addL L x).map fun _ => w := by
  unfold putWs addL
  rw [any_key he]
  by_cases h : x ∈ L
  · rw [if_pos (decide_eq_true h), if_pos h]
    have : ∀ L : List α, List.zipWith (fun y z => if keyEq y (e x) then w else z) (L.map e) (L.map fun _ => w) = L.map fun _ => w := by
      intro L
      induction L with
      | nil => rfl
      | cons a L ih =>
        simp only [List.map_cons, List.zipWith_cons_cons, ih]
        congr 1
        split <;> rfl
    exact this L
  · rw [if_neg (by simpa using h), if_neg h, List.map_append]
    rfl
theorem putD_add (L : List α) (x : α) (w : D) (hk : keyFits true (e x) = true) (hz : L.length < sizeLine) : putD (.dic true (L.map e) (L.map fun _ => w)) (e x) w = some (.dic true ((addL L x).map e) ((addL L x).map fun _ => w)) := by
  show (if keyFits true (e x) && decide ((L.map e).length < sizeLine) then some (D.dic true (putKs (L.map e) (e x)) (putWs (L.map e) (L.map fun _ => w) (e x) w)) else none) = _
  rw [hk, List.length_map, decide_eq_true hz, putKs_add he, putWs_add he]
  rfl
end
section
variable {α : Type} [DecidableEq α]
theorem mem_addL {L : List α} {x y : α} : y ∈ addL L x ↔ y ∈ L ∨ y = x := by
  unfold addL
  split
  · next h => exact ⟨.inl, fun q => q.elim id fun e => e ▸ h⟩
  · simp
theorem nodup_addL {L : List α} {x : α} (h : L.Nodup) : (addL L x).Nodup := by
  unfold addL
  split
  · exact h
  · next hx => exact List.nodup_append.mpr ⟨h, by simp, fun a ha b hb => by rw [List.mem_singleton.mp hb]; rintro rfl; exact hx ha⟩
theorem len_addL {L : List α} {x : α} : (addL L x).length ≤ L.length + 1 := by
  unfold addL
  split <;> simp
theorem mem_addAll {y : α} : ∀ {xs L : List α}, y ∈ xs.foldl addL L ↔ y ∈ L ∨ y ∈ xs
  | [], L => by simp
  | x :: xs, L => by
    rw [List.foldl_cons, mem_addAll, mem_addL]
    simp only [List.mem_cons]
    constructor
    · rintro ((h | h) | h) <;> simp [h]
    · rintro (h | h | h) <;> simp [h]
theorem nodup_addAll : ∀ {xs L : List α}, L.Nodup → (xs.foldl addL L).Nodup
  | [], L, h => h
  | x :: xs, L, h => nodup_addAll (xs := xs) (nodup_addL h)
theorem len_addAll : ∀ {xs L : List α}, (xs.foldl addL L).length ≤ L.length + xs.length
  | [], L => Nat.le_refl _
  | x :: xs, L => by
    have h := len_addAll (xs := xs) (L := addL L x)
    have h2 := len_addL (L := L) (x := x)
    rw [List.foldl_cons, List.length_cons]
    omega
end
/-! ### rows of numbers sorted -/
def lexI : List Int → List Int → Bool
  | x :: xs, y :: ys => decide (x < y) || (!decide (y < x) && lexI xs ys)
  | _, _ => false
theorem dataLt_rows : ∀ (xs ys : List Int), xs.length = ys.length → PyProof.Rows.lexLt itemOrd (PySem.W.keyToksAll (toPys (xs.map D.int))) (PySem.W.keyToksAll (toPys (ys.map D.int))) = lexI xs ys
  | [], [], _ => by
    show PyProof.Rows.lexLt itemOrd [.inl 0] [.inl 0] = false
    exact PyProof.Rows.lex_irrefl _
  | [], _ :: _, h => by cases h
  | _ :: _, [], h => by cases h
  | x :: xs, y :: ys, h => by
    have ih := dataLt_rows xs ys (by simpa using h)
    show PyProof.Rows.lexLt itemOrd (.inl 1 :: .inl x :: PySem.W.keyToksAll (toPys (xs.map D.int))) (.inl 1 :: .inl y :: PySem.W.keyToksAll (toPys (ys.map D.int))) = _
    rw [PyProof.Rows.lex_cons, PyProof.Rows.lex_cons, ih]
    show (decide ((1 : Int) < 1) || (!decide ((1 : Int) < 1) && (decide (x < y) || (!decide (y < x) && lexI xs ys)))) = (decide (x < y) || (!decide (y < x) && lexI xs ys))
    simp
theorem leD_iD (xs ys : List Int) (h : xs.length = ys.length) : leD (iD xs) (iD ys) = !lexI ys xs := by
  show (!PySem.W.dataLt (toPy (iD ys)) (toPy (iD xs))) = _
  congr 1
  have e : ∀ zs : List Int, toPy (iD zs) = .tuple (toPys (zs.map D.int)) := fun zs => by
    unfold iD toPy
    rfl
  rw [e, e, PySem.W.dataLt_tuple]
  exact dataLt_rows ys xs h.symm
theorem lexI_anti : ∀ (xs ys : List Int), xs.length = ys.length → lexI xs ys = false → lexI ys xs = false → xs = ys
  | [], [], _, _, _ => rfl
  | [], _ :: _, h, _, _ => by cases h
  | _ :: _, [], h, _, _ => by cases h
  | x :: xs, y :: ys, h, h1, h2 => by
    unfold lexI at h1 h2
    simp only [Bool.or_eq_false_iff, decide_eq_false_iff_not, Bool.and_eq_false_imp, Bool.not_eq_true', decide_eq_false_iff_not] at h1 h2
    have e : x = y := by omega
    subst e
    rw [lexI_anti xs ys (by simpa using h) (h1.2 (by omega)) (h2.2 (by omega))]
theorem lexI_trans : ∀ (xs ys zs : List Int), xs.length = ys.length → ys.length = zs.length → lexI ys xs = false → lexI zs ys = false → lexI zs xs = false
  | [], [], [], _, _, _, _ => rfl
  | [], [], _ :: _, _, h, _, _ => by cases h
  | [], _ :: _, _, h, _, _, _ => by cases h
  | _ :: _, [], _, h, _, _, _ => by cases h
  | _ :: _, _ :: _, [], _, h, _, _ => by cases h
  | x :: xs, y :: ys, z :: zs, h, h', h1, h2 => by
    unfold lexI at h1 h2 ⊢
    simp only [Bool.or_eq_false_iff, decide_eq_false_iff_not, Bool.and_eq_false_imp, Bool.not_eq_true', decide_eq_false_iff_not] at h1 h2 ⊢
    refine ⟨by omega, fun hz => ?_⟩
    exact lexI_trans xs ys zs (by simpa using h) (by simpa using h') (h1.2 (by omega)) (h2.2 (by omega))
theorem lexI_asym : ∀ (xs ys : List Int), lexI xs ys = true → lexI ys xs = false
  | [], [], h => by cases h
  | [], _ :: _, h => by cases h
  | _ :: _, [], h => by cases h
  | x :: xs, y :: ys, h => by
    unfold lexI at h ⊢
    simp only [Bool.or_eq_true, Bool.and_eq_true, decide_eq_true_eq, Bool.not_eq_true', decide_eq_false_iff_not, Bool.or_eq_false_iff, Bool.and_eq_false_imp] at h ⊢
    rcases h with h | ⟨h, h2⟩
    · exact ⟨by omega, fun q => absurd h (by omega)⟩
    · refine ⟨h, fun q => lexI_asym xs ys h2⟩
section
variable {α : Type} [DecidableEq α] {n : Nat} (f : α → List Int) (hf : ∀ a, (f a).length = n + 1) (inj : ∀ a b, f a = f b → a = b)
/-- things told by rows of numbers, sorted -/
def srtF (L : List α) : List α := L.mergeSort fun a b => !lexI (f b) (f a)
def leF (a b : α) : Prop := lexI (f b) (f a) = false
theorem srtF_perm (L : List α) : (srtF f L).Perm L := List.mergeSort_perm L _
include hf
theorem srtF_sorted (L : List α) : (srtF f L).Pairwise (leF f) := by
  have := List.pairwise_mergeSort (le := fun (a b : α) => !lexI (f b) (f a)) (fun a b c h1 h2 => by
    simp only [Bool.not_eq_true'] at h1 h2 ⊢
    exact lexI_trans _ _ _ ((hf a).trans (hf b).symm) ((hf b).trans (hf c).symm) h1 h2) (fun a b => by
    cases h : lexI (f b) (f a) with
    | false => rfl
    | true =>
      rw [lexI_asym _ _ h]
      rfl) L
  exact this.imp fun h => by
    simp only [Bool.not_eq_true'] at h
    exact h
theorem srtD_F (L : List α) : srtD (L.map fun a => iD (f a)) = (srtF f L).map fun a => iD (f a) :=
  (List.map_mergeSort (f := fun a => iD (f a)) (fun a _ b _ => by rw [leD_iD _ _ ((hf a).trans (hf b).symm)])).symm
include inj
theorem leF_anti (a b : α) (h1 : leF f a b) (h2 : leF f b a) : a = b := inj a b (lexI_anti _ _ ((hf a).trans (hf b).symm) h2 h1)
end
theorem alike_rows : ∀ (xs ys : List Int), PySem.W.alikeAll (toPys (xs.map D.int)) (toPys (ys.map D.int)) = true
  | [], [] => rfl
  | [], _ :: _ => rfl
  | _ :: _, [] => rfl
  | x :: xs, y :: ys => by
    show (PySem.W.alike (.int x) (.int y) && PySem.W.alikeAll (toPys (xs.map D.int)) (toPys (ys.map D.int))) = true
    rw [alike_rows xs ys]
    rfl
theorem srtOk_F {α : Type} {n : Nat} (f : α → List Int) (hf : ∀ a, (f a).length = n + 1) {L : List α} (h : L.length ≤ 1000000) : srtOk (L.map fun a => iD (f a)) = true := by
  have dep : ∀ xs : List Int, PyData.depthAll (toPys (xs.map D.int)) ≤ 0 := fun xs => depths_all fun d hd => by
    obtain ⟨x, _, rfl⟩ := List.mem_map.mp hd
    exact Nat.zero_le _
  unfold srtOk
  simp only [Bool.and_eq_true, Bool.or_eq_true, List.all_eq_true, List.mem_map, decide_eq_true_eq, List.length_map]
  refine ⟨⟨?_, .inl ?_⟩, le_size h⟩
  · rintro _ ⟨a, _, rfl⟩
    refine ⟨⟨⟨noDics_map fun _ _ => rfl, canLays_all fun d hd => by obtain ⟨x, _, rfl⟩ := List.mem_map.mp hd; rfl⟩, ?_⟩, ?_⟩
    · show PyData.depthAll (toPys ((f a).map D.int)) + 1 ≤ 50
      have := dep (f a)
      omega
    · rintro _ ⟨b, _, rfl⟩
      exact alike_rows _ _
  · rintro _ ⟨a, _, rfl⟩
    have := hf a
    cases e : f a with
    | nil => rw [e] at this; cases this
    | cons x xs => rfl
theorem sorted_F {α : Type} {n : Nat} (f : α → List Int) (hf : ∀ a, (f a).length = n + 1) [DecidableEq α] {L : List α} (h : L.length ≤ 1000000) : sortedO (.lst (L.map fun a => iD (f a))) = some (.lst ((srtF f L).map fun a => iD (f a))) := by
  show (if srtOk (L.map fun a => iD (f a)) then some (D.lst (srtD (L.map fun a => iD (f a)))) else none) = _
  rw [if_pos (srtOk_F f hf h), srtD_F f hf]
end Dl
/-! Sp12: pairs that none beats. -/
namespace Lw
open PySem PySem.Spec PyProof.Rows L2 Dl
abbrev Pr := Int × Int
def prL (p : Pr) : List Int := [p.1, p.2]
theorem prL_len (p : Pr) : (prL p).length = 1 + 1 := rfl
theorem leF_pr {a b : Pr} : leF prL a b ↔ lexP a b := by
  unfold leF lexP prL
  unfold lexI
  unfold lexI
  unfold lexI
  simp only [Bool.or_eq_false_iff, decide_eq_false_iff_not, Bool.and_eq_false_imp, Bool.not_eq_true', decide_eq_false_iff_not]
  constructor
  · rintro ⟨h1, h2⟩
    by_cases h : a.1 < b.1
    · exact .inl h
    · have := (h2 (by omega)).1
      exact .inr ⟨by omega, by omega⟩
  · rintro (h | ⟨h, h'⟩)
    · exact ⟨by omega, fun q => absurd h (by omega)⟩
    · exact ⟨by omega, fun q => ⟨by omega, fun _ => by simp⟩⟩
/-- q has as much of both as p, and is not p -/
def beat (q p : Pr) : Prop := p.1 ≤ q.1 ∧ p.2 ≤ q.2 ∧ q ≠ p
instance (q p : Pr) : Decidable (beat q p) := inferInstanceAs (Decidable (_ ∧ _ ∧ _))
theorem pr_ext {p q : Pr} (h1 : p.1 = q.1) (h2 : p.2 = q.2) : p = q := by cases p; cases q; simp at h1 h2; simp [h1, h2]
/-! ### the front -/
def frontGo : List Pr → Int → List Pr
  | [], _ => []
  | x :: r, m => if m < x.2 then x :: frontGo r x.2 else frontGo r m
theorem frontGo_len : ∀ (l : List Pr) (m : Int), (frontGo l m).length ≤ l.length
  | [], _ => Nat.le_refl _
  | x :: r, m => by
    unfold frontGo
    split
    · have := frontGo_len r x.2
      simp; omega
    · have := frontGo_len r m
      simp; omega
theorem front_mem : ∀ (l : List Pr) (m : Int), l.Pairwise (fun a b => lexP b a) → ∀ p, p ∈ frontGo l m ↔ p ∈ l ∧ m < p.2 ∧ ∀ q ∈ l, ¬ beat q p
  | [], m, _, p => by simp [frontGo]
  | x :: r, m, h, p => by
    obtain ⟨h1, h2⟩ := List.pairwise_cons.mp h
    unfold frontGo
    by_cases c : m < x.2
    · rw [if_pos c, List.mem_cons, front_mem r x.2 h2 p]
      constructor
      · rintro (rfl | ⟨a, b, d⟩)
        · refine ⟨by simp, c, fun q hq hb => ?_⟩
          rcases List.mem_cons.mp hq with rfl | hq
          · exact hb.2.2 rfl
          · have l := h1 q hq
            obtain ⟨b1, b2, b3⟩ := hb
            unfold lexP at l
            exact b3 (pr_ext (by omega) (by omega))
        · refine ⟨by simp [a], by omega, fun q hq hb => ?_⟩
          rcases List.mem_cons.mp hq with rfl | hq
          · have := hb.2.1; omega
          · exact d q hq hb
      · rintro ⟨a, b, d⟩
        rcases List.mem_cons.mp a with rfl | a
        · exact .inl rfl
        · by_cases e : p = x
          · exact .inl e
          · refine .inr ⟨a, ?_, fun q hq => d q (by simp [hq])⟩
            have nb := d x (by simp)
            have l := h1 p a
            unfold lexP at l
            apply Classical.byContradiction
            intro k
            exact nb ⟨by omega, by omega, fun z => e z.symm⟩
    · rw [if_neg c, front_mem r m h2 p]
      constructor
      · rintro ⟨a, b, d⟩
        refine ⟨by simp [a], b, fun q hq hb => ?_⟩
        rcases List.mem_cons.mp hq with rfl | hq
        · have := hb.2.1; omega
        · exact d q hq hb
      · rintro ⟨a, b, d⟩
        rcases List.mem_cons.mp a with rfl | a
        · exact absurd b c
        · exact ⟨a, b, fun q hq => d q (by simp [hq])⟩
theorem front_nodup : ∀ (l : List Pr) (m : Int), (frontGo l m).Nodup ∧ ∀ p ∈ frontGo l m, m < p.2
  | [], _ => ⟨by simp [frontGo], by simp [frontGo]⟩
  | x :: r, m => by
    unfold frontGo
    split
    · next c =>
      obtain ⟨h1, h2⟩ := front_nodup r x.2
      refine ⟨List.nodup_cons.mpr ⟨fun h => absurd (h2 x h) (Int.lt_irrefl _), h1⟩, fun p hp => ?_⟩
      rcases List.mem_cons.mp hp with rfl | hp
      · exact c
      · exact Int.lt_trans c (h2 p hp)
    · exact front_nodup r m
/-- the front of a list -/
def frontF (l : List Pr) : List Pr := (frontGo (srtF prL l).reverse (-1)).reverse
theorem front_ok (l : List Pr) (hz : l.length ≤ 100000) : runF 5 M_front [.lst (l.map pqD)] = .ok (.lst ((frontF l).map pqD)) := by
  have srt : sortedO (.lst (l.map pqD)) = some (.lst ((srtF prL l).map pqD)) := sorted_F prL prL_len (by omega)
  have sl : (srtF prL l).length ≤ 100000 := by rw [(srtF_perm prL l).length_eq]; exact hz
  have key : ∀ (xs : List Pr) (m : Int) (acc : List Pr), acc.length + xs.length ≤ 100000 → ∃ m', forGo (gdTup 2 (gdCons (gdName 3) (gdCons (gdName 4) gdNil))) M_front_l1 [3, 4] (xs.map pqD) [some (.lst (l.map pqD)), some (.lst (acc.map pqD)), some (.int m), none, none] = .nx [some (.lst (l.map pqD)), some (.lst ((acc ++ frontGo xs m).map pqD)), some (.int m'), none, none] := by
    intro xs
    induction xs with
    | nil => intro m acc _; exact ⟨m, by simp [frontGo]⟩
    | cons x xs ih =>
      intro m acc hl
      rw [List.length_cons] at hl
      rw [List.map_cons, forGo_cons (e1 := [some (.lst (l.map pqD)), some (.lst (acc.map pqD)), some (.int m), some (.int x.1), some (.int x.2)]) (by simp [pqD])]
      have z : acc.length < sizeLine := lt_size (by omega)
      by_cases c : m < x.2
      · obtain ⟨m', h⟩ := ih x.2 (acc ++ [x]) (by simp; omega)
        refine ⟨m', ?_⟩
        have b : M_front_l1 [some (.lst (l.map pqD)), some (.lst (acc.map pqD)), some (.int m), some (.int x.1), some (.int x.2)] = .nx [some (.lst (l.map pqD)), some (.lst ((acc ++ [x]).map pqD)), some (.int x.2), some (.int x.1), some (.int x.2)] := by
          simp [M_front_l1, c, z, pqD]
        rw [b, forK_nx]
        have e : frontGo (x :: xs) m = x :: frontGo xs x.2 := by
          conv => lhs; unfold frontGo
          rw [if_pos c]
        rw [e, show acc ++ x :: frontGo xs x.2 = (acc ++ [x]) ++ frontGo xs x.2 by simp]
        exact h
      · obtain ⟨m', h⟩ := ih m acc (by omega)
        refine ⟨m', ?_⟩
        have b : M_front_l1 [some (.lst (l.map pqD)), some (.lst (acc.map pqD)), some (.int m), some (.int x.1), some (.int x.2)] = .nx [some (.lst (l.map pqD)), some (.lst (acc.map pqD)), some (.int m), some (.int x.1), some (.int x.2)] := by
          simp [M_front_l1, c]
        rw [b, forK_nx]
        have e : frontGo (x :: xs) m = frontGo xs m := by
          conv => lhs; unfold frontGo
          rw [if_neg c]
        rw [e]
        exact h
  obtain ⟨m', h⟩ := key (srtF prL l).reverse (-1) [] (by simp; omega)
  have src : ∀ e1 e2 e3 e4, dRev (dSorted (dCons (dVar 0) dNil)) [some (.lst (l.map pqD)), e1, e2, e3, e4] = .ok ((srtF prL l).reverse.map pqD) := fun e1 e2 e3 e4 => by
    unfold dRev
    simp [srt]
    unfold revD
    simp [List.map_reverse]
  rw [runF_eq]
  simp only [List.map_nil, List.nil_append] at h
  rw [List.map_reverse] at h
  unfold frontF
  simp [M_front, dFor, src, h, List.map_reverse]
theorem frontF_mem {l : List Pr} (h0 : ∀ p ∈ l, 0 ≤ p.2) (p : Pr) : p ∈ frontF l ↔ p ∈ l ∧ ∀ q ∈ l, ¬ beat q p := by
  have srt := (srtF_sorted prL prL_len l).imp fun h => leF_pr.mp h
  have pm := srtF_perm prL l
  unfold frontF
  rw [List.mem_reverse, front_mem _ _ (List.pairwise_reverse.mpr srt)]
  simp only [List.mem_reverse, pm.mem_iff]
  constructor
  · rintro ⟨a, _, b⟩; exact ⟨a, b⟩
  · rintro ⟨a, b⟩; exact ⟨a, by have := h0 p a; omega, b⟩
/-! ### the least ones -/
end Lw
/-! Sp13: the states behind an hour. -/
namespace Lw
open PySem PySem.Spec PyProof.Rows L2 Dl
def tL (s : St) : List Int := [s.1, s.2.1, s.2.2.1, s.2.2.2.1, s.2.2.2.2]
theorem tL_len (s : St) : (tL s).length = 4 + 1 := rfl
theorem tL_inj (a b : St) (h : tL a = tL b) : a = b := by
  obtain ⟨a1, a2, a3, a4, a5⟩ := a
  obtain ⟨b1, b2, b3, b4, b5⟩ := b
  simp [tL] at h
  simp [h]
theorem tD_iD (s : St) : iD (tL s) = tD s := rfl
theorem keyEq_t (a b : St) : keyEq (tD a) (tD b) = decide (a = b) := by
  rw [← tD_iD, ← tD_iD, keyEq_iD]
  exact decide_eq_decide.mpr ⟨tL_inj a b, fun h => by rw [h]⟩
def Od.all : List Od := [.up, .level, .down]
theorem whyF_ok (s : Sky) (h : Int) (p : St) (o : Od) : okE 0 (.str (whyF s h p o)) = true := by
  unfold whyF
  split
  · exact standF_ok _ _ _ _ _
  · unfold heldF
    split
    · kernel_rfl
    · split
      · kernel_rfl
      · split
        · kernel_rfl
        · split <;> kernel_rfl
/-- the order may be flown -/
noncomputable def canF (s : Sky) (h : Int) (p : St) (o : Od) : Bool := dec (whyF s h p o = "")
theorem gEq_why (s : Sky) (h : Int) (p : St) (o : Od) : gEq (.str (whyF s h p o)) (.str "") = some (.bl (canF s h p o)) := by
  rw [gEq_E 0 0 (whyF_ok s h p o) (by kernel_rfl) (by decide) (by decide), D.str.injEq]
  rfl
theorem gNe_why (s : Sky) (h : Int) (p : St) (o : Od) : gNe (.str (whyF s h p o)) (.str "") = some (.bl (!canF s h p o)) := by
  rw [gNe_E 0 0 (whyF_ok s h p o) (by kernel_rfl) (by decide) (by decide), D.str.injEq]
  rfl
theorem choices_ok {c0 : DF'} (s : Sky) (hc : ∀ h p o, c0 [skyD s, .int h, tD p, oD o] = .ok (.str (whyF s h p o))) (h : Int) (p : St) : runF 4 (M_choices c0) [skyD s, .int h, tD p] = .ok (.lst ((Od.all.filter (canF s h p)).map oD)) := by
  have c : dComp (dItems (dC ((.ktp [.str ("up" : Str), .str ("level" : Str), .str ("down" : Str)])))) (gdName 3) (dBin gEq (dCall c0 (dCons (dVar 0) (dCons (dVar 1) (dCons (dVar 2) (dCons (dVar 3) dNil))))) (dC (.str ("" : Str)))) (dImm (dVar 3)) [3] [some (skyD s), some (.int h), some (tD p), none] = .ok (.lst ((Od.all.filter (canF s h p)).map oD)) :=
    dComp_filter (h := oD) (enc := oD) (canF s h p) Od.all (by simp [Od.all, oS]) (by decide) fun o _ => ⟨_, rfl, by simp [hc, gEq_why], fun _ => by simp⟩
  rw [runF_eq]
  simp [M_choices, c]
/-- where the orders lead from one -/
noncomputable def fromF (s : Sky) (h : Int) (p : St) : List St := (Od.all.filter (canF s h p)).map (ledF s h p)
noncomputable def behindF (s : Sky) (h : Int) (l : List St) : List St := srtF tL ((l.flatMap (fromF s h)).foldl addL [])
theorem behind_ok {c0 c1 : DF'} (s : Sky) (h0 : ∀ h p, c0 [skyD s, .int h, tD p] = .ok (.lst ((Od.all.filter (canF s h p)).map oD))) (h1 : ∀ h p o, canF s h p o = true → c1 [skyD s, .int h, tD p, oD o] = .ok (tD (ledF s h p o))) (h : Int) (l : List St) (hz : l.length ≤ 100000) :
    runF 6 (M_behind c0 c1) [skyD s, .int h, .lst (l.map tD)] = .ok (.lst ((behindF s h l).map tD)) := by
  have lf : ∀ p, (fromF s h p).length ≤ 3 := fun p => by
    unfold fromF
    rw [List.length_map]
    exact List.length_filter_le _ _
  have lfm : ∀ l : List St, (l.flatMap (fromF s h)).length ≤ 3 * l.length := fun l => by
    induction l with
    | nil => exact Nat.le_refl _
    | cons p l ih =>
      rw [List.flatMap_cons, List.length_append, List.length_cons]
      have := lf p
      omega
  obtain ⟨env', e1, e2⟩ := forGo_inv (gd := gdName 4) (body := M_behind_l2 c0 c1) (ks := [4, 5]) (enc := tD)
    (fun pre env => env = [some (skyD s), some (.int h), some (.lst (l.map tD)), some (.dic true (((pre.flatMap (fromF s h)).foldl addL []).map tD) (((pre.flatMap (fromF s h)).foldl addL []).map fun _ => .bl true)), none, none]) l
    (env := [some (skyD s), some (.int h), some (.lst (l.map tD)), some (.dic true [] []), none, none]) rfl fun pre p post env hi ev => by
      subst ev
      have hpl := pre_lt hi
      have hm := lfm pre
      obtain ⟨env', e1, e2⟩ := forGo_inv (gd := gdName 5) (body := M_behind_l1 c0 c1) (ks := [5]) (enc := oD)
        (fun pr env => env = [some (skyD s), some (.int h), some (.lst (l.map tD)), some (.dic true ((((pre.flatMap (fromF s h)) ++ pr.map (ledF s h p)).foldl addL []).map tD) ((((pre.flatMap (fromF s h)) ++ pr.map (ledF s h p)).foldl addL []).map fun _ => .bl true)), some (tD p), none]) (Od.all.filter (canF s h p))
        (env := [some (skyD s), some (.int h), some (.lst (l.map tD)), some (.dic true (((pre.flatMap (fromF s h)).foldl addL []).map tD) (((pre.flatMap (fromF s h)).foldl addL []).map fun _ => .bl true)), some (tD p), none]) (by simp) fun pr o po env hi2 ev => by
          subst ev
          have co : canF s h p o = true := (List.mem_filter.mp (pre_mem hi2)).2
          have hpr : pr.length ≤ 3 := by
            have := pre_lt hi2
            have h3 : (Od.all.filter (canF s h p)).length ≤ 3 := List.length_filter_le _ _
            omega
          have hl : (((pre.flatMap (fromF s h)) ++ pr.map (ledF s h p)).foldl addL []).length ≤ 1000000 := by
            have := len_addAll (xs := (pre.flatMap (fromF s h)) ++ pr.map (ledF s h p)) (L := [])
            simp only [List.length_append, List.length_map, List.length_nil] at this
            omega
          have put := putD_add keyEq_t (((pre.flatMap (fromF s h)) ++ pr.map (ledF s h p)).foldl addL []) (ledF s h p o) (.bl true) (keyFits_iD (tL _)) (lt_size hl)
          refine ⟨_, rfl, [some (skyD s), some (.int h), some (.lst (l.map tD)), some (.dic true ((addL (((pre.flatMap (fromF s h)) ++ pr.map (ledF s h p)).foldl addL []) (ledF s h p o)).map tD) ((addL (((pre.flatMap (fromF s h)) ++ pr.map (ledF s h p)).foldl addL []) (ledF s h p o)).map fun _ => .bl true)), some (tD p), some (oD o)], .inl ?_, ?_⟩
          · generalize ((pre.flatMap (fromF s h)) ++ pr.map (ledF s h p)).foldl addL [] = acc at put
            simp only [M_behind_l1, dSeq_eq, dPut_simp, dCall_eq, dCons_eq, dNil_eq, dVar_eq, dC_eq, bind_ok, List.set_cons_succ, List.set_cons_zero, List.getElem?_cons_succ, List.getElem?_cons_zero, getV_some, h1 h p o co, out_ok, getSel_some, put, putO_some, seqO_nx, dNext_eq]
          · rw [List.map_append, ← List.append_assoc, List.foldl_append]
            simp
      subst e2
      refine ⟨_, rfl, [some (skyD s), some (.int h), some (.lst (l.map tD)), some (.dic true ((((pre.flatMap (fromF s h)) ++ (Od.all.filter (canF s h p)).map (ledF s h p)).foldl addL []).map tD) ((((pre.flatMap (fromF s h)) ++ (Od.all.filter (canF s h p)).map (ledF s h p)).foldl addL []).map fun _ => .bl true)), some (tD p), none], .inl ?_, ?_⟩
      · simp only [M_behind_l2, dSeq_eq, List.set_cons_succ, List.set_cons_zero]
        have src : ∀ e3 e5, (dItems (dCall c0 (dCons (dVar 0) (dCons (dVar 1) (dCons (dVar 4) dNil))))) [some (skyD s), some (.int h), some (.lst (l.map tD)), e3, some (tD p), e5] = .ok ((Od.all.filter (canF s h p)).map oD) := fun e3 e5 => by simp [h0]
        rw [dFor_ok (src _ _), e1]
        simp
      · rw [List.flatMap_append, List.flatMap_cons, List.flatMap_nil, List.append_nil]
        simp [fromF]
  subst e2
  have hl : ((l.flatMap (fromF s h)).foldl addL []).length ≤ 1000000 := by
    have := len_addAll (xs := l.flatMap (fromF s h)) (L := [])
    have := lfm l
    simp only [List.length_nil] at *
    omega
  have srt : sortedO (.lst (((l.flatMap (fromF s h)).foldl addL []).map tD)) = some (.lst ((behindF s h l).map tD)) := sorted_F tL tL_len hl
  rw [runF_eq]
  simp [M_behind, dFor, e1, srt]
end Lw
/-! Sp14: all states reached, all flights. -/
namespace Lw
open PySem PySem.Spec PyProof.Rows L2 Dl
theorem fromF_len (s : Sky) (h : Int) (p : St) : (fromF s h p).length ≤ 3 := by
  unfold fromF
  rw [List.length_map]
  exact List.length_filter_le _ _
theorem flat_len (s : Sky) (h : Int) : ∀ l : List St, (l.flatMap (fromF s h)).length ≤ 3 * l.length
  | [] => Nat.le_refl _
  | p :: l => by
    have ih := flat_len s h l
    have := fromF_len s h p
    rw [List.flatMap_cons, List.length_append, List.length_cons]
    omega
theorem behindF_len (s : Sky) (h : Int) (l : List St) : (behindF s h l).length ≤ 3 * l.length := by
  unfold behindF
  rw [(srtF_perm tL _).length_eq]
  have := len_addAll (xs := l.flatMap (fromF s h)) (L := [])
  have := flat_len s h l
  simp only [List.length_nil] at *
  omega
theorem behindF_mem (s : Sky) (h : Int) (l : List St) (q : St) : q ∈ behindF s h l ↔ ∃ p ∈ l, q ∈ fromF s h p := by
  unfold behindF
  rw [(srtF_perm tL _).mem_iff, mem_addAll]
  simp
noncomputable def statesF (s : Sky) (h : Int) (p : St) : Nat → List St
  | 0 => [p]
  | n + 1 => behindF s (h + n) (statesF s h p n)
theorem pow3 {n : Nat} (h : n ≤ 8) : 3 ^ n ≤ 6561 := by
  have : 3 ^ n ≤ 3 ^ 8 := Nat.pow_le_pow_right (by decide) h
  exact this
/-! ### flights -/
end Lw
/-! Sp15: flights, as the law goes through them. -/
namespace Lw
open PySem PySem.Spec PyProof.Rows L2 Dl
theorem can_up {s : Sky} {h : Int} {p : St} {o : Od} (c : canF s h p o = true) (hz : 0 ≤ p.2.2.1) : 0 ≤ p.2.2.1 + o.dz := by
  have n4 : ¬ (("low" : Str) = "") := by decide +kernel
  have n2 : ¬ (("puffs" : Str) = "") := by decide +kernel
  unfold canF at c
  rw [dec_iff] at c
  cases o with
  | up => show 0 ≤ p.2.2.1 + 1; omega
  | level => show 0 ≤ p.2.2.1 + 0; omega
  | down =>
    show 0 ≤ p.2.2.1 + -1
    by_cases e : p.2.2.1 = 0
    · exfalso
      by_cases e2 : p.2.2.2.2 = 0
      · have hh : heldF p .down = "puffs" := by simp [heldF, Od.isUp, Od.isDown, e2]
        unfold whyF at c
        rw [hh, if_neg n2] at c
        exact n2 c
      · have hh : heldF p .down = "low" := by simp [heldF, Od.isUp, Od.isDown, e2, e]
        unfold whyF at c
        rw [hh, if_neg n4] at c
        exact n4 c
    · omega
theorem led_z {s : Sky} {h : Int} {p : St} {o : Od} (h0 : 0 ≤ p.2.2.1 + o.dz) : 0 ≤ (ledF s h p o).2.2.1 := by
  show 0 ≤ zF s h (p.2.2.1 + o.dz)
  unfold zF
  split <;> omega
end Lw
/-! Sp16: a case: a base, an hour, a number of hours, a sky, a state. -/
namespace Lw
open PySem PySem.Spec PyProof.Rows L2 Dl
theorem mod_le (a b c : Int) (h : 0 < b) (h2 : b ≤ c + 1) : a % b ≤ c := by
  have := Int.emod_lt_of_pos a h
  omega
theorem case_six {c0 c1 c2 : DF'} {N : Nat} {ns : List Int} (hns : Dr N ns) (hs : ∀ (d : List Int) (x y : Int), Dr 6 d → c0 [.lst (d.map D.int), .tup [.int x, .int y], .int 6] = runF 5 M_law_state [.lst (d.map D.int), .tup [.int x, .int y], .int 6])
    (hk : ∀ (d : List Int) (x y h : Int), Dr 120 d → 0 ≤ h → h ≤ 24 → ∃ s : Sky, SkyOk x y s ∧ c1 [.lst (d.map D.int), .tup [.int x, .int y], .int h] = .ok (skyD s))
    (hb : ∀ d : List Int, c2 [.lst (d.map D.int)] = runF 1 M_law_base [.lst (d.map D.int)]) (hN : 140 ≤ N := by omega) :
    ∃ (x y h : Int) (n : Nat) (s : Sky) (p : St), SkyOk x y s ∧ n ≤ 8 ∧ 0 ≤ h ∧ h + n ≤ 24 ∧ (0 ≤ p.2.2.1 ∧ p.2.2.1 ≤ 5) ∧ (0 ≤ p.2.2.2.1 ∧ 0 ≤ p.2.2.2.2) ∧ (p.2.2.2.1 ≤ 6 ∧ p.2.2.2.2 ≤ 6) ∧ runF 7 (M_law_case c0 c1 c2) [.lst (ns.map D.int)] = .ok (.tup [.tup [.int x, .int y], .int h, .int (n : Int), skyD s, tD p]) := by
  obtain ⟨x3, x30, x31, e3⟩ := dr_get hns (i := 3) (by omega) (by omega)
  obtain ⟨x4, x40, x41, e4⟩ := dr_get hns (i := 4) (by omega) (by omega)
  obtain ⟨x5, x50, x51, e5⟩ := dr_get hns (i := 5) (by omega) (by omega)
  obtain ⟨x6, x60, x61, e6⟩ := dr_get hns (i := 6) (by omega) (by omega)
  obtain ⟨x7, x70, x71, e7⟩ := dr_get hns (i := 7) (by omega) (by omega)
  obtain ⟨x9, x90, x91, e9⟩ := dr_get hns (i := 9) (by omega) (by omega)
  obtain ⟨x133, _, _, e133⟩ := dr_get hns (i := 133) (by omega) (by omega)
  obtain ⟨x134, _, _, e134⟩ := dr_get hns (i := 134) (by omega) (by omega)
  obtain ⟨d, hd, ed⟩ := dr_cutI hns (i := 10) (j := 130) 10 130 (by omega) (by omega) (by omega) (by omega)
  obtain ⟨d', hd', ed'⟩ := dr_cutI hns (i := 130) (j := 136) 130 136 (by omega) (by omega) (by omega) (by omega)
  obtain ⟨bx, by', hbx, hby, eb⟩ := base_ok (dr_to hns (b := 3) (by omega))
  rw [← hb] at eb
  obtain ⟨u, v, z, a, b, hu, hv, hz, ha, hb', est⟩ := state_ok (n := 1) hd' bx by' 6 (by omega)
  rw [← hs d' bx by' hd'] at est
  simp only [atI_lit] at e3 e4 e5 e6 e7 e9 e133 e134
  simp only [stD] at est
  simp at eb
  have cut3 : cutD [D.int u, .int v, .int z, .int a, .int b] none (some 3) = [.int u, .int v, .int z] := rfl
  -- what is left to say, at an hour
  have fin : ∀ (n : Int) (l0 l1 : Int), 0 ≤ n → n ≤ 8 → 0 ≤ l0 → 0 ≤ l1 → ∀ h : Int, 0 ≤ h → h + n ≤ 24 → ∃ s : Sky, SkyOk bx by' s ∧ c1 [.lst (d.map D.int), .tup [.int bx, .int by'], .int h] = .ok (skyD s) ∧ gModI (.int x133) (.int (l0 + 1)) = some (.int (x133 % (l0 + 1))) ∧ gModI (.int x134) (.int (l1 + 1)) = some (.int (x134 % (l1 + 1))) := fun n l0 l1 n0 n8 h0 h1 h hh hn => by
    obtain ⟨s, S, es⟩ := hk d bx by' h hd hh (by omega)
    exact ⟨s, S, es, gModI_pos (by omega), gModI_pos (by omega)⟩
  have m24 : ∀ n : Int, n ≤ 8 → gModI (.int x6) (.int (25 - n)) = some (.int (x6 % (25 - n))) ∧ 0 ≤ x6 % (25 - n) ∧ x6 % (25 - n) + n ≤ 24 := fun n hn => ⟨gModI_pos (by omega), Int.emod_nonneg _ (by omega), by have := Int.emod_lt_of_pos x6 (b := 25 - n) (by omega); omega⟩
  obtain ⟨q0, q1, ⟨hq0, kq0⟩, ⟨hq1, kq1⟩, eq⟩ : ∃ q0 q1 : Int, (0 ≤ q0 ∧ q0 ≤ 3) ∧ (0 ≤ q1 ∧ q1 ≤ 3) ∧ atI [D.tup [.int 1, .int 1], .tup [.int 3, .int 0], .tup [.int 0, .int 3], .tup [.int 2, .int 0]] (x9 % 4) = some (.tup [.int q0, .int q1]) := by
    have : x9 % 4 = 0 ∨ x9 % 4 = 1 ∨ x9 % 4 = 2 ∨ x9 % 4 = 3 := by omega
    rcases this with h | h | h | h <;> rw [h]
    · exact ⟨1, 1, by decide, by decide, rfl⟩
    · exact ⟨3, 0, by decide, by decide, rfl⟩
    · exact ⟨0, 3, by decide, by decide, rfl⟩
    · exact ⟨2, 0, by decide, by decide, rfl⟩
  rw [runF_eq]
  by_cases k1 : x4 % 6 = 1
  · obtain ⟨m1, m2, m3⟩ := m24 5 (by omega)
    simp only [show (25 : Int) - 5 = 20 by decide] at m1 m2 m3
    by_cases k3 : x7 % 5 = 1
    · obtain ⟨s, S, es, g0, g1⟩ := fin 5 6 6 (by omega) (by omega) (by omega) (by omega) 19 (by omega) (by omega)
      exact ⟨bx, by', 19, 5, s, (u, v, z, x133 % 7, x134 % 7), S, by omega, by omega, by omega, hz, ⟨Int.emod_nonneg _ (by omega), Int.emod_nonneg _ (by omega)⟩, ⟨mod_le _ _ _ (by omega) (by omega), mod_le _ _ _ (by omega) (by omega)⟩, by simp [M_law_case, e3, e4, e5, e6, e7, e9, e133, e134, ed, ed', eb, est, es, cut3, tD, -List.getElem?_map, k1, k3, m1]⟩
    · obtain ⟨s, S, es, g0, g1⟩ := fin 5 6 6 (by omega) (by omega) (by omega) (by omega) (x6 % 20) m2 m3
      exact ⟨bx, by', x6 % 20, 5, s, (u, v, z, x133 % 7, x134 % 7), S, by omega, m2, m3, hz, ⟨Int.emod_nonneg _ (by omega), Int.emod_nonneg _ (by omega)⟩, ⟨mod_le _ _ _ (by omega) (by omega), mod_le _ _ _ (by omega) (by omega)⟩, by simp [M_law_case, e3, e4, e5, e6, e7, e9, e133, e134, ed, ed', eb, est, es, cut3, tD, -List.getElem?_map, k1, k3, m1]⟩
  · by_cases k2 : x4 % 6 = 2
    · obtain ⟨m1, m2, m3⟩ := m24 (8 - x5 % 3) (by omega)
      have nn : ((8 - x5 % 3).toNat : Int) = 8 - x5 % 3 := by omega
      by_cases k3 : x7 % 5 = 1
      · obtain ⟨s, S, es, g0, g1⟩ := fin (8 - x5 % 3) q0 q1 (by omega) (by omega) hq0 hq1 (24 - (8 - x5 % 3)) (by omega) (by omega)
        exact ⟨bx, by', 24 - (8 - x5 % 3), (8 - x5 % 3).toNat, s, (u, v, z, x133 % (q0 + 1), x134 % (q1 + 1)), S, by omega, by omega, by omega, hz, ⟨Int.emod_nonneg _ (by omega), Int.emod_nonneg _ (by omega)⟩, ⟨mod_le _ _ _ (by omega) (by omega), mod_le _ _ _ (by omega) (by omega)⟩, by rw [nn]; simp [M_law_case, e3, e4, e5, e6, e7, e9, e133, e134, ed, ed', eb, est, es, cut3, tD, -List.getElem?_map, k1, k2, k3, m1, eq, g0, g1]⟩
      · obtain ⟨s, S, es, g0, g1⟩ := fin (8 - x5 % 3) q0 q1 (by omega) (by omega) hq0 hq1 (x6 % (25 - (8 - x5 % 3))) m2 m3
        exact ⟨bx, by', x6 % (25 - (8 - x5 % 3)), (8 - x5 % 3).toNat, s, (u, v, z, x133 % (q0 + 1), x134 % (q1 + 1)), S, by omega, m2, by omega, hz, ⟨Int.emod_nonneg _ (by omega), Int.emod_nonneg _ (by omega)⟩, ⟨mod_le _ _ _ (by omega) (by omega), mod_le _ _ _ (by omega) (by omega)⟩, by rw [nn]; simp [M_law_case, e3, e4, e5, e6, e7, e9, e133, e134, ed, ed', eb, est, es, cut3, tD, -List.getElem?_map, k1, k2, k3, m1, eq, g0, g1]⟩
    · obtain ⟨m1, m2, m3⟩ := m24 (x3 % 5) (by omega)
      have nn : ((x3 % 5).toNat : Int) = x3 % 5 := by omega
      by_cases k3 : x7 % 5 = 1
      · obtain ⟨s, S, es, g0, g1⟩ := fin (x3 % 5) 6 6 (by omega) (by omega) (by omega) (by omega) (24 - x3 % 5) (by omega) (by omega)
        exact ⟨bx, by', 24 - x3 % 5, (x3 % 5).toNat, s, (u, v, z, x133 % 7, x134 % 7), S, by omega, by omega, by omega, hz, ⟨Int.emod_nonneg _ (by omega), Int.emod_nonneg _ (by omega)⟩, ⟨mod_le _ _ _ (by omega) (by omega), mod_le _ _ _ (by omega) (by omega)⟩, by rw [nn]; simp [M_law_case, e3, e4, e5, e6, e7, e9, e133, e134, ed, ed', eb, est, es, cut3, tD, -List.getElem?_map, k1, k2, k3, m1]⟩
      · obtain ⟨s, S, es, g0, g1⟩ := fin (x3 % 5) 6 6 (by omega) (by omega) (by omega) (by omega) (x6 % (25 - x3 % 5)) m2 m3
        exact ⟨bx, by', x6 % (25 - x3 % 5), (x3 % 5).toNat, s, (u, v, z, x133 % 7, x134 % 7), S, by omega, m2, by omega, hz, ⟨Int.emod_nonneg _ (by omega), Int.emod_nonneg _ (by omega)⟩, ⟨mod_le _ _ _ (by omega) (by omega), mod_le _ _ _ (by omega) (by omega)⟩, by rw [nn]; simp [M_law_case, e3, e4, e5, e6, e7, e9, e133, e134, ed, ed', eb, est, es, cut3, tD, -List.getElem?_map, k1, k2, k3, m1]⟩
theorem case_pos {c0 c1 c2 : DF'} {N : Nat} {ns : List Int} (hns : Dr N ns) (hs : ∀ (d : List Int) (x y : Int), Dr 6 d → c0 [.lst (d.map D.int), .tup [.int x, .int y], .int 6] = runF 5 M_law_state [.lst (d.map D.int), .tup [.int x, .int y], .int 6])
    (hk : ∀ (d : List Int) (x y h : Int), Dr 120 d → 0 ≤ h → h ≤ 24 → ∃ s : Sky, SkyOk x y s ∧ c1 [.lst (d.map D.int), .tup [.int x, .int y], .int h] = .ok (skyD s))
    (hb : ∀ d : List Int, c2 [.lst (d.map D.int)] = runF 1 M_law_base [.lst (d.map D.int)]) (hN : 140 ≤ N := by omega) :
    ∃ (x y h : Int) (n : Nat) (s : Sky) (p : St), SkyOk x y s ∧ n ≤ 8 ∧ 0 ≤ h ∧ h + n ≤ 24 ∧ (0 ≤ p.2.2.1 ∧ p.2.2.1 ≤ 5) ∧ (0 ≤ p.2.2.2.1 ∧ 0 ≤ p.2.2.2.2) ∧ runF 7 (M_law_case c0 c1 c2) [.lst (ns.map D.int)] = .ok (.tup [.tup [.int x, .int y], .int h, .int (n : Int), skyD s, tD p]) :=
  let ⟨x, y, h, n, s, p, a, b, c, d, e, f, _, g⟩ := case_six hns hs hk hb hN
  ⟨x, y, h, n, s, p, a, b, c, d, e, f, g⟩
end Lw
/-! Sp17: rows of orders flown. -/
/-! Sp18: what is still possible. -/
namespace Lw
open PySem PySem.Spec PyProof.Rows L2 Dl
theorem lookD_add {α : Type} [DecidableEq α] {e : α → D} (he : ∀ a b, keyEq (e a) (e b) = decide (a = b)) (w : D) (x : α) : ∀ L : List α, lookD (L.map e) (L.map fun _ => w) (e x) = if x ∈ L then some w else none
  | [] => rfl
  | a :: L => by
    show (if keyEq (e a) (e x) then some w else lookD (L.map e) (L.map fun _ => w) (e x)) = _
    rw [he, lookD_add he w x L]
    by_cases h : a = x
    · subst h
      simp
    · simp [h, Ne.symm h]
theorem gIn_add {α : Type} [DecidableEq α] {e : α → D} (he : ∀ a b, keyEq (e a) (e b) = decide (a = b)) (w : D) (x : α) (hk : keyFits true (e x) = true) (L : List α) : gIn (e x) (.dic true (L.map e) (L.map fun _ => w)) = some (.bl (decide (x ∈ L))) := by
  show inDic (e x) true (L.map e) (L.map fun _ => w) = _
  unfold inDic
  rw [if_pos hk, lookD_add he]
  by_cases h : x ∈ L <;> simp [h]
theorem next_ok2 {c0 c1 : DF'} (s : Sky) (h0 : ∀ h p o, c0 [skyD s, .int h, tD p, oD o] = .ok (tD (ledF s h p o))) (h1 : ∀ h p o, c1 [skyD s, .int h, tD p, oD o] = .ok (.str (whyF s h p o))) (h : Int) (p : St) (o : Od) (c : canF s h p o = true) : runF 5 (M_next_state_2 c0 c1) [skyD s, .int h, tD p, oD o] = .ok (tD (ledF s h p o)) := by
  rw [runF_eq]
  simp [M_next_state_2, h0, h1, gNe_why, c]
  simp [tD]
/-! ### the law's own next states -/
/-! ### the states that fit -/
def fitL (ss : List Si) (h : Int) (l : List St) : List St := l.filter fun p => fitF ss h p.1 p.2.1 p.2.2.1
/-! ### those from which it goes on -/
noncomputable def goesF (s : Sky) (h : Int) (later : List St) (p : St) : Bool := ((Od.all.filter (canF s h p)).map fun o => decide (ledF s h p o ∈ later)).any id
noncomputable def goingF (s : Sky) (h : Int) (l later : List St) : List St := l.filter (goesF s h later)
theorem goesF_iff (s : Sky) (h : Int) (later : List St) (p : St) : goesF s h later p = true ↔ ∃ q ∈ later, q ∈ fromF s h p := by
  unfold goesF fromF
  rw [List.any_eq_true]
  constructor
  · rintro ⟨b, hb, e⟩
    obtain ⟨o, ho, rfl⟩ := List.mem_map.mp hb
    exact ⟨_, of_decide_eq_true e, List.mem_map.mpr ⟨o, ho, rfl⟩⟩
  · rintro ⟨q, hq, hf⟩
    obtain ⟨o, ho, rfl⟩ := List.mem_map.mp hf
    exact ⟨_, List.mem_map.mpr ⟨o, ho, rfl⟩, decide_eq_true hq⟩
/-! ### the whole -/
end Lw
/-! Sp19: a path that can be flown. -/
namespace Lw
open PySem PySem.Spec PyProof.Rows L2 Dl
structure PathF (s : Sky) (h : Int) (p : St) (path : List St) : Prop where
  head : path[0]? = some p
  step : ∀ (k : Nat) a b, path[k]? = some a → path[k + 1]? = some b → b ∈ fromF s (h + k) a
  z : ∀ a ∈ path, 0 ≤ a.2.2.1
theorem PathF.one {s : Sky} {h : Int} {p : St} (hz : 0 ≤ p.2.2.1) : PathF s h p [p] := ⟨rfl, fun k a b ha hb => by simp at hb, fun a ha => by rw [List.mem_singleton.mp ha]; exact hz⟩
theorem PathF.take {s : Sky} {h : Int} {p : St} {path : List St} (P : PathF s h p path) (m : Nat) : PathF s h p (path.take (m + 1)) := by
  have t : ∀ (k : Nat) a, (path.take (m + 1))[k]? = some a → path[k]? = some a := fun k a ha => by
    rw [List.getElem?_take] at ha
    split at ha
    · exact ha
    · cases ha
  refine ⟨?_, fun k a b ha hb => P.step k a b (t _ _ ha) (t _ _ hb), fun a ha => P.z a (List.mem_of_mem_take ha)⟩
  rw [List.getElem?_take, if_pos (by omega)]
  exact P.head
theorem fromF_z {s : Sky} {h : Int} {p q : St} (hq : q ∈ fromF s h p) (hz : 0 ≤ p.2.2.1) : 0 ≤ q.2.2.1 := by
  obtain ⟨o, ho, rfl⟩ := List.mem_map.mp hq
  exact led_z (can_up (List.mem_filter.mp ho).2 hz)
theorem PathF.snoc {s : Sky} {h : Int} {p a b : St} {path : List St} {n : Nat} (P : PathF s h p path) (hl : path.length = n + 1) (ha : path[n]? = some a) (hb : b ∈ fromF s (h + n) a) : PathF s h p (path ++ [b]) := by
  refine ⟨?_, fun k x y hx hy => ?_, fun x hx => ?_⟩
  · rw [List.getElem?_append_left (by omega)]; exact P.head
  · by_cases c : k + 1 < path.length
    · rw [List.getElem?_append_left c] at hy
      rw [List.getElem?_append_left (by omega)] at hx
      exact P.step k x y hx hy
    · have kk : k = n := by
        have h3 := (List.getElem?_eq_some_iff.mp hy).1
        simp at h3
        omega
      subst kk
      rw [List.getElem?_append_left (by omega), ha] at hx
      cases hx
      rw [← hl, List.getElem?_append_right (by omega)] at hy
      simp at hy
      rw [← hy]
      exact hb
  · rcases List.mem_append.mp hx with hx | hx
    · exact P.z x hx
    · rw [List.mem_singleton.mp hx]
      exact fromF_z hb (P.z a (List.mem_of_getElem? ha))
end Lw
/-! Sp20: what is possible, as a law of its own: the ways that fit. -/
namespace Lw
open PySem PySem.Spec PyProof.Rows L2 Dl
noncomputable def fwF (s : Sky) (h : Int) (p : St) (ss : List Si) : Nat → List St
  | 0 => fitL ss h [p]
  | k + 1 => fitL ss (h + k + 1) (behindF s (h + k) (fwF s h p ss k))
noncomputable def bkF (s : Sky) (h : Int) (p : St) (ss : List Si) (n : Nat) : Nat → List St
  | 0 => fwF s h p ss n
  | j + 1 => goingF s (h + ((n - (j + 1) : Nat) : Int)) (fwF s h p ss (n - (j + 1))) (bkF s h p ss n j)
/-! ### sorted -/
/-! ### the ways -/
/-! ### refused -/
theorem range_at {α : Type} (f : Nat → α) {n k : Nat} (h : k < n) : ((List.range n).map f)[k]? = some (f k) := by
  rw [List.getElem?_map, List.getElem?_range h]
  rfl
/-! ### what the law makes of it -/
end Lw
/-! Sp21: layers of states, and sightings, as a law draws them. -/
namespace Lw
open PySem PySem.Spec PyProof.Rows L2 Dl
theorem statesF_z {s : Sky} {h : Int} {p : St} (hz : 0 ≤ p.2.2.1) : ∀ (n : Nat), ∀ q ∈ statesF s h p n, 0 ≤ q.2.2.1
  | 0, q, hq => by rw [show q = p from List.mem_singleton.mp hq]; exact hz
  | n + 1, q, hq => by
    obtain ⟨q0, h0, h1⟩ := (behindF_mem s (h + n) (statesF s h p n) q).mp hq
    exact fromF_z h1 (statesF_z hz n q0 h0)
end Lw
/-! Sp22: the states that none at their place and height beats. -/
namespace Lw
open PySem PySem.Spec PyProof.Rows L2 Dl
def spot (s : St) : Sp := (s.1, s.2.1, s.2.2.1)
def pairF (s : St) : Pr := (s.2.2.2.1, s.2.2.2.2)
theorem st_ext {a b : St} (h1 : spot a = spot b) (h2 : pairF a = pairF b) : a = b := by
  obtain ⟨a1, a2, a3, a4, a5⟩ := a
  obtain ⟨b1, b2, b3, b4, b5⟩ := b
  simp [spot] at h1
  simp [pairF] at h2
  simp [h1, h2]
def spL (p : Sp) : List Int := [p.1, p.2.1, p.2.2]
theorem spL_inj (a b : Sp) (h : spL a = spL b) : a = b := by
  obtain ⟨a1, a2, a3⟩ := a
  obtain ⟨b1, b2, b3⟩ := b
  simp [spL] at h
  simp [h]
theorem keyEq_sp (a b : Sp) : keyEq (spD a) (spD b) = decide (a = b) := by
  show keyEq (iD (spL a)) (iD (spL b)) = _
  rw [keyEq_iD]
  exact decide_eq_decide.mpr ⟨spL_inj a b, fun h => by rw [h]⟩
theorem keyFits_sp (a : Sp) : keyFits true (spD a) = true := keyFits_iD (spL a)
theorem idx_map {α : Type} [DecidableEq α] {e : α → D} (he : ∀ a b, keyEq (e a) (e b) = decide (a = b)) (x : α) : ∀ L : List α, (x ∉ L → idxD (L.map e) (e x) = none) ∧ (x ∈ L → ∃ j, idxD (L.map e) (e x) = some j ∧ L[j]? = some x)
  | [] => ⟨fun _ => rfl, fun h => by cases h⟩
  | y :: L => by
    have ih := idx_map he x L
    have u : idxD ((y :: L).map e) (e x) = if keyEq (e y) (e x) then some 0 else (idxD (L.map e) (e x)).map (· + 1) := rfl
    rw [u, he]
    by_cases h : y = x
    · subst h
      exact ⟨fun n => absurd (by simp) n, fun _ => ⟨0, by simp, rfl⟩⟩
    · rw [if_neg (by simpa using h)]
      refine ⟨fun n => ?_, fun m => ?_⟩
      · rw [ih.1 fun z => n (List.mem_cons_of_mem _ z)]
        rfl
      · obtain ⟨j, e1, e2⟩ := ih.2 ((List.mem_cons.mp m).resolve_left fun z => h z.symm)
        exact ⟨j + 1, by rw [e1]; rfl, e2⟩
theorem lookD_map {α : Type} [DecidableEq α] {e : α → D} (he : ∀ a b, keyEq (e a) (e b) = decide (a = b)) (g : α → D) (x : α) : ∀ L : List α, x ∈ L → lookD (L.map e) (L.map g) (e x) = some (g x)
  | [], h => by cases h
  | y :: L, h => by
    show (if keyEq (e y) (e x) then some (g y) else lookD (L.map e) (L.map g) (e x)) = _
    rw [he]
    by_cases c : y = x
    · subst c; simp
    · rw [if_neg (by simpa using c)]
      exact lookD_map he g x L ((List.mem_cons.mp h).resolve_left fun z => c z.symm)
def grpF (l : List St) (k : Sp) : List Pr := (l.filter fun s => decide (spot s = k)).map pairF
def keysF (l : List St) : List Sp := (l.map spot).foldl addL []
def grpD (l : List St) (k : Sp) : D := .lst ((grpF l k).map pqD)
theorem keysF_mem (l : List St) (k : Sp) : k ∈ keysF l ↔ ∃ s ∈ l, spot s = k := by
  unfold keysF
  rw [mem_addAll]
  simp
theorem keysF_nodup (l : List St) : (keysF l).Nodup := nodup_addAll (by simp)
theorem keysF_snoc (l : List St) (s : St) : keysF (l ++ [s]) = addL (keysF l) (spot s) := by
  unfold keysF
  rw [List.map_append, List.foldl_append]
  rfl
theorem keysF_len (l : List St) : (keysF l).length ≤ l.length := by
  have := len_addAll (xs := l.map spot) (L := ([] : List Sp))
  simpa [keysF] using this
theorem grpF_len (l : List St) (k : Sp) : (grpF l k).length ≤ l.length := by
  unfold grpF
  rw [List.length_map]
  exact List.length_filter_le _ _
theorem grpF_new (l : List St) (k : Sp) (h : k ∉ keysF l) : grpF l k = [] := by
  unfold grpF
  rw [List.filter_eq_nil_iff.mpr fun s hs e => h ((keysF_mem l k).mpr ⟨s, hs, of_decide_eq_true e⟩)]
  rfl
theorem grp_set (l : List St) (s : St) (keys : List Sp) (nd : keys.Nodup) (j : Nat) (hj : keys[j]? = some (spot s)) : (keys.map (grpD l)).set j (.lst ((grpF l (spot s)).map pqD ++ [pqD (pairF s)])) = keys.map (grpD (l ++ [s])) := by
  refine List.ext_getElem? fun i => ?_
  rw [List.getElem?_map]
  by_cases c : i = j
  · subst c
    have hl := (List.getElem?_eq_some_iff.mp hj).1
    rw [List.getElem?_set_self (by simpa using hl), hj]
    simp [grpD, grpF, List.filter_append]
  · rw [List.getElem?_set_ne (Ne.symm c), List.getElem?_map]
    cases e : keys[i]? with
    | none => rfl
    | some k =>
      have ne : spot s ≠ k := fun y => c (nodup_at nd (by rw [e, ← y]) hj)
      simp [grpD, grpF, List.filter_append, ne]
def enU (l pre : List St) (r : List (Option D)) : DEnv := some (.lst (l.map tD)) :: some (.dic true ((keysF pre).map spD) ((keysF pre).map (grpD pre))) :: r
theorem unb_turn {c0 : DF'} (l pre : List St) (s : St) (hl : pre.length ≤ 100000) : M_unbeaten_l3 c0 (enU l pre [some (.int s.1), some (.int s.2.1), some (.int s.2.2.1), some (.int s.2.2.2.1), some (.int s.2.2.2.2), none, none]) = .nx (enU l (pre ++ [s]) [some (.int s.1), some (.int s.2.1), some (.int s.2.2.1), some (.int s.2.2.2.1), some (.int s.2.2.2.2), some (spD (spot s)), none]) := by
  have kf : keyFits true (.tup [.int s.1, .int s.2.1, .int s.2.2.1]) = true := keyFits_sp (spot s)
  have gl := grpF_len pre (spot s)
  have kl := keysF_len pre
  have z : (grpF pre (spot s)).length < sizeLine := lt_size (by omega)
  have zk : (keysF pre).length < sizeLine := lt_size (by omega)
  have im : imm (.tup [.int s.2.2.2.1, .int s.2.2.2.2]) = true := rfl
  have s3 : (3 : Nat) ≤ sizeLine := by decide
  have s2 : (2 : Nat) ≤ sizeLine := by decide
  have sp : spD (spot s) = .tup [.int s.1, .int s.2.1, .int s.2.2.1] := rfl
  obtain ⟨i1, i2⟩ := idx_map keyEq_sp (spot s) (keysF pre)
  by_cases m : spot s ∈ keysF pre
  · obtain ⟨j, e1, e2⟩ := i2 m
    have st := grp_set pre s (keysF pre) (keysF_nodup pre) j e2
    have ej : ((keysF pre).map (grpD pre))[j]? = some (.lst ((grpF pre (spot s)).map pqD)) := by rw [List.getElem?_map, e2]; rfl
    have ek : keysF (pre ++ [s]) = keysF pre := by rw [keysF_snoc]; unfold addL; rw [if_pos m]
    unfold enU
    rw [ek, ← st]
    generalize (keysF pre).map (grpD pre) = ws at ej
    generalize hks : (keysF pre).map spD = ks at e1
    rw [sp] at e1 ⊢
    simp [M_unbeaten_l3, dNotInD, dAppD, kf, e1, ej, im, z, s2, s3, pqD, pairF]
  · have e0 := i1 m
    have ek : keysF (pre ++ [s]) = keysF pre ++ [spot s] := by rw [keysF_snoc]; unfold addL; rw [if_neg m]
    obtain ⟨_, i3⟩ := idx_map keyEq_sp (spot s) (keysF pre ++ [spot s])
    obtain ⟨j, e1, e2⟩ := i3 (by simp)
    have nd : (keysF pre ++ [spot s]).Nodup := by rw [← ek]; exact keysF_nodup _
    have st := grp_set pre s (keysF pre ++ [spot s]) nd j e2
    have gn := grpF_new pre (spot s) m
    have ew : (keysF pre ++ [spot s]).map (grpD pre) = (keysF pre).map (grpD pre) ++ [.lst []] := by simp [grpD, gn]
    have ej : ((keysF pre ++ [spot s]).map (grpD pre))[j]? = some (.lst []) := by rw [List.getElem?_map, e2]; simp [grpD, gn]
    rw [gn] at st
    rw [ew] at st ej
    have ekk : (keysF pre ++ [spot s]).map spD = (keysF pre).map spD ++ [spD (spot s)] := by simp
    rw [ekk] at e1
    unfold enU
    rw [ek, ekk, ← st]
    generalize (keysF pre).map (grpD pre) = ws at ej
    have zk' : ((keysF pre).map spD).length < sizeLine := by rw [List.length_map]; exact zk
    generalize (keysF pre).map spD = ks at e0 e1 zk'
    rw [sp] at e0 e1 ⊢
    have z0 : (0 : Nat) < sizeLine := by decide
    simp [M_unbeaten_l3, dNotInD, dPutN, dAppD, kf, e0, e1, ej, im, z0, zk', s2, s3, pqD, pairF]
/-- what is left, by place -/
def mkS (k : Sp) (p : Pr) : St := (k.1, k.2.1, k.2.2, p.1, p.2)
def leftF (l : List St) (ks : List Sp) : List St := ks.flatMap fun k => (frontF (grpF l k)).map (mkS k)
def unbF (l : List St) : List St := srtF tL (leftF l (keysF l))
theorem unb_in {c0 : DF'} (l : List St) (r : List (Option D)) (k : Sp) : ∀ (ps : List Pr) (acc : List St), acc.length + ps.length ≤ 1000000 →
    forGo (gdTup 2 (gdCons (gdName 5) (gdCons (gdName 6) gdNil))) (M_unbeaten_l1 c0) [5, 6] (ps.map pqD) (enU l l [some (.int k.1), some (.int k.2.1), some (.int k.2.2), none, none, none, some (.lst (acc.map tD))]) = .nx (enU l l [some (.int k.1), some (.int k.2.1), some (.int k.2.2), none, none, none, some (.lst ((acc ++ ps.map (mkS k)).map tD))])
  | [], acc, _ => by simp
  | p :: ps, acc, h => by
    rw [List.length_cons] at h
    have ih := unb_in (c0 := c0) l r k ps (acc ++ [mkS k p]) (by simp; omega)
    have z : acc.length < sizeLine := lt_size (by omega)
    have s5 : (5 : Nat) ≤ sizeLine := by decide
    have im : imm (.tup [.int k.1, .int k.2.1, .int k.2.2, .int p.1, .int p.2]) = true := rfl
    rw [List.map_cons, forGo_cons (e1 := enU l l [some (.int k.1), some (.int k.2.1), some (.int k.2.2), some (.int p.1), some (.int p.2), none, some (.lst (acc.map tD))]) (by simp [enU, pqD])]
    have b : M_unbeaten_l1 c0 (enU l l [some (.int k.1), some (.int k.2.1), some (.int k.2.2), some (.int p.1), some (.int p.2), none, some (.lst (acc.map tD))]) = .nx (enU l l [some (.int k.1), some (.int k.2.1), some (.int k.2.2), some (.int p.1), some (.int p.2), none, some (.lst ((acc ++ [mkS k p]).map tD))]) := by
      simp [M_unbeaten_l1, enU, z, s5, im, mkS, tD]
    rw [b, forK_nx]
    rw [show acc ++ (p :: ps).map (mkS k) = (acc ++ [mkS k p]) ++ ps.map (mkS k) by simp]
    exact ih
theorem front_len (l : List Pr) : (frontF l).length ≤ l.length := by
  unfold frontF
  rw [List.length_reverse]
  refine Nat.le_trans (frontGo_len _ _) ?_
  rw [List.length_reverse, (srtF_perm prL l).length_eq]
  exact Nat.le_refl _
theorem unb_out {c0 : DF'} (h0 : ∀ ps : List Pr, ps.length ≤ 100000 → c0 [.lst (ps.map pqD)] = .ok (.lst ((frontF ps).map pqD))) (l : List St) (hl : l.length ≤ 100000) : ∀ (ks : List Sp) (acc : List St), (∀ k ∈ ks, k ∈ keysF l) → acc.length + (leftF l ks).length ≤ 1000000 →
    forGo (gdTup 3 (gdCons (gdName 2) (gdCons (gdName 3) (gdCons (gdName 4) gdNil)))) (M_unbeaten_l2 c0) [2, 3, 4, 5, 6] (ks.map spD) (enU l l [none, none, none, none, none, none, some (.lst (acc.map tD))]) = .nx (enU l l [none, none, none, none, none, none, some (.lst ((acc ++ leftF l ks).map tD))])
  | [], acc, _, _ => by simp [leftF]
  | k :: ks, acc, hk, h => by
    have el : (leftF l (k :: ks)).length = (frontF (grpF l k)).length + (leftF l ks).length := by simp [leftF]
    have gl := grpF_len l k
    have fl := front_len (grpF l k)
    have ih := unb_out (c0 := c0) h0 l hl ks (acc ++ (frontF (grpF l k)).map (mkS k)) (fun k' h' => hk k' (List.mem_cons_of_mem _ h')) (by simp; omega)
    have in_ := unb_in (c0 := c0) l [] k (frontF (grpF l k)) acc (by omega)
    have lk := lookD_map keyEq_sp (grpD l) k (keysF l) (hk k (by simp))
    have kf : keyFits true (.tup [.int k.1, .int k.2.1, .int k.2.2]) = true := keyFits_sp k
    have f := h0 (grpF l k) (by omega)
    have s3 : (3 : Nat) ≤ sizeLine := by decide
    rw [List.map_cons, forGo_cons (e1 := enU l l [some (.int k.1), some (.int k.2.1), some (.int k.2.2), none, none, none, some (.lst (acc.map tD))]) (by simp [enU, spD])]
    have b : M_unbeaten_l2 c0 (enU l l [some (.int k.1), some (.int k.2.1), some (.int k.2.2), none, none, none, some (.lst (acc.map tD))]) = .nx (enU l l [some (.int k.1), some (.int k.2.1), some (.int k.2.2), none, none, none, some (.lst ((acc ++ (frontF (grpF l k)).map (mkS k)).map tD))]) := by
      have lk' : gIx (.dic true ((keysF l).map spD) ((keysF l).map (grpD l))) (.tup [.int k.1, .int k.2.1, .int k.2.2]) = some (.lst ((grpF l k).map pqD)) := by
        show (if keyFits true (.tup [.int k.1, .int k.2.1, .int k.2.2]) then lookD _ _ _ else none) = _
        rw [if_pos kf]
        exact lk
      unfold enU at in_ ⊢
      simp [M_unbeaten_l2, dFor, lk', f, in_, s3]
    rw [b, forK_nx]
    rw [show acc ++ leftF l (k :: ks) = (acc ++ (frontF (grpF l k)).map (mkS k)) ++ leftF l ks by simp [leftF]]
    rw [← ih]
    congr 1
theorem split_len {α : Type} (p : α → Bool) : ∀ l : List α, (l.filter p).length + (l.filter fun x => !p x).length = l.length
  | [] => rfl
  | x :: l => by
    have := split_len p l
    by_cases h : p x = true
    · simp [h]
      omega
    · simp [h]
      omega
theorem grp_sum : ∀ (ks : List Sp), ks.Nodup → ∀ l : List St, (ks.flatMap (grpF l)).length ≤ l.length
  | [], _, l => by simp
  | k :: ks, nd, l => by
    obtain ⟨n1, n2⟩ := List.nodup_cons.mp nd
    have ih := grp_sum ks n2 (l.filter fun s => !decide (spot s = k))
    have e : ks.flatMap (grpF l) = ks.flatMap (grpF (l.filter fun s => !decide (spot s = k))) := by
      have : ∀ k' ∈ ks, grpF l k' = grpF (l.filter fun s => !decide (spot s = k)) k' := fun k' hk' => by
        have ne : k' ≠ k := fun z => n1 (z ▸ hk')
        unfold grpF
        rw [List.filter_filter]
        congr 2
        funext s
        by_cases c : spot s = k'
        · simp [c, ne]
        · simp [c]
      rw [List.flatMap_def, List.flatMap_def, List.map_congr_left this]
    have sp := split_len (fun s : St => decide (spot s = k)) l
    have gk : (grpF l k).length = (l.filter fun s => decide (spot s = k)).length := List.length_map _
    rw [List.flatMap_cons, List.length_append, e, gk]
    omega
theorem left_len (l : List St) : (leftF l (keysF l)).length ≤ l.length := by
  have h : ∀ ks : List Sp, (leftF l ks).length ≤ (ks.flatMap (grpF l)).length := fun ks => by
    induction ks with
    | nil => exact Nat.le_refl _
    | cons k ks ih =>
      have e1 : (leftF l (k :: ks)).length = (frontF (grpF l k)).length + (leftF l ks).length := by simp [leftF]
      have fl := front_len (grpF l k)
      rw [e1, List.flatMap_cons, List.length_append]
      omega
  exact Nat.le_trans (h _) (grp_sum _ (keysF_nodup l) l)
theorem unbeaten_ok {c0 : DF'} (h0 : ∀ ps : List Pr, ps.length ≤ 100000 → c0 [.lst (ps.map pqD)] = .ok (.lst ((frontF ps).map pqD))) (l : List St) (hl : l.length ≤ 100000) : runF 9 (M_unbeaten c0) [.lst (l.map tD)] = .ok (.lst ((unbF l).map tD)) := by
  obtain ⟨env', e1, rfl⟩ := forGo_inv (gd := gdTup 5 (gdCons (gdName 2) (gdCons (gdName 3) (gdCons (gdName 4) (gdCons (gdName 5) (gdCons (gdName 6) gdNil)))))) (body := M_unbeaten_l3 c0) (ks := [2, 3, 4, 5, 6, 7]) (enc := tD)
    (fun pre env => env = enU l pre [none, none, none, none, none, none, none]) l (env := enU l [] [none, none, none, none, none, none, none]) rfl fun pre s post env hi ev => by
      subst ev
      have hpl := pre_lt hi
      exact ⟨enU l pre [some (.int s.1), some (.int s.2.1), some (.int s.2.2.1), some (.int s.2.2.2.1), some (.int s.2.2.2.2), none, none], by simp [enU, tD], _, .inl (unb_turn l pre s (by omega)), by simp [enU]⟩
  have ll := left_len l
  have hz : (leftF l (keysF l)).length ≤ 1000000 := by omega
  have e2 := unb_out (c0 := c0) h0 l hl (keysF l) [] (fun k hk => hk) (by simpa using hz)
  simp only [List.nil_append, List.map_nil] at e2
  have srt : sortedO (.lst ((leftF l (keysF l)).map tD)) = some (.lst ((unbF l).map tD)) := sorted_F tL tL_len hz
  rw [runF_eq]
  simp only [enU, show keysF [] = [] from rfl, List.map_nil] at e1 e2
  simp [M_unbeaten, dFor, e1, dForK, e2, srt]
theorem unbF_len (l : List St) : (unbF l).length ≤ l.length := by
  unfold unbF
  rw [(srtF_perm tL _).length_eq]
  exact left_len l
/-! ### what is left -/
theorem grpF_mem (l : List St) (k : Sp) (p : Pr) : p ∈ grpF l k ↔ mkS k p ∈ l := by
  unfold grpF
  rw [List.mem_map]
  constructor
  · rintro ⟨s, hs, rfl⟩
    obtain ⟨h1, h2⟩ := List.mem_filter.mp hs
    have h2 := of_decide_eq_true h2
    rw [show mkS k (pairF s) = s from st_ext h2.symm rfl]
    exact h1
  · intro h
    exact ⟨_, List.mem_filter.mpr ⟨h, decide_eq_true rfl⟩, rfl⟩
theorem unbF_mem {l : List St} (h0 : ∀ s ∈ l, 0 ≤ s.2.2.2.2) (q : St) : q ∈ unbF l ↔ q ∈ l ∧ ∀ r ∈ l, spot r = spot q → ¬ beat (pairF r) (pairF q) := by
  unfold unbF
  rw [(srtF_perm tL _).mem_iff]
  unfold leftF
  rw [List.mem_flatMap]
  have hg : ∀ k, ∀ p ∈ grpF l k, 0 ≤ p.2 := fun k p hp => h0 _ ((grpF_mem l k p).mp hp)
  constructor
  · rintro ⟨k, _, hq⟩
    obtain ⟨p, hp, rfl⟩ := List.mem_map.mp hq
    obtain ⟨h1, h2⟩ := (frontF_mem (hg k) p).mp hp
    refine ⟨(grpF_mem l k p).mp h1, fun r hr e => h2 _ ((grpF_mem l k (pairF r)).mpr ?_)⟩
    rw [show mkS k (pairF r) = r from st_ext e.symm rfl]
    exact hr
  · rintro ⟨h1, h2⟩
    refine ⟨spot q, (keysF_mem l _).mpr ⟨q, h1, rfl⟩, List.mem_map.mpr ⟨pairF q, (frontF_mem (hg _) _).mpr ⟨(grpF_mem l _ _).mpr h1, fun p hp => ?_⟩, rfl⟩⟩
    exact h2 _ ((grpF_mem l _ p).mp hp) rfl
theorem exists_max {α : Type} (f : α → Int) : ∀ l : List α, l ≠ [] → ∃ x ∈ l, ∀ y ∈ l, f y ≤ f x
  | [], h => absurd rfl h
  | [x], _ => ⟨x, by simp, fun y hy => by rw [List.mem_singleton.mp hy]; exact Int.le_refl _⟩
  | x :: z :: l, _ => by
    obtain ⟨m, hm, h⟩ := exists_max f (z :: l) (by simp)
    by_cases c : f m ≤ f x
    · refine ⟨x, by simp, fun y hy => ?_⟩
      rcases List.mem_cons.mp hy with rfl | hy
      · exact Int.le_refl _
      · exact Int.le_trans (h y hy) c
    · refine ⟨m, List.mem_cons_of_mem _ hm, fun y hy => ?_⟩
      rcases List.mem_cons.mp hy with rfl | hy
      · omega
      · exact h y hy
/-- at the same place, with no more -/
def leS (a b : St) : Prop := spot a = spot b ∧ a.2.2.2.1 ≤ b.2.2.2.1 ∧ a.2.2.2.2 ≤ b.2.2.2.2
theorem leS_refl (a : St) : leS a a := ⟨rfl, Int.le_refl _, Int.le_refl _⟩
theorem leS_trans {a b c : St} (h1 : leS a b) (h2 : leS b c) : leS a c := ⟨h1.1.trans h2.1, Int.le_trans h1.2.1 h2.2.1, Int.le_trans h1.2.2 h2.2.2⟩
theorem unbF_top {l : List St} (h0 : ∀ s ∈ l, 0 ≤ s.2.2.2.2) (q : St) (hq : q ∈ l) : ∃ r ∈ unbF l, leS q r := by
  have dd : ∀ r : St, decide (spot q = spot r ∧ q.2.2.2.1 ≤ r.2.2.2.1 ∧ q.2.2.2.2 ≤ r.2.2.2.2) = true ↔ leS q r := fun r => decide_eq_true_iff
  obtain ⟨x, hx, hm⟩ := exists_max (fun s : St => s.2.2.2.1 + s.2.2.2.2) (l.filter fun r => decide (spot q = spot r ∧ q.2.2.2.1 ≤ r.2.2.2.1 ∧ q.2.2.2.2 ≤ r.2.2.2.2)) (fun e => by
    have : q ∈ l.filter fun r => decide (spot q = spot r ∧ q.2.2.2.1 ≤ r.2.2.2.1 ∧ q.2.2.2.2 ≤ r.2.2.2.2) := List.mem_filter.mpr ⟨hq, (dd q).mpr (leS_refl q)⟩
    rw [e] at this
    cases this)
  obtain ⟨hx1, hx2⟩ := List.mem_filter.mp hx
  have hx2 := (dd x).mp hx2
  refine ⟨x, (unbF_mem h0 x).mpr ⟨hx1, fun r hr e b => ?_⟩, hx2⟩
  obtain ⟨b1, b2, b3⟩ := b
  have b1 : x.2.2.2.1 ≤ r.2.2.2.1 := b1
  have b2 : x.2.2.2.2 ≤ r.2.2.2.2 := b2
  have hr2 : leS q r := ⟨hx2.1.trans e.symm, Int.le_trans hx2.2.1 b1, Int.le_trans hx2.2.2 b2⟩
  have := hm r (List.mem_filter.mpr ⟨hr, (dd r).mpr hr2⟩)
  have this : r.2.2.2.1 + r.2.2.2.2 ≤ x.2.2.2.1 + x.2.2.2.2 := this
  exact b3 (pr_ext (show r.2.2.2.1 = x.2.2.2.1 by omega) (show r.2.2.2.2 = x.2.2.2.2 by omega))
/-! ### more sacks and puffs: more can be flown -/
theorem led_le {s : Sky} {h : Int} {a b : St} (l : leS a b) (o : Od) : leS (ledF s h a o) (ledF s h b o) := by
  obtain ⟨a1, a2, a3, a4, a5⟩ := a
  obtain ⟨b1, b2, b3, b4, b5⟩ := b
  obtain ⟨e, l1, l2⟩ := l
  simp [spot] at e
  obtain ⟨rfl, rfl, rfl⟩ := e
  simp only at l1 l2
  refine ⟨rfl, ?_, ?_⟩
  · show a4 - _ ≤ b4 - _
    omega
  · show a5 - _ ≤ b5 - _
    omega
theorem held_iff (p : St) (o : Od) : heldF p o = "" ↔ ¬ (o.isUp = true ∧ p.2.2.2.1 = 0) ∧ ¬ (o.isDown = true ∧ p.2.2.2.2 = 0) ∧ ¬ (o.isUp = true ∧ p.2.2.1 = 5) ∧ ¬ (o.isDown = true ∧ p.2.2.1 = 0) := by
  have n1 : ¬ (("sacks" : Str) = "") := by decide +kernel
  have n2 : ¬ (("puffs" : Str) = "") := by decide +kernel
  have n3 : ¬ (("high" : Str) = "") := by decide +kernel
  have n4 : ¬ (("low" : Str) = "") := by decide +kernel
  unfold heldF
  by_cases c1 : o.isUp = true ∧ p.2.2.2.1 = 0
  · rw [if_pos c1]; exact ⟨fun e => absurd e n1, fun e => absurd c1 e.1⟩
  rw [if_neg c1]
  by_cases c2 : o.isDown = true ∧ p.2.2.2.2 = 0
  · rw [if_pos c2]; exact ⟨fun e => absurd e n2, fun e => absurd c2 e.2.1⟩
  rw [if_neg c2]
  by_cases c3 : o.isUp = true ∧ p.2.2.1 = 5
  · rw [if_pos c3]; exact ⟨fun e => absurd e n3, fun e => absurd c3 e.2.2.1⟩
  rw [if_neg c3]
  by_cases c4 : o.isDown = true ∧ p.2.2.1 = 0
  · rw [if_pos c4]; exact ⟨fun e => absurd e n4, fun e => absurd c4 e.2.2.2⟩
  rw [if_neg c4]
  exact ⟨fun _ => ⟨c1, c2, c3, c4⟩, fun _ => rfl⟩
theorem can_held {s : Sky} {h : Int} {p : St} {o : Od} (c : canF s h p o = true) : heldF p o = "" := by
  unfold canF whyF at c
  rw [dec_iff] at c
  by_cases e : heldF p o = ""
  · exact e
  · rw [if_neg e] at c
    exact c
theorem can_le {s : Sky} {h : Int} {a b : St} (l : leS a b) (a0 : 0 ≤ a.2.2.2.1 ∧ 0 ≤ a.2.2.2.2) {o : Od} (c : canF s h a o = true) : canF s h b o = true := by
  have ha := can_held c
  obtain ⟨i1, i2, i3, i4⟩ := (held_iff a o).mp ha
  have lp := led_le (s := s) (h := h) l o
  have e := l.1
  have ez : a.2.2.1 = b.2.2.1 := congrArg (fun t : Sp => t.2.2) e
  have l1 := l.2.1
  have l2 := l.2.2
  have hb : heldF b o = "" := (held_iff b o).mpr ⟨fun z => i1 ⟨z.1, by omega⟩, fun z => i2 ⟨z.1, by omega⟩, fun z => i3 ⟨z.1, by omega⟩, fun z => i4 ⟨z.1, by omega⟩⟩
  have e1 : (ledF s h a o).1 = (ledF s h b o).1 := congrArg (fun t : Sp => t.1) lp.1
  have e2 : (ledF s h a o).2.1 = (ledF s h b o).2.1 := congrArg (fun t : Sp => t.2.1) lp.1
  have e3 : (ledF s h a o).2.2.1 = (ledF s h b o).2.2.1 := congrArg (fun t : Sp => t.2.2) lp.1
  unfold canF whyF at c ⊢
  rw [dec_iff] at c ⊢
  rw [if_pos ha, e1, e2, e3] at c
  rw [if_pos hb]
  exact c
/-- sacks and puffs are no less than none -/
def posS (a : St) : Prop := 0 ≤ a.2.2.2.1 ∧ 0 ≤ a.2.2.2.2
theorem led_pos {s : Sky} {h : Int} {a : St} {o : Od} (p : posS a) (c : canF s h a o = true) : posS (ledF s h a o) := by
  obtain ⟨i1, i2, _, _⟩ := (held_iff a o).mp (can_held c)
  obtain ⟨p1, p2⟩ := p
  refine ⟨?_, ?_⟩
  · show 0 ≤ a.2.2.2.1 - _
    by_cases u : o.isUp = true
    · rw [if_pos u]
      have : a.2.2.2.1 ≠ 0 := fun z => i1 ⟨u, z⟩
      omega
    · rw [if_neg u]; omega
  · show 0 ≤ a.2.2.2.2 - _
    by_cases u : o.isDown = true
    · rw [if_pos u]
      have : a.2.2.2.2 ≠ 0 := fun z => i2 ⟨u, z⟩
      omega
    · rw [if_neg u]; omega
theorem from_pos {s : Sky} {h : Int} {a b : St} (p : posS a) (m : b ∈ fromF s h a) : posS b := by
  obtain ⟨o, ho, rfl⟩ := List.mem_map.mp m
  exact led_pos p (List.mem_filter.mp ho).2
theorem from_le {s : Sky} {h : Int} {a b q : St} (l : leS a b) (p : posS a) (m : q ∈ fromF s h a) : ∃ r ∈ fromF s h b, leS q r := by
  obtain ⟨o, ho, rfl⟩ := List.mem_map.mp m
  obtain ⟨h1, h2⟩ := List.mem_filter.mp ho
  exact ⟨_, List.mem_map.mpr ⟨o, List.mem_filter.mpr ⟨h1, can_le l p h2⟩, rfl⟩, led_le l o⟩
/-! ### the table -/
noncomputable def tableF (s : Sky) (h : Int) (p : St) : Nat → List St
  | 0 => [p]
  | k + 1 => unbF (behindF s (h + k) (tableF s h p k))
theorem tableF_len (s : Sky) (h : Int) (p : St) : ∀ k, (tableF s h p k).length ≤ 3 ^ k
  | 0 => Nat.le_refl _
  | k + 1 => by
    have h1 := unbF_len (behindF s (h + k) (tableF s h p k))
    have h2 := behindF_len s (h + k) (tableF s h p k)
    have h3 := tableF_len s h p k
    show (unbF (behindF s (h + k) (tableF s h p k))).length ≤ 3 ^ (k + 1)
    rw [Nat.pow_succ]
    omega
theorem statesF_pos {s : Sky} {h : Int} {p : St} (hp : posS p) : ∀ (k : Nat), ∀ q ∈ statesF s h p k, posS q
  | 0, q, hq => by rw [show q = p from List.mem_singleton.mp hq]; exact hp
  | k + 1, q, hq => by
    obtain ⟨q0, h0, h1⟩ := (behindF_mem s (h + k) (statesF s h p k) q).mp hq
    exact from_pos (statesF_pos hp k q0 h0) h1
theorem behind_sub {s : Sky} {h : Int} {l m : List St} (sub : ∀ q ∈ l, q ∈ m) : ∀ q ∈ behindF s h l, q ∈ behindF s h m := fun q hq => by
  obtain ⟨q0, h0, h1⟩ := (behindF_mem s h l q).mp hq
  exact (behindF_mem s h m q).mpr ⟨q0, sub q0 h0, h1⟩
theorem table_states {s : Sky} {h : Int} {p : St} (hp : posS p) : ∀ k : Nat, (∀ q ∈ tableF s h p k, q ∈ statesF s h p k) ∧ ∀ q ∈ statesF s h p k, ∃ r ∈ tableF s h p k, leS q r
  | 0 => ⟨fun q hq => hq, fun q hq => ⟨q, hq, leS_refl q⟩⟩
  | k + 1 => by
    obtain ⟨i1, i2⟩ := table_states hp k
    have sub := behind_sub (s := s) (h := h + k) i1
    have h0 : ∀ q ∈ behindF s (h + k) (tableF s h p k), 0 ≤ q.2.2.2.2 := fun q hq => (statesF_pos hp (k + 1) q (sub q hq)).2
    refine ⟨fun q hq => sub q ((unbF_mem h0 q).mp hq).1, fun q hq => ?_⟩
    obtain ⟨q0, m0, m1⟩ := (behindF_mem s (h + k) (statesF s h p k) q).mp hq
    obtain ⟨r0, n0, n1⟩ := i2 q0 m0
    obtain ⟨r1, n2, n3⟩ := from_le n1 (statesF_pos hp k q0 m0) m1
    obtain ⟨r, n4, n5⟩ := unbF_top h0 r1 ((behindF_mem s (h + k) (tableF s h p k) r1).mpr ⟨r0, n0, n2⟩)
    exact ⟨r, n4, leS_trans n3 n5⟩
theorem table_ok {c0 c1 : DF'} (s : Sky) (h0 : ∀ (h : Int) (l : List St), l.length ≤ 100000 → c0 [skyD s, .int h, .lst (l.map tD)] = .ok (.lst ((behindF s h l).map tD))) (h1 : ∀ l : List St, l.length ≤ 100000 → c1 [.lst (l.map tD)] = .ok (.lst ((unbF l).map tD))) (h : Int) (p : St) (n : Nat) (hn : n ≤ 8) :
    runF 6 (M_table c0 c1) [skyD s, .int h, tD p, .int (n : Int)] = .ok (.lst (((List.range (n + 1)).map (tableF s h p)).map rowD)) := by
  obtain ⟨env', e1, rfl⟩ := forGo_inv (gd := gdName 5) (body := M_table_l1 c0 c1) (ks := [5]) (enc := fun (i : Nat) => D.int (i : Int))
    (fun pre env => env = [some (skyD s), some (.int h), some (tD p), some (.int (n : Int)), some (.lst (((List.range (pre.length + 1)).map (tableF s h p)).map rowD)), none]) (List.range n)
    (env := [some (skyD s), some (.int h), some (tD p), some (.int (n : Int)), some (.lst [.lst [tD p]]), none]) rfl fun pre k post env hi ev => by
      subst ev
      obtain ⟨rfl, hk⟩ := pre_range hi
      have hl := Nat.le_trans (tableF_len s h p pre.length) (pow3 (by omega))
      have bl := behindF_len s (h + pre.length) (tableF s h p pre.length)
      have b := h0 (h + pre.length) (tableF s h p pre.length) (by omega)
      have u := h1 (behindF s (h + pre.length) (tableF s h p pre.length)) (by omega)
      have last : atI (((List.range (pre.length + 1)).map (tableF s h p)).map rowD) (-1) = some (.lst ((tableF s h p pre.length).map tD)) := by
        rw [List.map_map, atI_lastL, List.getLast?_eq_getElem?, List.length_map, List.length_range]
        exact range_at _ (by omega)
      have z : (((List.range (pre.length + 1)).map (tableF s h p)).map rowD).length < sizeLine := lt_size (by simp; omega)
      refine ⟨_, rfl, [some (skyD s), some (.int h), some (tD p), some (.int (n : Int)), some (.lst ((((List.range (pre.length + 1)).map (tableF s h p)).map rowD) ++ [rowD (tableF s h p (pre.length + 1))])), some (.int (pre.length : Int))], .inl ?_, ?_⟩
      · have e : tableF s h p (pre.length + 1) = unbF (behindF s (h + pre.length) (tableF s h p pre.length)) := rfl
        rw [e]
        generalize (((List.range (pre.length + 1)).map (tableF s h p)).map rowD) = R at last z
        simp [M_table_l1, last, b, u, z, rowD]
      · rw [List.length_append]
        show _ = [_, _, _, _, some (D.lst (((List.range (pre.length + 1 + 1)).map (tableF s h p)).map rowD)), _]
        rw [List.range_succ (n := pre.length + 1), List.map_append, List.map_append]
        rfl
  rw [List.length_range] at e1
  have im : imm (tD p) = true := rfl
  rw [runF_eq]
  simp [M_table, dFor, rng_nat (show n < 2 ^ 62 by omega), e1, im, -List.map_map]
end Lw
/-! Sp23: papers. -/
/-! Sp24: rules of the store; dicts that keep the best. -/
namespace Lw
open PySem PySem.Spec PyProof.Rows L2 Dl
section
variable {w i j n : Nat} {env e : DEnv} {f fo fk : DX} {fs : DXs} {g : DXX} {gs : DXXs} {F : DFw}
@[simp] theorem xP_eq : xP f env = (match f env with
  | .ok d => .ok d env
  | .exc c fs => .exc c fs env
  | .bad => .bad) := (rfl)
@[simp] theorem xPs_eq : xPs fs env = (match fs env with
  | .ok d => .ok d env
  | .exc c fs => .exc c fs env
  | .bad => .bad) := (rfl)
@[simp] theorem xCons_eq : xCons g gs env = (match g env with
  | .ok d e1 => (match gs e1 with
    | .ok ds e2 => .ok (d :: ds) e2
    | .exc c fs e => .exc c fs e
    | .bad => .bad)
  | .exc c fs e => .exc c fs e
  | .bad => .bad) := (rfl)
@[simp] theorem xCallW_eq : xCallW i F gs env = (match gs env with
  | .ok ds e1 => (match e1[i]? with
    | some (some cs) => (match F cs ds with
      | .ok d cs' => .ok d (e1.set i (some cs'))
      | .exc c fs cs' => .exc c fs (e1.set i (some cs'))
      | .bad => .bad)
    | _ => .bad)
  | .exc c fs e => .exc c fs e
  | .bad => .bad) := (rfl)
@[simp] theorem xCallWF_eq : xCallWF i F gs env = (match xCallW i F gs env with
  | .ok d e => if isLD d then .ok d e else .bad
  | .exc c fs e => .exc c fs e
  | .bad => .bad) := (rfl)
@[simp] theorem dDropX_eq : dDropX g env = (match g env with
  | .ok _ e => .nx e
  | .exc c fs e => .exc c fs e
  | .bad => .bad) := (rfl)
@[simp] theorem dSetX_eq : dSetX j g env = (match g env with
  | .ok d e => .nx (e.set j (some d))
  | .exc c fs e => .exc c fs e
  | .bad => .bad) := (rfl)
@[simp] theorem dNewB_eq : dNewB w j g env = (match g env with
  | .ok c e => (match e[w]? with
    | some (some (.lst cs)) => if isLD c then .nx ((e.set w (some (.lst (cs ++ [c])))).set j (some (.obj cs.length))) else .bad
    | _ => .bad)
  | .exc c fs e => .exc c fs e
  | .bad => .bad) := (rfl)
@[simp] theorem dRetX_eq : dRetX w g env = (match g env with
  | .ok d e => (match e[w]? with
    | some (some cs) => .rt (.tup [d, cs])
    | _ => .bad)
  | .exc c fs e => .exc c fs e
  | .bad => .bad) := (rfl)
@[simp] theorem dRetXO_eq : dRetXO w i env = (match env[i]? with
  | some (some d) => (match env[w]? with
    | some (some cs) => .rt (.tup [d, cs])
    | _ => .bad)
  | _ => .bad) := (rfl)
@[simp] theorem xNum_eq : xNum w g env = (match g env with
  | .ok c e => (match e[w]? with
    | some (some (.lst cs)) => if isLD c then .ok (.obj cs.length) (e.set w (some (.lst (cs ++ [c])))) else .bad
    | _ => .bad)
  | .exc c fs e => .exc c fs e
  | .bad => .bad) := (rfl)
@[simp] theorem xList_eq : xList g env = (match g env with
  | .ok d e => (match gList d with
    | some xs => .ok (.lst xs) e
    | none => .bad)
  | .exc c fs e => .exc c fs e
  | .bad => .bad) := (rfl)
@[simp] theorem xImmL_eq : xImmL g env = (match g env with
  | .ok d e => if immL d then .ok d e else .bad
  | .exc c fs e => .exc c fs e
  | .bad => .bad) := (rfl)
@[simp] theorem dDer_eq : dDer w f env = (f env).bind (derO w env) := (rfl)
end
/-! ### orders by rank -/
def oN : Od → Int
  | .up => 0
  | .level => 1
  | .down => 2
def rkF (os : List Od) : List Int := os.map oN
def erl (a b : List Od) : Bool := HT.lexLt (rkF a) (rkF b)
/-! ### the order itself -/
theorem rkF_inj : ∀ {a b : List Od}, rkF a = rkF b → a = b
  | [], [], _ => rfl
  | [], _ :: _, h => by cases h
  | _ :: _, [], h => by cases h
  | x :: a, y :: b, h => by
    have h : oN x :: rkF a = oN y :: rkF b := h
    injection h with h1 h2
    rw [rkF_inj h2]
    cases x <;> cases y <;> first | rfl | (exfalso; simp [oN] at h1)
theorem lex_irr : ∀ a : List Int, HT.lexLt a a = false
  | [] => rfl
  | x :: a => by rw [HT.lexLt_cons, if_pos rfl]; exact lex_irr a
theorem lex_tri : ∀ a b : List Int, HT.lexLt a b = false → HT.lexLt b a = false → a = b
  | [], [], _, _ => rfl
  | [], y :: b, h, _ => by cases h
  | x :: a, [], _, h => by cases h
  | x :: a, y :: b, h1, h2 => by
    rw [HT.lexLt_cons] at h1 h2
    by_cases e : x = y
    · subst e
      rw [if_pos rfl] at h1 h2
      rw [lex_tri a b h1 h2]
    · rw [if_neg e] at h1
      rw [if_neg fun z => e z.symm] at h2
      simp at h1 h2
      omega
theorem lex_trans : ∀ a b c : List Int, HT.lexLt a b = true → HT.lexLt b c = true → HT.lexLt a c = true
  | [], [], _, h, _ => by cases h
  | _ :: _, [], _, h, _ => by cases h
  | _, _ :: _, [], _, h => by cases h
  | [], _ :: _, _ :: _, _, _ => rfl
  | x :: a, y :: b, z :: c, h1, h2 => by
    rw [HT.lexLt_cons] at h1 h2 ⊢
    by_cases e : x = y
    · subst e
      rw [if_pos rfl] at h1
      by_cases e2 : x = z
      · subst e2
        rw [if_pos rfl] at h2 ⊢
        exact lex_trans a b c h1 h2
      · rw [if_neg e2] at h2 ⊢
        exact h2
    · rw [if_neg e] at h1
      by_cases e2 : y = z
      · subst e2
        rw [if_neg e]
        exact h1
      · rw [if_neg e2] at h2
        simp at h1 h2
        rw [if_neg (by omega)]
        simp
        omega
/-- a comes no later than b -/
def leO (a b : List Od) : Prop := erl b a = false
theorem leO_refl (a : List Od) : leO a a := lex_irr _
theorem leO_anti {a b : List Od} (h1 : leO a b) (h2 : leO b a) : a = b := rkF_inj (lex_tri _ _ h2 h1)
theorem leO_of {a b : List Od} (h : erl a b = true) : leO a b := by
  cases e : erl b a with
  | false => exact e
  | true =>
    have := lex_trans _ _ _ h e
    rw [lex_irr] at this
    cases this
theorem leO_trans {a b c : List Od} (h1 : leO a b) (h2 : leO b c) : leO a c := by
  cases e : erl c a with
  | false => exact e
  | true =>
    exfalso
    cases e2 : erl a b with
    | true =>
      have := lex_trans _ _ _ e e2
      have h2 : HT.lexLt (rkF c) (rkF b) = false := h2
      rw [this] at h2
      cases h2
    | false =>
      have := leO_anti h1 e2
      subst this
      have h2 : erl c a = false := h2
      rw [h2] at e
      cases e
end Lw
/-! Sp25: dicts that keep the best orders of each key. -/
namespace Lw
open PySem PySem.Spec PyProof.Rows L2 Dl
abbrev KV (α : Type) := List (α × List Od)
section
variable {α β : Type} [DecidableEq α]
def look (m : List (α × β)) (k : α) : Option (β) := (m.find? fun p => decide (p.1 = k)).map (·.2)
def setK (m : List (α × β)) (k : α) (v : β) : List (α × β) := if m.any (fun p => decide (p.1 = k)) then m.map (fun p => if p.1 = k then (k, v) else p) else m ++ [(k, v)]
def bestPut (m : KV α) (k : α) (v : List Od) : KV α := match look m k with
  | none => setK m k v
  | some u => if erl v u then setK m k v else m
theorem look_nil (k : α) : look ([] : List (α × β)) k = none := rfl
theorem look_cons (p : α × β) (m : List (α × β)) (k : α) : look (p :: m) k = if p.1 = k then some p.2 else look m k := by
  unfold look
  rw [List.find?_cons]
  by_cases h : p.1 = k
  · simp [h]
  · simp [h]
theorem look_any (m : List (α × β)) (k : α) : m.any (fun p => decide (p.1 = k)) = (look m k).isSome := by
  induction m with
  | nil => rfl
  | cons p m ih =>
    rw [look_cons, List.any_cons, ih]
    by_cases h : p.1 = k <;> simp [h]
theorem look_mapk (k : α) (v : β) (k' : α) : ∀ m : List (α × β), look (m.map fun p => if p.1 = k then (k, v) else p) k' = if k' = k then (look m k).map (fun _ => v) else look m k'
  | [] => by simp [look_nil]
  | p :: m => by
    rw [List.map_cons, look_cons, look_mapk k v k' m, look_cons, look_cons]
    by_cases h : p.1 = k
    · by_cases h2 : k' = k
      · subst h2; simp [h]
      · have : ¬ p.1 = k' := fun z => h2 (z.symm.trans h)
        have : ¬ k = k' := fun z => h2 z.symm
        simp [h, h2, this]
    · by_cases h2 : k' = k
      · subst h2; simp [h]
      · simp [h, h2]
theorem look_app (m : List (α × β)) (k : α) (v : β) (k' : α) : look (m ++ [(k, v)]) k' = (look m k').or (if k = k' then some v else none) := by
  induction m with
  | nil => simp [look_cons, look_nil]
  | cons p m ih =>
    rw [List.cons_append, look_cons, ih, look_cons]
    by_cases h : p.1 = k' <;> simp [h]
theorem look_setK (m : List (α × β)) (k : α) (v : β) (k' : α) : look (setK m k v) k' = if k' = k then some v else look m k' := by
  unfold setK
  rw [look_any]
  cases e : look m k with
  | none =>
    simp only [Option.isSome_none, Bool.false_eq_true, if_false]
    rw [look_app]
    by_cases h : k' = k
    · subst h; simp [e]
    · have : ¬ k = k' := fun z => h z.symm
      simp [h, this]
  | some u =>
    simp only [Option.isSome_some, if_true]
    rw [look_mapk, e]
    simp
def best2 : Option (List Od) → List Od → List Od
  | none, v => v
  | some u, v => if erl v u then v else u
theorem look_best (m : KV α) (k : α) (v : List Od) (k' : α) : look (bestPut m k v) k' = if k' = k then some (best2 (look m k) v) else look m k' := by
  unfold bestPut
  cases e : look m k with
  | none => exact look_setK m k v k'
  | some u =>
    show look (if erl v u then setK m k v else m) k' = _
    unfold best2
    by_cases h : erl v u = true
    · simp only [h, if_true]
      exact look_setK m k v k'
    · simp only [Bool.not_eq_true] at h
      simp only [h, Bool.false_eq_true, if_false]
      by_cases h2 : k' = k
      · subst h2; simp [e]
      · simp [h2]
/-! ### the best of each key among S -/
def BestOf (S : α → List Od → Prop) (m : KV α) : Prop := (∀ k u, look m k = some u → S k u ∧ ∀ v, S k v → leO u v) ∧ ∀ k v, S k v → ∃ u, look m k = some u
theorem BestOf.nil : BestOf (fun (_ : α) _ => False) [] := ⟨fun k u h => (by cases h), fun k v h => h.elim⟩
theorem BestOf.imp {S S' : α → List Od → Prop} {m : KV α} (h : BestOf S m) (e : ∀ k v, S k v ↔ S' k v) : BestOf S' m :=
  ⟨fun k u z => ⟨(e k u).mp (h.1 k u z).1, fun v s => (h.1 k u z).2 v ((e k v).mpr s)⟩, fun k v s => h.2 k v ((e k v).mpr s)⟩
theorem BestOf.put {S : α → List Od → Prop} {m : KV α} (h : BestOf S m) (k : α) (v : List Od) : BestOf (fun k' v' => S k' v' ∨ (k' = k ∧ v' = v)) (bestPut m k v) := by
  refine ⟨fun k' u e => ?_, fun k' v' s => ?_⟩
  · rw [look_best] at e
    by_cases hk : k' = k
    · rw [if_pos hk] at e
      have e := Option.some.inj e
      subst e hk
      cases e2 : look m k' with
      | none =>
        refine ⟨.inr ⟨rfl, rfl⟩, fun v' s => ?_⟩
        rcases s with s | ⟨_, rfl⟩
        · obtain ⟨u, z⟩ := h.2 _ _ s
          rw [e2] at z
          cases z
        · exact leO_refl _
      | some u =>
        obtain ⟨h1, h2⟩ := h.1 _ _ e2
        unfold best2
        dsimp only
        by_cases c : erl v u = true
        · rw [if_pos c]
          refine ⟨.inr ⟨rfl, rfl⟩, fun v' s => ?_⟩
          rcases s with s | ⟨_, rfl⟩
          · exact leO_trans (leO_of c) (h2 _ s)
          · exact leO_refl _
        · rw [if_neg c]
          refine ⟨.inl h1, fun v' s => ?_⟩
          rcases s with s | ⟨_, rfl⟩
          · exact h2 _ s
          · simpa [leO] using c
    · rw [if_neg hk] at e
      obtain ⟨h1, h2⟩ := h.1 _ _ e
      refine ⟨.inl h1, fun v' s => ?_⟩
      rcases s with s | ⟨z, _⟩
      · exact h2 _ s
      · exact absurd z hk
  · rw [look_best]
    by_cases hk : k' = k
    · exact ⟨_, if_pos hk⟩
    · rw [if_neg hk]
      rcases s with s | ⟨z, _⟩
      · exact h.2 _ _ s
      · exact absurd z hk
/-! ### as data -/
variable {e : α → D} (he : ∀ a b, keyEq (e a) (e b) = decide (a = b)) (f : β → D)
include he
end
end Lw
/-! Sp26: noted, onward. -/
namespace Lw
open PySem PySem.Spec PyProof.Rows L2 Dl
/-- no orders longer than n -/
def LenB {α : Type} (m : KV α) (n : Nat) : Prop := ∀ p ∈ m, p.2.length ≤ n
theorem LenB.set {α : Type} [DecidableEq α] {m : KV α} {n : Nat} (h : LenB m n) (k : α) {v : List Od} (hv : v.length ≤ n) : LenB (setK m k v) n := fun p hp => by
  unfold setK at hp
  split at hp
  · obtain ⟨q, hq, rfl⟩ := List.mem_map.mp hp
    split
    · exact hv
    · exact h q hq
  · rcases List.mem_append.mp hp with hp | hp
    · exact h p hp
    · rw [List.mem_singleton.mp hp]; exact hv
theorem LenB.put {α : Type} [DecidableEq α] {m : KV α} {n : Nat} (h : LenB m n) (k : α) {v : List Od} (hv : v.length ≤ n) : LenB (bestPut m k v) n := by
  unfold bestPut
  split
  · exact h.set k hv
  · split
    · exact h.set k hv
    · exact h
end Lw
/-! Sp27: onward. -/
/-! Sp28: ways. -/
/-! Sp29: ways by trying all. -/
namespace Lw
open PySem PySem.Spec PyProof.Rows L2 Dl
theorem beatenL_ok (p : Pr) (l : List Pr) (hz : l.length ≤ 100000) : runF 3 M_law_beaten [pqD p, .lst (l.map pqD)] = .ok (.bl (l.any fun q => decide (beat q p))) := by
  have n : ∀ q : Pr, gNe (.tup [.int q.1, .int q.2]) (.tup [.int p.1, .int p.2]) = some (.bl (!decide (q = p))) := fun q => by
    rw [gNe_E 1 1 rfl rfl (by decide) (by decide), ← dec_dec]
    congr 3
    simp only [D.tup.injEq, List.cons.injEq, D.int.injEq, and_true]
    exact congrArg dec (propext ⟨fun (h : q.1 = p.1 ∧ q.2 = p.2) => pr_ext h.1 h.2, fun h => by rw [h]; exact ⟨rfl, rfl⟩⟩)
  have c : dComp (dItems (dVar 1)) (gdName 2) (dC (.bl true)) (dAnd (dBin (gCmpI fun i j => decide (j ≤ i)) (dBin gIx (dVar 2) (dC (.int (0)))) (dBin gIx (dVar 0) (dC (.int (0))))) (dAnd (dBin (gCmpI fun i j => decide (j ≤ i)) (dBin gIx (dVar 2) (dC (.int (1)))) (dBin gIx (dVar 0) (dC (.int (1))))) (dBin gNe (dVar 2) (dVar 0)))) [2] [some (pqD p), some (.lst (l.map pqD)), none] = .ok (.lst ((l.map fun q => decide (beat q p)).map D.bl)) := by
    rw [dComp_map (h := fun q => D.bl (decide (beat q p))) (enc := pqD) l (by simp) (by omega), List.map_map]
    · rfl
    · intro q _
      refine ⟨_, rfl, rfl, ?_⟩
      simp [pqD, n]
      have dd : (decide (beat q p) = true) ↔ beat q p := decide_eq_true_iff
      rw [Bool.eq_iff_iff, dd]
      simp [beat]
  have a : (l.map fun q => decide (beat q p)).any id = l.any fun q => decide (beat q p) := by rw [List.any_map]; rfl
  rw [runF_eq]
  simp only [M_law_beaten, dSeq_eq, dRet_eq, dImm_eq, dBin_eq, dC_eq, bind_ok, List.map_cons, List.map_nil, List.length_cons, List.length_nil]
  simp [c, gIn_bls, ← a, -List.map_map, -List.any_map]
end Lw
/-! Sp30: _law_ways. -/
/-! Sp31: needs_from, needed. -/
namespace Lw
open PySem PySem.Spec PyProof.Rows L2 Dl
def addP (c p : Pr) : Pr := (p.1 + c.1, p.2 + c.2)
/-! ### the memo -/
end Lw
/-! Sp32: needs_from and its memo. -/
/-! Sp33: needed; what is needed is the least of all flights. -/
/-! Sp34: what is enough for a way. -/
/-! Sp35: how near one can come. -/
namespace Lw
open PySem PySem.Spec PyProof.Rows L2 Dl
def abI (i : Int) : Int := if i < 0 then -i else i
end Lw
/-! Sp36: where two can meet. -/
namespace Lw
open PySem PySem.Spec PyProof.Rows L2 Dl
def plF (q : St) : Pr := (q.1, q.2.1)
end Lw
/-! Sp37: with a sacks and b puffs more. -/
namespace Lw
open PySem PySem.Spec PyProof.Rows L2 Dl
def leAB (a b : Int) (q r : St) : Prop := spot q = spot r ∧ q.2.2.2.1 + a ≤ r.2.2.2.1 ∧ q.2.2.2.2 + b ≤ r.2.2.2.2
theorem leAB.trans {a b : Int} {q r t : St} (h : leAB a b q r) (h2 : Lw.leS r t) : leAB a b q t := ⟨h.1.trans h2.1, by have := h.2.1; have := h2.2.1; omega, by have := h.2.2; have := h2.2.2; omega⟩
end Lw
/-! Sp38: flights counted. -/
/-! Sp39: skies turned and moved. -/
namespace Lw
open PySem PySem.Spec PyProof.Rows L2 Dl
/-! ### skies turned and moved -/
def moveP (dx dy : Int) (p : Sp) : Sp := (p.1 + dx, p.2.1 + dy, p.2.2)
def moveH (dx dy : Int) (s : Sh) : Sh := ⟨s.a + dx, s.b + dy, s.c + dx, s.e + dy, s.f, s.g, s.h, s.i⟩
def moveS (dx dy : Int) (s : Sky) : Sky := ⟨s.hills.map (moveP dx dy), s.cools, s.winds, s.shuts.map (moveH dx dy)⟩
structure Sml (s : Sky) : Prop where
  hl : s.hills.length ≤ 1000
  cl : s.cools.length ≤ 1000
  wl : s.winds.length ≤ 1000
  sl : s.shuts.length ≤ 1000
theorem Sml.move {s : Sky} (h : Sml s) (dx dy : Int) : Sml (moveS dx dy s) := ⟨by simp [moveS, h.hl], h.cl, h.wl, by simp [moveS, h.sl]⟩
/-! ### the law -/
end Lw
/-! Sp40: what turns or moves with the sky. -/
namespace Lw
open PySem PySem.Spec PyProof.Rows L2 Dl
theorem unbF_nodup (l : List St) : (unbF l).Nodup := by
  unfold unbF
  rw [(srtF_perm tL _).nodup_iff]
  unfold leftF
  have h : ∀ ks : List Sp, ks.Nodup → (ks.flatMap fun k => (frontF (grpF l k)).map (mkS k)).Nodup := by
    intro ks
    induction ks with
    | nil => intro _; simp
    | cons k ks ih =>
      intro nd
      obtain ⟨n1, n2⟩ := List.nodup_cons.mp nd
      rw [List.flatMap_cons, List.nodup_append]
      refine ⟨?_, ih n2, fun a ha b hb e => ?_⟩
      · have f : (frontF (grpF l k)).Nodup := by
          unfold frontF
          exact (List.reverse_perm _).nodup_iff.mpr (front_nodup _ _).1
        have inj : ∀ a b : Pr, mkS k a = mkS k b → a = b := fun a b e => by
          have := congrArg pairF e
          exact this
        exact List.Pairwise.map (R := fun a b => a ≠ b) (mkS k) (fun a b ne e => ne (inj a b e)) f
      · subst e
        obtain ⟨p, _, e1⟩ := List.mem_map.mp ha
        obtain ⟨k2, hk2, h3⟩ := List.mem_flatMap.mp hb
        obtain ⟨p2, _, e2⟩ := List.mem_map.mp h3
        have : spot (mkS k p) = spot (mkS k2 p2) := by rw [e1, e2]
        have : k = k2 := this
        exact n1 (this ▸ hk2)
  exact h _ (keysF_nodup l)
theorem tableF_sorted (s : Sky) (h : Int) (p : St) : ∀ k, (tableF s h p k).Pairwise (leF tL) ∧ (tableF s h p k).Nodup
  | 0 => ⟨by simp [tableF], by simp [tableF]⟩
  | k + 1 => ⟨srtF_sorted tL tL_len _, unbF_nodup _⟩
/-- s' is s moved: places by mp, winds by lin -/
structure Motion (s s' : Sky) where
  mp : Pr → Pr
  lin : Pr → Pr
  inj : ∀ a b, mp a = mp b → a = b
  cools : s'.cools = s.cools
  wind : ∀ h l, windF s'.winds h l = lin (windF s.winds h l)
  add : ∀ a v : Pr, mp (a.1 + v.1, a.2 + v.2) = ((mp a).1 + (lin v).1, (mp a).2 + (lin v).2)
  ground : ∀ a : Pr, groundF s'.hills (mp a).1 (mp a).2 = groundF s.hills a.1 a.2
  shut : ∀ (h : Int) (a : Pr) (z : Int), shutF s'.shuts h (mp a).1 (mp a).2 z = shutF s.shuts h a.1 a.2 z
  dis : ∀ a b : Pr, abI ((mp a).1 - (mp b).1) + abI ((mp a).2 - (mp b).2) = abI (a.1 - b.1) + abI (a.2 - b.2)
section
variable {s s' : Sky} (M : Motion s s')
def Motion.st (q : St) : St := ((M.mp (plF q)).1, (M.mp (plF q)).2, q.2.2)
def Motion.sp (k : Sp) : Sp := ((M.mp (k.1, k.2.1)).1, (M.mp (k.1, k.2.1)).2, k.2.2)
theorem Motion.pl (q : St) : plF (M.st q) = M.mp (plF q) := rfl
theorem Motion.spot (q : St) : Lw.spot (M.st q) = M.sp (Lw.spot q) := rfl
theorem Motion.pos {q : St} : posS (M.st q) ↔ posS q := Iff.rfl
theorem Motion.st_inj {a b : St} (h : M.st a = M.st b) : a = b := by
  have h1 : plF (M.st a) = plF (M.st b) := congrArg plF h
  have h1 : M.mp (plF a) = M.mp (plF b) := h1
  have h2 : (M.st a).2.2 = (M.st b).2.2 := congrArg (fun t : St => t.2.2) h
  have h2 : a.2.2 = b.2.2 := h2
  have h3 := M.inj _ _ h1
  obtain ⟨a1, a2, a3⟩ := a
  obtain ⟨b1, b2, b3⟩ := b
  unfold plF at h3
  injection h3 with h4 h5
  simp only at h2 h4 h5
  rw [h2, h4, h5]
theorem Motion.sp_inj {a b : Sp} (h : M.sp a = M.sp b) : a = b := by
  have h1 : ((M.sp a).1, (M.sp a).2.1) = ((M.sp b).1, (M.sp b).2.1) := congrArg (fun t : Sp => (t.1, t.2.1)) h
  have h1 : M.mp (a.1, a.2.1) = M.mp (b.1, b.2.1) := h1
  have h2 : (M.sp a).2.2 = (M.sp b).2.2 := congrArg (fun t : Sp => t.2.2) h
  have h2 : a.2.2 = b.2.2 := h2
  have h3 := M.inj _ _ h1
  obtain ⟨a1, a2, a3⟩ := a
  obtain ⟨b1, b2, b3⟩ := b
  injection h3 with h4 h5
  simp only at h2 h4 h5
  rw [h2, h4, h5]
theorem Motion.led (h : Int) (p : St) (o : Od) : ledF s' h (M.st p) o = M.st (ledF s h p o) := by
  have z : zF s' h (p.2.2.1 + o.dz) = zF s h (p.2.2.1 + o.dz) := by unfold zF; rw [M.cools]
  have z' : zF s' h ((M.st p).2.2.1 + o.dz) = zF s h (p.2.2.1 + o.dz) := z
  have e := M.add (plF p) (windF s.winds h (zF s h (p.2.2.1 + o.dz)))
  have e1 : M.mp (plF (ledF s h p o)) = _ := e
  unfold Motion.st at *
  rw [e1]
  unfold ledF
  simp only [z, M.wind]
theorem Motion.held (p : St) (o : Od) : heldF (M.st p) o = heldF p o := rfl
theorem Motion.can (h : Int) (p : St) (o : Od) : canF s' h (M.st p) o = canF s h p o := by
  unfold canF whyF
  rw [M.held, M.led]
  have e : ∀ (hh : Int) (q : St), standF s' hh (M.st q).1 (M.st q).2.1 (M.st q).2.2.1 = standF s hh q.1 q.2.1 q.2.2.1 := fun hh q => by
    have g := M.ground (plF q)
    have k := M.shut hh (plF q) q.2.2.1
    unfold standF
    show (if q.2.2.1 < groundF s'.hills (M.mp (plF q)).1 (M.mp (plF q)).2 then _ else if shutF s'.shuts hh (M.mp (plF q)).1 (M.mp (plF q)).2 q.2.2.1 = true then _ else _) = _
    rw [g, k]
    rfl
  rw [e]
theorem Motion.from_ (h : Int) (p : St) : fromF s' h (M.st p) = (fromF s h p).map M.st := by
  unfold fromF
  rw [List.map_map]
  have : canF s' h (M.st p) = canF s h p := funext fun o => M.can h p o
  rw [this]
  exact List.map_congr_left fun o _ => M.led h p o
/-- the same states, moved -/
def Motion.As (l' l : List St) : Prop := ∀ q', q' ∈ l' ↔ ∃ q ∈ l, q' = M.st q
theorem Motion.As.mem {l' l : List St} (a : M.As l' l) {q : St} : M.st q ∈ l' ↔ q ∈ l := by
  constructor
  · intro h
    obtain ⟨q0, h0, e⟩ := (a _).mp h
    rw [M.st_inj e]
    exact h0
  · intro h
    exact (a _).mpr ⟨q, h, rfl⟩
theorem Motion.behind (h : Int) {l' l : List St} (a : M.As l' l) : M.As (behindF s' h l') (behindF s h l) := fun q' => by
  rw [behindF_mem]
  constructor
  · rintro ⟨p', hp, hq⟩
    obtain ⟨p, hp0, rfl⟩ := (a p').mp hp
    rw [M.from_] at hq
    obtain ⟨q, hq0, rfl⟩ := List.mem_map.mp hq
    exact ⟨q, (behindF_mem s h l q).mpr ⟨p, hp0, hq0⟩, rfl⟩
  · rintro ⟨q, hq, rfl⟩
    obtain ⟨p, hp, hq⟩ := (behindF_mem s h l q).mp hq
    exact ⟨M.st p, (a.mem).mpr hp, by rw [M.from_]; exact List.mem_map.mpr ⟨q, hq, rfl⟩⟩
theorem Motion.table {h : Int} {p : St} (hp : posS p) (k : Nat) : M.As (tableF s' h (M.st p) k) (tableF s h p k) := by
  induction k with
  | zero =>
    intro q'
    show q' ∈ [M.st p] ↔ ∃ q ∈ [p], q' = M.st q
    simp
  | succ k ih =>
    intro q'
    have a := M.behind (h + k) ih
    have c : ∀ {s : Sky} {p : St} (hp : posS p), ∀ q ∈ behindF s (h + k) (tableF s h p k), 0 ≤ q.2.2.2.2 := fun {s p} hp q hq => (statesF_pos hp (k + 1) q (behind_sub (table_states hp k).1 q hq)).2
    show q' ∈ unbF (behindF s' (h + k) (tableF s' h (M.st p) k)) ↔ ∃ q ∈ unbF (behindF s (h + k) (tableF s h p k)), q' = M.st q
    rw [unbF_mem (c (s := s') (M.pos.mpr hp))]
    constructor
    · rintro ⟨h1, h2⟩
      obtain ⟨q, hq, rfl⟩ := (a q').mp h1
      exact ⟨q, (unbF_mem (c hp) q).mpr ⟨hq, fun r hr e b => h2 (M.st r) (a.mem.mpr hr) (by rw [M.spot, M.spot, e]) b⟩, rfl⟩
    · rintro ⟨q, hq, rfl⟩
      obtain ⟨h1, h2⟩ := (unbF_mem (c hp) q).mp hq
      refine ⟨a.mem.mpr h1, fun r' hr e b => ?_⟩
      obtain ⟨r, hr0, rfl⟩ := (a r').mp hr
      rw [M.spot, M.spot] at e
      exact h2 r hr0 (M.sp_inj e) b
end
end Lw
/-! Sp41: skies turned and skies moved are motions. -/
/-! Sp42: what is possible, turned; facts that several laws of whole answers want. -/
namespace Lw
open PySem PySem.Spec PyProof.Rows L2 Dl
section
variable {s s' : Sky} (M : Motion s s') {ss' ss : List Si}
theorem Motion.fit (hF : ∀ (h : Int) (q : St), fitF ss' h (M.st q).1 (M.st q).2.1 (M.st q).2.2.1 = fitF ss h q.1 q.2.1 q.2.2.1) (h : Int) {l' l : List St} (a : M.As l' l) : M.As (fitL ss' h l') (fitL ss h l) := fun q' => by
  unfold fitL
  rw [List.mem_filter]
  constructor
  · rintro ⟨h1, h2⟩
    obtain ⟨q, hq, rfl⟩ := (a q').mp h1
    rw [hF] at h2
    exact ⟨q, List.mem_filter.mpr ⟨hq, h2⟩, rfl⟩
  · rintro ⟨q, hq, rfl⟩
    obtain ⟨h1, h2⟩ := List.mem_filter.mp hq
    exact ⟨a.mem.mpr h1, by rw [hF]; exact h2⟩
theorem Motion.fw (hF : ∀ (h : Int) (q : St), fitF ss' h (M.st q).1 (M.st q).2.1 (M.st q).2.2.1 = fitF ss h q.1 q.2.1 q.2.2.1) (h : Int) (p : St) (k : Nat) : M.As (fwF s' h (M.st p) ss' k) (fwF s h p ss k) := by
  induction k with
  | zero => exact M.fit hF h (l' := [M.st p]) (l := [p]) fun q' => by simp
  | succ k ih => exact M.fit hF _ (M.behind _ ih)
theorem Motion.bk (hF : ∀ (h : Int) (q : St), fitF ss' h (M.st q).1 (M.st q).2.1 (M.st q).2.2.1 = fitF ss h q.1 q.2.1 q.2.2.1) (h : Int) (p : St) (n j : Nat) : M.As (bkF s' h (M.st p) ss' n j) (bkF s h p ss n j) := by
  induction j with
  | zero => exact M.fw hF h p n
  | succ j ih =>
    have f := M.fw hF h p (n - (j + 1))
    intro q'
    show q' ∈ goingF s' _ (fwF s' h (M.st p) ss' (n - (j + 1))) (bkF s' h (M.st p) ss' n j) ↔ ∃ q ∈ goingF s _ (fwF s h p ss (n - (j + 1))) (bkF s h p ss n j), q' = M.st q
    unfold goingF
    rw [List.mem_filter]
    constructor
    · rintro ⟨h1, h2⟩
      obtain ⟨q, hq, rfl⟩ := (f q').mp h1
      obtain ⟨r', hr, hr2⟩ := (goesF_iff _ _ _ _).mp h2
      rw [M.from_] at hr2
      obtain ⟨r, hr3, rfl⟩ := List.mem_map.mp hr2
      exact ⟨q, List.mem_filter.mpr ⟨hq, (goesF_iff _ _ _ _).mpr ⟨r, ih.mem.mp hr, hr3⟩⟩, rfl⟩
    · rintro ⟨q, hq, rfl⟩
      obtain ⟨h1, h2⟩ := List.mem_filter.mp hq
      obtain ⟨r, hr, hr2⟩ := (goesF_iff _ _ _ _).mp h2
      exact ⟨f.mem.mpr h1, (goesF_iff _ _ _ _).mpr ⟨M.st r, ih.mem.mpr hr, by rw [M.from_]; exact List.mem_map.mpr ⟨r, hr2, rfl⟩⟩⟩
end
/-! ### sightings turned -/
/-! ### tables, ways -/
end Lw
/-! Sp43: two skies that agree up to an hour; a sky altered from an hour on. -/
namespace Lw
open PySem PySem.Spec PyProof.Rows L2 Dl
/-! ### two skies that agree before hour T -/
structure Agr (s s' : Sky) (T : Int) : Prop where
  led : ∀ h, h < T → ledF s' h = ledF s h
  can : ∀ h, h < T → canF s' h = canF s h
section
variable {s s' : Sky} {T : Int} (A : Agr s s' T) (h : Int) (p : St)
include A
theorem Agr.from_ {h : Int} (hh : h < T) : fromF s' h = fromF s h := by
  funext q
  unfold fromF
  rw [A.led h hh, A.can h hh]
theorem Agr.behind {h : Int} (hh : h < T) : behindF s' h = behindF s h := by
  funext l
  unfold behindF
  rw [A.from_ hh]
theorem Agr.table : ∀ k : Nat, h + k ≤ T → tableF s' h p k = tableF s h p k
  | 0, _ => rfl
  | k + 1, hk => by
    show unbF (behindF s' (h + k) (tableF s' h p k)) = unbF (behindF s (h + k) (tableF s h p k))
    rw [Agr.table k (by omega), A.behind (by omega)]
theorem Agr.tab (n : Nat) (hn : h + n ≤ T) : (List.range (n + 1)).map (tableF s' h p) = (List.range (n + 1)).map (tableF s h p) :=
  List.map_congr_left fun k hk => A.table h p k (by have := List.mem_range.mp hk; omega)
variable (ss : List Si)
theorem Agr.fw : ∀ k : Nat, h + k ≤ T → fwF s' h p ss k = fwF s h p ss k
  | 0, _ => rfl
  | k + 1, hk => by
    show fitL ss (h + k + 1) (behindF s' (h + k) (fwF s' h p ss k)) = fitL ss (h + k + 1) (behindF s (h + k) (fwF s h p ss k))
    rw [Agr.fw k (by omega), A.behind (by omega)]
theorem Agr.going {h : Int} (hh : h < T) : goingF s' h = goingF s h := by
  funext l later
  have e : goesF s' h = goesF s h := by
    funext later q
    unfold goesF
    rw [A.led h hh, A.can h hh]
  unfold goingF
  rw [e]
theorem Agr.bk (n : Nat) (hn : h + n ≤ T) : ∀ j : Nat, j ≤ n → bkF s' h p ss n j = bkF s h p ss n j
  | 0, _ => A.fw h p ss n hn
  | j + 1, hj => by
    show goingF s' (h + ((n - (j + 1) : Nat) : Int)) (fwF s' h p ss (n - (j + 1))) (bkF s' h p ss n j) = goingF s (h + ((n - (j + 1) : Nat) : Int)) (fwF s h p ss (n - (j + 1))) (bkF s h p ss n j)
    rw [Agr.bk n hn j (by omega), A.fw h p ss (n - (j + 1)) (by omega), A.going (by omega)]
end
/-! ### what is drawn in from hour T on -/
end Lw
namespace Lw
open PySem PySem.Spec PyProof.Rows L2 Dl
/-! ### the text of the law: its defs by their places, and their meanings -/
def topS (i : Nat) : Stmt := PySem.Challenge.pw_ballastbook_k18_whole_tables_are_closed.main.body.getD i (.Pass ⟨0, 0, 0, 0⟩)
def blts : List Str := ["all", "any", "bool", "int", "isinstance", "len", "list", "max", "min", "range", "reversed", "sorted", "tuple", "zip"]
def cons : List (Str × D) := [(("TOP" : Str), .int (5)), (("ORDERS" : Str), (.ktp [.str ("up" : Str), .str ("level" : Str), .str ("down" : Str)]))]
abbrev s_law_numbers : Stmt := topS 27
abbrev s_law_base : Stmt := topS 29
abbrev s_law_box : Stmt := topS 30
abbrev s_law_sky : Stmt := topS 31
abbrev s_law_state : Stmt := topS 32
abbrev s_law_case : Stmt := topS 42
abbrev s_front : Stmt := topS 1
abbrev s_unbeaten : Stmt := topS 24
abbrev s_held_back : Stmt := topS 17
abbrev s_inside : Stmt := topS 4
abbrev s_shut_at : Stmt := topS 8
abbrev s_ground_at : Stmt := topS 6
abbrev s_standing : Stmt := topS 9
abbrev s_wind_at : Stmt := topS 14
abbrev s_led_to : Stmt := topS 18
abbrev s_why_not : Stmt := topS 19
abbrev s_choices : Stmt := topS 21
abbrev s_next_state : Stmt := topS 20
abbrev s_behind : Stmt := topS 23
abbrev s_table : Stmt := topS 25
abbrev s_law_copy : Stmt := topS 41
abbrev s_law_spots : Stmt := topS 43
abbrev s_law_same : Stmt := topS 28
abbrev s_law_plain : Stmt := topS 45
abbrev s_law_in : Stmt := topS 35
abbrev s_law_shut : Stmt := topS 36
abbrev s_law_ground : Stmt := topS 34
abbrev s_law_stand : Stmt := topS 37
abbrev s_law_wind : Stmt := topS 33
abbrev s_law_led : Stmt := topS 38
abbrev s_law_why : Stmt := topS 39
abbrev s_law_link : Stmt := topS 44
abbrev s_law_beaten : Stmt := topS 40
abbrev s_law : Stmt := topS 46
def xs : List XEnt := []
def defs : List (Str × Stmt) := [(("_law_numbers" : Str), s_law_numbers), (("_law_base" : Str), s_law_base), (("_law_box" : Str), s_law_box), (("_law_sky" : Str), s_law_sky), (("_law_state" : Str), s_law_state), (("_law_case" : Str), s_law_case), (("front" : Str), s_front), (("unbeaten" : Str), s_unbeaten), (("held_back" : Str), s_held_back), (("inside" : Str), s_inside), (("shut_at" : Str), s_shut_at), (("ground_at" : Str), s_ground_at), (("standing" : Str), s_standing), (("wind_at" : Str), s_wind_at), (("led_to" : Str), s_led_to), (("why_not" : Str), s_why_not), (("choices" : Str), s_choices), (("next_state" : Str), s_next_state), (("behind" : Str), s_behind), (("table" : Str), s_table), (("_law_copy" : Str), s_law_copy), (("_law_spots" : Str), s_law_spots), (("_law_same" : Str), s_law_same), (("_law_plain" : Str), s_law_plain), (("_law_in" : Str), s_law_in), (("_law_shut" : Str), s_law_shut), (("_law_ground" : Str), s_law_ground), (("_law_stand" : Str), s_law_stand), (("_law_wind" : Str), s_law_wind), (("_law_led" : Str), s_law_led), (("_law_why" : Str), s_law_why), (("_law_link" : Str), s_law_link), (("_law_beaten" : Str), s_law_beaten), (("law" : Str), s_law)]
def M_x_law_l1 (c0 : DF') (c1 : DF') (c2 : DF') (c3 : DF') (c4 : DF') (c5 : DF') (c6 : DF') (c7 : DF') (c8 : DF') (c9 : DF') : DS := (dSeq (dIfS (dCallO gAny (dCons (dComp (dItems (dBin gIx (dVar 9) (dVar 10))) (gdName 12) (dC (.bl true)) (dCall c1 (dCons (dVar 12) (dCons (dBin gIx (dVar 9) (dVar 10)) dNil))) [12]) dNil)) (dSeq (dRet (dImm (dC (.bl false)))) dNext) dNext) dNext)
def M_x_law_l2 (c0 : DF') (c1 : DF') (c2 : DF') (c3 : DF') (c4 : DF') (c5 : DF') (c6 : DF') (c7 : DF') (c8 : DF') (c9 : DF') : DS := (dSeq (dIfS (dNot (dCall c3 (dCons (dVar 8) dNil))) (dSeq (dRet (dImm (dC (.bl false)))) dNext) dNext) (dSeq (dSet 9 (dCallA c2 (dCons (dVar 8) dNil))) (dSeq (dForK 9 (gdName 10) (M_x_law_l1 c0 c1 c2 c3 c4 c5 c6 c7 c8 c9) [10]) (dSeq (dIfS (dNot (dCallO gAll (dCons (dComp (dRange1 (dBin gSubI (dCallO gLen (dCons (dVar 8) dNil)) (dC (.int (1))))) (gdName 13) (dC (.bl true)) (dBin gLt (dBin gIx (dVar 8) (dVar 13)) (dBin gIx (dVar 8) (dBin gAdd (dVar 13) (dC (.int (1)))))) [13]) dNil))) (dSeq (dRet (dImm (dC (.bl false)))) dNext) dNext) dNext))))
def M_x_law (c0 : DF') (c1 : DF') (c2 : DF') (c3 : DF') (c4 : DF') (c5 : DF') (c6 : DF') (c7 : DF') (c8 : DF') (c9 : DF') : DS := (dSeq (dSet 1 (dCall c9 (dCons (dVar 0) (dCons (dC (.int (140))) dNil)))) (dSeq (dUnp (gdTup 5 (gdCons (gdName 2) (gdCons (gdName 3) (gdCons (gdName 4) (gdCons (gdName 5) (gdCons (gdName 6) gdNil)))))) (dCall c8 (dCons (dVar 1) dNil))) (dSeq (dIfS (dBin gEq (dBin gModI (dBin gIx (dVar 1) (dC (.int (8)))) (dC (.int (4)))) (dC (.int (1)))) (dSeq (dSet 4 (dCallO gMin (dCons (dC (.int (6))) (dCons (dBin gSubI (dC (.int (24))) (dVar 3)) dNil)))) (dSeq (dSet 6 (dCall c7 (dCons (dSl (dVar 1) (dPart (dC (.int (130)))) (dPart (dC (.int (136))))) (dCons (dVar 2) (dCons (dC (.int (6))) dNil))))) dNext)) dNext) (dSeq (dSet 7 (dCall c6 (dCons (dCall c5 (dCons (dVar 5) dNil)) (dCons (dVar 3) (dCons (dVar 6) (dCons (dVar 4) dNil)))))) (dSeq (dIfS (dOr (dNot (dIsT .list (dVar 7))) (dOr (dBin gNe (dCallO gLen (dCons (dVar 7) dNil)) (dBin gAdd (dVar 4) (dC (.int (1))))) (dNot (dCall c4 (dCons (dBin gIx (dVar 7) (dC (.int (0)))) (dCons (dLst (dCons (dVar 6) dNil)) dNil)))))) (dSeq (dRet (dImm (dC (.bl false)))) dNext) dNext) (dSeq (dFor (dItems (dVar 7)) (gdName 8) (M_x_law_l2 c0 c1 c2 c3 c4 c5 c6 c7 c8 c9) [8, 9, 10]) (dSeq (dRet (dImm (dCallO gAll (dCons (dComp (dRange1 (dVar 4)) (gdName 11) (dC (.bl true)) (dCall c0 (dCons (dVar 5) (dCons (dBin gAdd (dVar 3) (dVar 11)) (dCons (dBin gIx (dVar 7) (dVar 11)) (dCons (dBin gIx (dVar 7) (dBin gAdd (dVar 11) (dC (.int (1))))) dNil))))) [11]) dNil)))) dNext)))))))
section
variable {P : Program} {w : World} {K : PySem.W.Frag} {mg : Str → Option Value} {base : Heap}
def d_law_numbers : DefC := { name := ("_law_numbers" : Str), N := ["_law_script", "_law_many", "_law_row", "_law_seed", "_law_cell", "_law_rest", "_law_k"], ps := ["_law_script", "_law_many"], md := [⟨false, false, 0⟩, ⟨false, false, 0⟩, ⟨true, true, 0⟩, ⟨false, false, 0⟩, ⟨false, false, 0⟩, ⟨false, false, 0⟩, ⟨false, false, 0⟩], fr := true, kl := fun l => (([(124, [4, 5, 6]), (129, [6]), (133, [6])] : List (Nat × List Nat)).lookup l).getD [], pl := fun l => ([] : List Nat).contains l, dt := true, exs := [] }
theorem bq_law_numbers : BindsEq s_law_numbers d_law_numbers.name d_law_numbers.ps := fun _ _ _ _ _ _ us hl => match us, hl with | [_, _], _ => rfl
theorem hq_law_numbers : headOk d_law_numbers s_law_numbers = true := by kernel_rfl
noncomputable def r_law_numbers := readDef 24 12 d_law_numbers s_law_numbers 0 blts [] cons
theorem k_law_numbers : r_law_numbers.isSome = true := by kernel_rfl
noncomputable def b_law_numbers := r_law_numbers.get k_law_numbers
noncomputable def e_law_numbers : FEnt := d_law_numbers.ent b_law_numbers.f
theorem q_law_numbers : e_law_numbers.den = runF 7 (M_law_numbers) := by kernel_rfl
theorem h_law_numbers (T : Mods defs blts cons xs w K mg base) : HasF P w K mg base 1 e_law_numbers := has_of T (i := 0) rfl bq_law_numbers hq_law_numbers (fns_nil) (exs_nil) b_law_numbers
def d_law_base : DefC := { name := ("_law_base" : Str), N := ["_law_d"], ps := ["_law_d"], md := [⟨false, false, 0⟩], fr := true, kl := fun l => (([] : List (Nat × List Nat)).lookup l).getD [], pl := fun l => ([] : List Nat).contains l, dt := true, exs := [] }
theorem bq_law_base : BindsEq s_law_base d_law_base.name d_law_base.ps := fun _ _ _ _ _ _ us hl => match us, hl with | [_], _ => rfl
theorem hq_law_base : headOk d_law_base s_law_base = true := by kernel_rfl
noncomputable def r_law_base := readDef 24 12 d_law_base s_law_base 0 blts [] cons
theorem k_law_base : r_law_base.isSome = true := by kernel_rfl
noncomputable def b_law_base := r_law_base.get k_law_base
noncomputable def e_law_base : FEnt := d_law_base.ent b_law_base.f
theorem q_law_base : e_law_base.den = runF 1 (M_law_base) := by kernel_rfl
theorem h_law_base (T : Mods defs blts cons xs w K mg base) : HasF P w K mg base 1 e_law_base := has_of T (i := 1) rfl bq_law_base hq_law_base (fns_nil) (exs_nil) b_law_base
def d_law_box : DefC := { name := ("_law_box" : Str), N := ["_law_d", "_law_base_here", "_law_x", "_law_y", "_law_low"], ps := ["_law_d", "_law_base_here"], md := [⟨false, false, 0⟩, ⟨false, false, 0⟩, ⟨false, false, 0⟩, ⟨false, false, 0⟩, ⟨false, false, 0⟩], fr := true, kl := fun l => (([] : List (Nat × List Nat)).lookup l).getD [], pl := fun l => ([] : List Nat).contains l, dt := true, exs := [] }
theorem bq_law_box : BindsEq s_law_box d_law_box.name d_law_box.ps := fun _ _ _ _ _ _ us hl => match us, hl with | [_, _], _ => rfl
theorem hq_law_box : headOk d_law_box s_law_box = true := by kernel_rfl
noncomputable def r_law_box := readDef 24 12 d_law_box s_law_box 0 blts [] cons
theorem k_law_box : r_law_box.isSome = true := by kernel_rfl
noncomputable def b_law_box := r_law_box.get k_law_box
noncomputable def e_law_box : FEnt := d_law_box.ent b_law_box.f
theorem q_law_box : e_law_box.den = runF 5 (M_law_box) := by kernel_rfl
theorem h_law_box (T : Mods defs blts cons xs w K mg base) : HasF P w K mg base 1 e_law_box := has_of T (i := 2) rfl bq_law_box hq_law_box (fns_nil) (exs_nil) b_law_box
def d_law_sky : DefC := { name := ("_law_sky" : Str), N := ["_law_d", "_law_base_here", "_law_hour", "_law_hills", "_law_j", "_law_cool", "_law_one", "_law_winds", "_law_w", "_law_first", "_law_shuts", "_law_s", "_law_level"], ps := ["_law_d", "_law_base_here", "_law_hour"], md := [⟨false, false, 0⟩, ⟨false, false, 0⟩, ⟨false, false, 0⟩, ⟨true, true, 0⟩, ⟨false, false, 0⟩, ⟨true, true, 0⟩, ⟨false, false, 0⟩, ⟨true, true, 0⟩, ⟨false, false, 0⟩, ⟨false, false, 0⟩, ⟨true, true, 0⟩, ⟨false, false, 0⟩, ⟨false, false, 0⟩], fr := true, kl := fun l => (([(161, [4]), (164, [4, 6]), (171, [4, 8, 9]), (176, [4, 11, 9])] : List (Nat × List Nat)).lookup l).getD [], pl := fun l => ([] : List Nat).contains l, dt := true, exs := [] }
theorem bq_law_sky : BindsEq s_law_sky d_law_sky.name d_law_sky.ps := fun _ _ _ _ _ _ us hl => match us, hl with | [_, _, _], _ => rfl
theorem hq_law_sky : headOk d_law_sky s_law_sky = true := by kernel_rfl
noncomputable def r_law_sky := readDef 24 12 d_law_sky s_law_sky 1 blts [e_law_box] cons
theorem k_law_sky : r_law_sky.isSome = true := by kernel_rfl
noncomputable def b_law_sky := r_law_sky.get k_law_sky
noncomputable def e_law_sky : FEnt := d_law_sky.ent b_law_sky.f
theorem q_law_sky : e_law_sky.den = runF 13 (M_law_sky e_law_box.den) := by kernel_rfl
theorem h_law_sky (T : Mods defs blts cons xs w K mg base) : HasF P w K mg base 2 e_law_sky := has_of T (i := 3) rfl bq_law_sky hq_law_sky (fns_cons (h_law_box T) (by decide) (fns_nil)) (exs_nil) b_law_sky
def d_law_state : DefC := { name := ("_law_state" : Str), N := ["_law_d", "_law_base_here", "_law_most", "_law_x", "_law_y"], ps := ["_law_d", "_law_base_here", "_law_most"], md := [⟨false, false, 0⟩, ⟨false, false, 0⟩, ⟨false, false, 0⟩, ⟨false, false, 0⟩, ⟨false, false, 0⟩], fr := true, kl := fun l => (([] : List (Nat × List Nat)).lookup l).getD [], pl := fun l => ([] : List Nat).contains l, dt := true, exs := [] }
theorem bq_law_state : BindsEq s_law_state d_law_state.name d_law_state.ps := fun _ _ _ _ _ _ us hl => match us, hl with | [_, _, _], _ => rfl
theorem hq_law_state : headOk d_law_state s_law_state = true := by kernel_rfl
noncomputable def r_law_state := readDef 24 12 d_law_state s_law_state 0 blts [] cons
theorem k_law_state : r_law_state.isSome = true := by kernel_rfl
noncomputable def b_law_state := r_law_state.get k_law_state
noncomputable def e_law_state : FEnt := d_law_state.ent b_law_state.f
theorem q_law_state : e_law_state.den = runF 5 (M_law_state) := by kernel_rfl
theorem h_law_state (T : Mods defs blts cons xs w K mg base) : HasF P w K mg base 1 e_law_state := has_of T (i := 4) rfl bq_law_state hq_law_state (fns_nil) (exs_nil) b_law_state
def d_law_case : DefC := { name := ("_law_case" : Str), N := ["_law_numbers_here", "_law_base_here", "_law_many", "_law_left", "_law_hour", "_law_sky_here", "_law_state_here"], ps := ["_law_numbers_here"], md := [⟨false, false, 0⟩, ⟨false, true, 0⟩, ⟨false, false, 0⟩, ⟨false, false, 0⟩, ⟨false, false, 0⟩, ⟨false, true, 0⟩, ⟨false, false, 0⟩], fr := true, kl := fun l => (([] : List (Nat × List Nat)).lookup l).getD [], pl := fun l => ([] : List Nat).contains l, dt := true, exs := [] }
theorem bq_law_case : BindsEq s_law_case d_law_case.name d_law_case.ps := fun _ _ _ _ _ _ us hl => match us, hl with | [_], _ => rfl
theorem hq_law_case : headOk d_law_case s_law_case = true := by kernel_rfl
noncomputable def r_law_case := readDef 24 12 d_law_case s_law_case 2 blts [e_law_base, e_law_sky, e_law_state] cons
theorem k_law_case : r_law_case.isSome = true := by kernel_rfl
noncomputable def b_law_case := r_law_case.get k_law_case
noncomputable def e_law_case : FEnt := d_law_case.ent b_law_case.f
theorem q_law_case : e_law_case.den = runF 7 (M_law_case e_law_state.den e_law_sky.den e_law_base.den) := by kernel_rfl
theorem h_law_case (T : Mods defs blts cons xs w K mg base) : HasF P w K mg base 3 e_law_case := has_of T (i := 5) rfl bq_law_case hq_law_case (fns_cons (h_law_base T) (by decide) (fns_cons (h_law_sky T) (by decide) (fns_cons (h_law_state T) (by decide) (fns_nil)))) (exs_nil) b_law_case
def d_front : DefC := { name := ("front" : Str), N := ["pairs", "found", "most", "sacks", "puffs"], ps := ["pairs"], md := [⟨false, false, 0⟩, ⟨true, true, 0⟩, ⟨false, false, 0⟩, ⟨false, false, 0⟩, ⟨false, false, 0⟩], fr := true, kl := fun l => (([(5, [3, 4])] : List (Nat × List Nat)).lookup l).getD [], pl := fun l => ([] : List Nat).contains l, dt := true, exs := [] }
theorem bq_front : BindsEq s_front d_front.name d_front.ps := fun _ _ _ _ _ _ us hl => match us, hl with | [_], _ => rfl
theorem hq_front : headOk d_front s_front = true := by kernel_rfl
noncomputable def r_front := readDef 24 12 d_front s_front 0 blts [] cons
theorem k_front : r_front.isSome = true := by kernel_rfl
noncomputable def b_front := r_front.get k_front
noncomputable def e_front : FEnt := d_front.ent b_front.f
theorem q_front : e_front.den = runF 5 (M_front) := by kernel_rfl
theorem h_front (T : Mods defs blts cons xs w K mg base) : HasF P w K mg base 1 e_front := has_of T (i := 6) rfl bq_front hq_front (fns_nil) (exs_nil) b_front
def d_unbeaten : DefC := { name := ("unbeaten" : Str), N := ["some", "left", "x", "y", "height", "sacks", "puffs", "spot", "found"], ps := ["some"], md := [⟨false, false, 0⟩, ⟨false, false, 2⟩, ⟨false, false, 0⟩, ⟨false, false, 0⟩, ⟨false, false, 0⟩, ⟨false, false, 0⟩, ⟨false, false, 0⟩, ⟨false, false, 0⟩, ⟨true, true, 0⟩], fr := true, kl := fun l => (([(105, [2, 3, 4, 5, 6, 7]), (111, [2, 3, 4, 5, 6]), (112, [5, 6])] : List (Nat × List Nat)).lookup l).getD [], pl := fun l => ([111] : List Nat).contains l, dt := true, exs := [] }
theorem bq_unbeaten : BindsEq s_unbeaten d_unbeaten.name d_unbeaten.ps := fun _ _ _ _ _ _ us hl => match us, hl with | [_], _ => rfl
theorem hq_unbeaten : headOk d_unbeaten s_unbeaten = true := by kernel_rfl
noncomputable def r_unbeaten := readDef 24 12 d_unbeaten s_unbeaten 1 blts [e_front] cons
theorem k_unbeaten : r_unbeaten.isSome = true := by kernel_rfl
noncomputable def b_unbeaten := r_unbeaten.get k_unbeaten
noncomputable def e_unbeaten : FEnt := d_unbeaten.ent b_unbeaten.f
theorem q_unbeaten : e_unbeaten.den = runF 9 (M_unbeaten e_front.den) := by kernel_rfl
theorem h_unbeaten (T : Mods defs blts cons xs w K mg base) : HasF P w K mg base 2 e_unbeaten := has_of T (i := 7) rfl bq_unbeaten hq_unbeaten (fns_cons (h_front T) (by decide) (fns_nil)) (exs_nil) b_unbeaten
def d_held_back : DefC := { name := ("held_back" : Str), N := ["state", "order"], ps := ["state", "order"], md := [⟨false, false, 0⟩, ⟨false, false, 0⟩], fr := true, kl := fun l => (([] : List (Nat × List Nat)).lookup l).getD [], pl := fun l => ([63, 65, 67, 69, 70] : List Nat).contains l, dt := true, exs := [] }
theorem bq_held_back : BindsEq s_held_back d_held_back.name d_held_back.ps := fun _ _ _ _ _ _ us hl => match us, hl with | [_, _], _ => rfl
theorem hq_held_back : headOk d_held_back s_held_back = true := by kernel_rfl
noncomputable def r_held_back := readDef 24 12 d_held_back s_held_back 0 blts [] cons
theorem k_held_back : r_held_back.isSome = true := by kernel_rfl
noncomputable def b_held_back := r_held_back.get k_held_back
noncomputable def e_held_back : FEnt := d_held_back.ent b_held_back.f
theorem q_held_back : e_held_back.den = runF 2 (M_held_back) := by kernel_rfl
theorem h_held_back (T : Mods defs blts cons xs w K mg base) : HasF P w K mg base 1 e_held_back := has_of T (i := 8) rfl bq_held_back hq_held_back (fns_nil) (exs_nil) b_held_back
def d_inside : DefC := { name := ("inside" : Str), N := ["box", "x", "y", "height", "x1", "y1", "x2", "y2", "low", "high"], ps := ["box", "x", "y", "height"], md := [⟨false, false, 0⟩, ⟨false, false, 0⟩, ⟨false, false, 0⟩, ⟨false, false, 0⟩, ⟨false, false, 0⟩, ⟨false, false, 0⟩, ⟨false, false, 0⟩, ⟨false, false, 0⟩, ⟨false, false, 0⟩, ⟨false, false, 0⟩], fr := true, kl := fun l => (([] : List (Nat × List Nat)).lookup l).getD [], pl := fun l => ([15, 17, 18] : List Nat).contains l, dt := true, exs := [] }
theorem bq_inside : BindsEq s_inside d_inside.name d_inside.ps := fun _ _ _ _ _ _ us hl => match us, hl with | [_, _, _, _], _ => rfl
theorem hq_inside : headOk d_inside s_inside = true := by kernel_rfl
noncomputable def r_inside := readDef 24 12 d_inside s_inside 0 blts [] cons
theorem k_inside : r_inside.isSome = true := by kernel_rfl
noncomputable def b_inside := r_inside.get k_inside
noncomputable def e_inside : FEnt := d_inside.ent b_inside.f
theorem q_inside : e_inside.den = runF 10 (M_inside) := by kernel_rfl
theorem h_inside (T : Mods defs blts cons xs w K mg base) : HasF P w K mg base 1 e_inside := has_of T (i := 9) rfl bq_inside hq_inside (fns_nil) (exs_nil) b_inside
def d_shut_at : DefC := { name := ("shut_at" : Str), N := ["shuts", "hour", "x", "y", "height", "x1", "y1", "x2", "y2", "low", "high", "first", "last"], ps := ["shuts", "hour", "x", "y", "height"], md := [⟨false, false, 0⟩, ⟨false, false, 0⟩, ⟨false, false, 0⟩, ⟨false, false, 0⟩, ⟨false, false, 0⟩, ⟨false, false, 0⟩, ⟨false, false, 0⟩, ⟨false, false, 0⟩, ⟨false, false, 0⟩, ⟨false, false, 0⟩, ⟨false, false, 0⟩, ⟨false, false, 0⟩, ⟨false, false, 0⟩], fr := true, kl := fun l => (([(28, [5, 6, 7, 8, 9, 10, 11, 12])] : List (Nat × List Nat)).lookup l).getD [], pl := fun l => ([30, 31] : List Nat).contains l, dt := true, exs := [] }
theorem bq_shut_at : BindsEq s_shut_at d_shut_at.name d_shut_at.ps := fun _ _ _ _ _ _ us hl => match us, hl with | [_, _, _, _, _], _ => rfl
theorem hq_shut_at : headOk d_shut_at s_shut_at = true := by kernel_rfl
noncomputable def r_shut_at := readDef 24 12 d_shut_at s_shut_at 1 blts [e_inside] cons
theorem k_shut_at : r_shut_at.isSome = true := by kernel_rfl
noncomputable def b_shut_at := r_shut_at.get k_shut_at
noncomputable def e_shut_at : FEnt := d_shut_at.ent b_shut_at.f
theorem q_shut_at : e_shut_at.den = runF 13 (M_shut_at e_inside.den) := by kernel_rfl
theorem h_shut_at (T : Mods defs blts cons xs w K mg base) : HasF P w K mg base 2 e_shut_at := has_of T (i := 10) rfl bq_shut_at hq_shut_at (fns_cons (h_inside T) (by decide) (fns_nil)) (exs_nil) b_shut_at
def d_ground_at : DefC := { name := ("ground_at" : Str), N := ["hills", "x", "y", "found", "hill_x", "hill_y", "top"], ps := ["hills", "x", "y"], md := [⟨false, false, 0⟩, ⟨false, false, 0⟩, ⟨false, false, 0⟩, ⟨false, false, 0⟩, ⟨false, false, 0⟩, ⟨false, false, 0⟩, ⟨false, false, 0⟩], fr := true, kl := fun l => (([(22, [4, 5, 6])] : List (Nat × List Nat)).lookup l).getD [], pl := fun l => ([] : List Nat).contains l, dt := true, exs := [] }
theorem bq_ground_at : BindsEq s_ground_at d_ground_at.name d_ground_at.ps := fun _ _ _ _ _ _ us hl => match us, hl with | [_, _, _], _ => rfl
theorem hq_ground_at : headOk d_ground_at s_ground_at = true := by kernel_rfl
noncomputable def r_ground_at := readDef 24 12 d_ground_at s_ground_at 0 blts [] cons
theorem k_ground_at : r_ground_at.isSome = true := by kernel_rfl
noncomputable def b_ground_at := r_ground_at.get k_ground_at
noncomputable def e_ground_at : FEnt := d_ground_at.ent b_ground_at.f
theorem q_ground_at : e_ground_at.den = runF 7 (M_ground_at) := by kernel_rfl
theorem h_ground_at (T : Mods defs blts cons xs w K mg base) : HasF P w K mg base 1 e_ground_at := has_of T (i := 11) rfl bq_ground_at hq_ground_at (fns_nil) (exs_nil) b_ground_at
def d_standing : DefC := { name := ("standing" : Str), N := ["sky", "hour", "state", "hills", "cool", "winds", "shuts"], ps := ["sky", "hour", "state"], md := [⟨false, false, 0⟩, ⟨false, false, 0⟩, ⟨false, false, 0⟩, ⟨false, false, 0⟩, ⟨false, false, 0⟩, ⟨false, false, 0⟩, ⟨false, false, 0⟩], fr := true, kl := fun l => (([] : List (Nat × List Nat)).lookup l).getD [], pl := fun l => ([35, 37, 38] : List Nat).contains l, dt := true, exs := [] }
theorem bq_standing : BindsEq s_standing d_standing.name d_standing.ps := fun _ _ _ _ _ _ us hl => match us, hl with | [_, _, _], _ => rfl
theorem hq_standing : headOk d_standing s_standing = true := by kernel_rfl
noncomputable def r_standing := readDef 24 12 d_standing s_standing 2 blts [e_shut_at, e_ground_at] cons
theorem k_standing : r_standing.isSome = true := by kernel_rfl
noncomputable def b_standing := r_standing.get k_standing
noncomputable def e_standing : FEnt := d_standing.ent b_standing.f
theorem q_standing : e_standing.den = runF 7 (M_standing e_shut_at.den e_ground_at.den) := by kernel_rfl
theorem h_standing (T : Mods defs blts cons xs w K mg base) : HasF P w K mg base 3 e_standing := has_of T (i := 12) rfl bq_standing hq_standing (fns_cons (h_shut_at T) (by decide) (fns_cons (h_ground_at T) (by decide) (fns_nil))) (exs_nil) b_standing
def d_wind_at : DefC := { name := ("wind_at" : Str), N := ["winds", "hour", "height", "found", "latest", "first", "level", "dx", "dy"], ps := ["winds", "hour", "height"], md := [⟨false, false, 0⟩, ⟨false, false, 0⟩, ⟨false, false, 0⟩, ⟨false, false, 0⟩, ⟨false, false, 0⟩, ⟨false, false, 0⟩, ⟨false, false, 0⟩, ⟨false, false, 0⟩, ⟨false, false, 0⟩], fr := true, kl := fun l => (([(54, [5, 6, 7, 8])] : List (Nat × List Nat)).lookup l).getD [], pl := fun l => ([] : List Nat).contains l, dt := true, exs := [] }
theorem bq_wind_at : BindsEq s_wind_at d_wind_at.name d_wind_at.ps := fun _ _ _ _ _ _ us hl => match us, hl with | [_, _, _], _ => rfl
theorem hq_wind_at : headOk d_wind_at s_wind_at = true := by kernel_rfl
noncomputable def r_wind_at := readDef 24 12 d_wind_at s_wind_at 0 blts [] cons
theorem k_wind_at : r_wind_at.isSome = true := by kernel_rfl
noncomputable def b_wind_at := r_wind_at.get k_wind_at
noncomputable def e_wind_at : FEnt := d_wind_at.ent b_wind_at.f
theorem q_wind_at : e_wind_at.den = runF 9 (M_wind_at) := by kernel_rfl
theorem h_wind_at (T : Mods defs blts cons xs w K mg base) : HasF P w K mg base 1 e_wind_at := has_of T (i := 13) rfl bq_wind_at hq_wind_at (fns_nil) (exs_nil) b_wind_at
def d_led_to : DefC := { name := ("led_to" : Str), N := ["sky", "hour", "state", "order", "hills", "cool", "winds", "shuts", "x", "y", "height", "sacks", "puffs", "dx", "dy"], ps := ["sky", "hour", "state", "order"], md := [⟨false, false, 0⟩, ⟨false, false, 0⟩, ⟨false, false, 0⟩, ⟨false, false, 0⟩, ⟨false, false, 0⟩, ⟨false, false, 0⟩, ⟨false, false, 0⟩, ⟨false, false, 0⟩, ⟨false, false, 0⟩, ⟨false, false, 0⟩, ⟨false, false, 0⟩, ⟨false, false, 0⟩, ⟨false, false, 0⟩, ⟨false, false, 0⟩, ⟨false, false, 0⟩], fr := true, kl := fun l => (([] : List (Nat × List Nat)).lookup l).getD [], pl := fun l => ([] : List Nat).contains l, dt := true, exs := [] }
theorem bq_led_to : BindsEq s_led_to d_led_to.name d_led_to.ps := fun _ _ _ _ _ _ us hl => match us, hl with | [_, _, _, _], _ => rfl
theorem hq_led_to : headOk d_led_to s_led_to = true := by kernel_rfl
noncomputable def r_led_to := readDef 24 12 d_led_to s_led_to 1 blts [e_wind_at] cons
theorem k_led_to : r_led_to.isSome = true := by kernel_rfl
noncomputable def b_led_to := r_led_to.get k_led_to
noncomputable def e_led_to : FEnt := d_led_to.ent b_led_to.f
theorem q_led_to : e_led_to.den = runF 15 (M_led_to e_wind_at.den) := by kernel_rfl
theorem h_led_to (T : Mods defs blts cons xs w K mg base) : HasF P w K mg base 2 e_led_to := has_of T (i := 14) rfl bq_led_to hq_led_to (fns_cons (h_wind_at T) (by decide) (fns_nil)) (exs_nil) b_led_to
def d_why_not : DefC := { name := ("why_not" : Str), N := ["sky", "hour", "state", "order", "found"], ps := ["sky", "hour", "state", "order"], md := [⟨false, false, 0⟩, ⟨false, false, 0⟩, ⟨false, false, 0⟩, ⟨false, false, 0⟩, ⟨false, true, 0⟩], fr := true, kl := fun l => (([] : List (Nat × List Nat)).lookup l).getD [], pl := fun l => ([88] : List Nat).contains l, dt := true, exs := [] }
theorem bq_why_not : BindsEq s_why_not d_why_not.name d_why_not.ps := fun _ _ _ _ _ _ us hl => match us, hl with | [_, _, _, _], _ => rfl
theorem hq_why_not : headOk d_why_not s_why_not = true := by kernel_rfl
noncomputable def r_why_not := readDef 24 12 d_why_not s_why_not 3 blts [e_held_back, e_standing, e_led_to] cons
theorem k_why_not : r_why_not.isSome = true := by kernel_rfl
noncomputable def b_why_not := r_why_not.get k_why_not
noncomputable def e_why_not : FEnt := d_why_not.ent b_why_not.f
theorem q_why_not : e_why_not.den = runF 5 (M_why_not e_led_to.den e_standing.den e_held_back.den) := by kernel_rfl
theorem h_why_not (T : Mods defs blts cons xs w K mg base) : HasF P w K mg base 4 e_why_not := has_of T (i := 15) rfl bq_why_not hq_why_not (fns_cons (h_held_back T) (by decide) (fns_cons (h_standing T) (by decide) (fns_cons (h_led_to T) (by decide) (fns_nil)))) (exs_nil) b_why_not
def d_choices : DefC := { name := ("choices" : Str), N := ["sky", "hour", "state", "order"], ps := ["sky", "hour", "state"], md := [⟨false, false, 0⟩, ⟨false, false, 0⟩, ⟨false, false, 0⟩, ⟨false, false, 0⟩], fr := true, kl := fun l => (([] : List (Nat × List Nat)).lookup l).getD [], pl := fun l => ([] : List Nat).contains l, dt := true, exs := [] }
theorem bq_choices : BindsEq s_choices d_choices.name d_choices.ps := fun _ _ _ _ _ _ us hl => match us, hl with | [_, _, _], _ => rfl
theorem hq_choices : headOk d_choices s_choices = true := by kernel_rfl
noncomputable def r_choices := readDef 24 12 d_choices s_choices 4 blts [e_why_not] cons
theorem k_choices : r_choices.isSome = true := by kernel_rfl
noncomputable def b_choices := r_choices.get k_choices
noncomputable def e_choices : FEnt := d_choices.ent b_choices.f
theorem q_choices : e_choices.den = runF 4 (M_choices e_why_not.den) := by kernel_rfl
theorem h_choices (T : Mods defs blts cons xs w K mg base) : HasF P w K mg base 5 e_choices := has_of T (i := 16) rfl bq_choices hq_choices (fns_cons (h_why_not T) (by decide) (fns_nil)) (exs_nil) b_choices
def d_next_state : DefC := { name := ("next_state" : Str), N := ["sky", "hour", "state", "order", "why"], ps := ["sky", "hour", "state", "order"], md := [⟨false, false, 0⟩, ⟨false, false, 0⟩, ⟨false, false, 0⟩, ⟨false, false, 0⟩, ⟨false, false, 0⟩], fr := true, kl := fun l => (([] : List (Nat × List Nat)).lookup l).getD [], pl := fun l => ([93] : List Nat).contains l, dt := true, exs := [] }
theorem bq_next_state : BindsEq s_next_state d_next_state.name d_next_state.ps := fun _ _ _ _ _ _ us hl => match us, hl with | [_, _, _, _], _ => rfl
theorem hq_next_state : headOk d_next_state s_next_state = true := by kernel_rfl
noncomputable def r_next_state := readDef 24 12 d_next_state s_next_state 4 blts [e_why_not, e_led_to] cons
theorem k_next_state : r_next_state.isSome = true := by kernel_rfl
noncomputable def b_next_state := r_next_state.get k_next_state
noncomputable def e_next_state : FEnt := d_next_state.ent b_next_state.f
theorem q_next_state : e_next_state.den = runF 5 (M_next_state_2 e_led_to.den e_why_not.den) := by kernel_rfl
theorem h_next_state (T : Mods defs blts cons xs w K mg base) : HasF P w K mg base 5 e_next_state := has_of T (i := 17) rfl bq_next_state hq_next_state (fns_cons (h_why_not T) (by decide) (fns_cons (h_led_to T) (by decide) (fns_nil))) (exs_nil) b_next_state
def d_behind : DefC := { name := ("behind" : Str), N := ["sky", "hour", "some", "found", "state", "order"], ps := ["sky", "hour", "some"], md := [⟨false, false, 0⟩, ⟨false, false, 0⟩, ⟨false, false, 0⟩, ⟨true, true, 0⟩, ⟨false, false, 0⟩, ⟨false, false, 0⟩], fr := true, kl := fun l => (([(99, [4, 5]), (100, [5])] : List (Nat × List Nat)).lookup l).getD [], pl := fun l => ([] : List Nat).contains l, dt := true, exs := [] }
theorem bq_behind : BindsEq s_behind d_behind.name d_behind.ps := fun _ _ _ _ _ _ us hl => match us, hl with | [_, _, _], _ => rfl
theorem hq_behind : headOk d_behind s_behind = true := by kernel_rfl
noncomputable def r_behind := readDef 24 12 d_behind s_behind 5 blts [e_choices, e_next_state] cons
theorem k_behind : r_behind.isSome = true := by kernel_rfl
noncomputable def b_behind := r_behind.get k_behind
noncomputable def e_behind : FEnt := d_behind.ent b_behind.f
theorem q_behind : e_behind.den = runF 6 (M_behind e_choices.den e_next_state.den) := by kernel_rfl
theorem h_behind (T : Mods defs blts cons xs w K mg base) : HasF P w K mg base 6 e_behind := has_of T (i := 18) rfl bq_behind hq_behind (fns_cons (h_choices T) (by decide) (fns_cons (h_next_state T) (by decide) (fns_nil))) (exs_nil) b_behind
def d_table : DefC := { name := ("table" : Str), N := ["sky", "hour", "state", "many", "rows", "at"], ps := ["sky", "hour", "state", "many"], md := [⟨false, false, 0⟩, ⟨false, false, 0⟩, ⟨false, false, 0⟩, ⟨false, false, 0⟩, ⟨true, true, 0⟩, ⟨false, false, 0⟩], fr := true, kl := fun l => (([(117, [5])] : List (Nat × List Nat)).lookup l).getD [], pl := fun l => ([] : List Nat).contains l, dt := true, exs := [] }
theorem bq_table : BindsEq s_table d_table.name d_table.ps := fun _ _ _ _ _ _ us hl => match us, hl with | [_, _, _, _], _ => rfl
theorem hq_table : headOk d_table s_table = true := by kernel_rfl
noncomputable def r_table := readDef 24 12 d_table s_table 6 blts [e_unbeaten, e_behind] cons
theorem k_table : r_table.isSome = true := by kernel_rfl
noncomputable def b_table := r_table.get k_table
noncomputable def e_table : FEnt := d_table.ent b_table.f
theorem q_table : e_table.den = runF 6 (M_table e_behind.den e_unbeaten.den) := by kernel_rfl
theorem h_table (T : Mods defs blts cons xs w K mg base) : HasF P w K mg base 7 e_table := has_of T (i := 19) rfl bq_table hq_table (fns_cons (h_unbeaten T) (by decide) (fns_cons (h_behind T) (by decide) (fns_nil))) (exs_nil) b_table
def d_law_copy : DefC := { name := ("_law_copy" : Str), N := ["_law_sky_here"], ps := ["_law_sky_here"], md := [⟨false, false, 0⟩], fr := true, kl := fun l => (([] : List (Nat × List Nat)).lookup l).getD [], pl := fun l => ([] : List Nat).contains l, dt := true, exs := [] }
theorem bq_law_copy : BindsEq s_law_copy d_law_copy.name d_law_copy.ps := fun _ _ _ _ _ _ us hl => match us, hl with | [_], _ => rfl
theorem hq_law_copy : headOk d_law_copy s_law_copy = true := by kernel_rfl
noncomputable def r_law_copy := readDef 24 12 d_law_copy s_law_copy 0 blts [] cons
theorem k_law_copy : r_law_copy.isSome = true := by kernel_rfl
noncomputable def b_law_copy := r_law_copy.get k_law_copy
noncomputable def e_law_copy : FEnt := d_law_copy.ent b_law_copy.f
theorem q_law_copy : e_law_copy.den = runF 1 (M_law_copy) := by kernel_rfl
theorem h_law_copy (T : Mods defs blts cons xs w K mg base) : HasF P w K mg base 1 e_law_copy := has_of T (i := 20) rfl bq_law_copy hq_law_copy (fns_nil) (exs_nil) b_law_copy
def d_law_spots : DefC := { name := ("_law_spots" : Str), N := ["_law_row", "_law_found", "_law_state_here"], ps := ["_law_row"], md := [⟨false, false, 0⟩, ⟨false, false, 2⟩, ⟨false, false, 0⟩], fr := true, kl := fun l => (([(242, [2])] : List (Nat × List Nat)).lookup l).getD [], pl := fun l => ([] : List Nat).contains l, dt := true, exs := [] }
theorem bq_law_spots : BindsEq s_law_spots d_law_spots.name d_law_spots.ps := fun _ _ _ _ _ _ us hl => match us, hl with | [_], _ => rfl
theorem hq_law_spots : headOk d_law_spots s_law_spots = true := by kernel_rfl
noncomputable def r_law_spots := readDef 24 12 d_law_spots s_law_spots 0 blts [] cons
theorem k_law_spots : r_law_spots.isSome = true := by kernel_rfl
noncomputable def b_law_spots := r_law_spots.get k_law_spots
noncomputable def e_law_spots : FEnt := d_law_spots.ent b_law_spots.f
theorem q_law_spots : e_law_spots.den = runF 3 (M_law_spots) := by kernel_rfl
theorem h_law_spots (T : Mods defs blts cons xs w K mg base) : HasF P w K mg base 1 e_law_spots := has_of T (i := 21) rfl bq_law_spots hq_law_spots (fns_nil) (exs_nil) b_law_spots
def d_law_same : DefC := { name := ("_law_same" : Str), N := ["_law_found", "_law_due", "_law_one", "_law_other"], ps := ["_law_found", "_law_due"], md := [⟨false, false, 0⟩, ⟨false, false, 0⟩, ⟨false, false, 0⟩, ⟨false, false, 0⟩], fr := true, kl := fun l => (([] : List (Nat × List Nat)).lookup l).getD [], pl := fun l => ([141, 142, 144, 146, 147] : List Nat).contains l, dt := true, exs := [] }
theorem bq_law_same : BindsEq s_law_same d_law_same.name d_law_same.ps := fun _ _ _ _ _ _ us hl => match us, hl with | [_, _], _ => rfl
theorem hq_law_same : headOk d_law_same s_law_same = true := by kernel_rfl
noncomputable def r_law_same (k : Nat) (g : DF') := readDef 24 12 d_law_same s_law_same k blts [⟨("_law_same" : Str), 2, true, g⟩] cons
theorem k_law_same (k : Nat) (g : DF') : (r_law_same k g).isSome = true := by kernel_rfl
noncomputable def b_law_same (k : Nat) (g : DF') := (r_law_same k g).get (k_law_same k g)
noncomputable def g_law_same : Nat → DF'
  | 0 => fun _ => .bad
  | n + 1 => runF 4 (b_law_same (0 + n) (g_law_same n)).f
noncomputable def e_law_same (n : Nat) : FEnt := ⟨("_law_same" : Str), 2, true, g_law_same n⟩
theorem q_law_same (n : Nat) : g_law_same (n + 1) = runF 4 (M_law_same (g_law_same n)) := by kernel_rfl
theorem h_law_same' (T : Mods defs blts cons xs w K mg base) : ∀ n, HasF P w K mg base (0 + n) (e_law_same n)
  | 0 => has_none T (i := 22) rfl bq_law_same _
  | n + 1 => by
    have ih := h_law_same' T n
    exact has_of T (i := 22) rfl bq_law_same hq_law_same (fns_cons ih (Nat.le_refl _) (fns_nil)) (exs_nil) (b_law_same (0 + n) (g_law_same n))
theorem h_law_same (T : Mods defs blts cons xs w K mg base) : HasF P w K mg base 4 (e_law_same 4) := h_law_same' T 4
def d_law_plain : DefC := { name := ("_law_plain" : Str), N := ["_law_row", "_law_state_here", "_law_part"], ps := ["_law_row"], md := [⟨false, false, 0⟩, ⟨false, false, 0⟩, ⟨false, false, 0⟩], fr := true, kl := fun l => (([(261, [1])] : List (Nat × List Nat)).lookup l).getD [], pl := fun l => ([260, 263, 265, 266] : List Nat).contains l, dt := true, exs := [] }
theorem bq_law_plain : BindsEq s_law_plain d_law_plain.name d_law_plain.ps := fun _ _ _ _ _ _ us hl => match us, hl with | [_], _ => rfl
theorem hq_law_plain : headOk d_law_plain s_law_plain = true := by kernel_rfl
noncomputable def r_law_plain := readDef 24 12 d_law_plain s_law_plain 0 blts [] cons
theorem k_law_plain : r_law_plain.isSome = true := by kernel_rfl
noncomputable def b_law_plain := r_law_plain.get k_law_plain
noncomputable def e_law_plain : FEnt := d_law_plain.ent b_law_plain.f
theorem q_law_plain : e_law_plain.den = runF 3 (M_law_plain) := by kernel_rfl
theorem h_law_plain (T : Mods defs blts cons xs w K mg base) : HasF P w K mg base 1 e_law_plain := has_of T (i := 23) rfl bq_law_plain hq_law_plain (fns_nil) (exs_nil) b_law_plain
def d_law_in : DefC := { name := ("_law_in" : Str), N := ["_law_box_here", "_law_x", "_law_y", "_law_z"], ps := ["_law_box_here", "_law_x", "_law_y", "_law_z"], md := [⟨false, false, 0⟩, ⟨false, false, 0⟩, ⟨false, false, 0⟩, ⟨false, false, 0⟩], fr := true, kl := fun l => (([] : List (Nat × List Nat)).lookup l).getD [], pl := fun l => ([193] : List Nat).contains l, dt := true, exs := [] }
theorem bq_law_in : BindsEq s_law_in d_law_in.name d_law_in.ps := fun _ _ _ _ _ _ us hl => match us, hl with | [_, _, _, _], _ => rfl
theorem hq_law_in : headOk d_law_in s_law_in = true := by kernel_rfl
noncomputable def r_law_in := readDef 24 12 d_law_in s_law_in 0 blts [] cons
theorem k_law_in : r_law_in.isSome = true := by kernel_rfl
noncomputable def b_law_in := r_law_in.get k_law_in
noncomputable def e_law_in : FEnt := d_law_in.ent b_law_in.f
theorem q_law_in : e_law_in.den = runF 4 (M_law_in) := by kernel_rfl
theorem h_law_in (T : Mods defs blts cons xs w K mg base) : HasF P w K mg base 1 e_law_in := has_of T (i := 24) rfl bq_law_in hq_law_in (fns_nil) (exs_nil) b_law_in
def d_law_shut : DefC := { name := ("_law_shut" : Str), N := ["_law_shuts", "_law_hour", "_law_x", "_law_y", "_law_z", "_law_one"], ps := ["_law_shuts", "_law_hour", "_law_x", "_law_y", "_law_z"], md := [⟨false, false, 0⟩, ⟨false, false, 0⟩, ⟨false, false, 0⟩, ⟨false, false, 0⟩, ⟨false, false, 0⟩, ⟨false, false, 0⟩], fr := true, kl := fun l => (([] : List (Nat × List Nat)).lookup l).getD [], pl := fun l => ([195] : List Nat).contains l, dt := true, exs := [] }
theorem bq_law_shut : BindsEq s_law_shut d_law_shut.name d_law_shut.ps := fun _ _ _ _ _ _ us hl => match us, hl with | [_, _, _, _, _], _ => rfl
theorem hq_law_shut : headOk d_law_shut s_law_shut = true := by kernel_rfl
noncomputable def r_law_shut := readDef 24 12 d_law_shut s_law_shut 1 blts [e_law_in] cons
theorem k_law_shut : r_law_shut.isSome = true := by kernel_rfl
noncomputable def b_law_shut := r_law_shut.get k_law_shut
noncomputable def e_law_shut : FEnt := d_law_shut.ent b_law_shut.f
theorem q_law_shut : e_law_shut.den = runF 6 (M_law_shut e_law_in.den) := by kernel_rfl
theorem h_law_shut (T : Mods defs blts cons xs w K mg base) : HasF P w K mg base 2 e_law_shut := has_of T (i := 25) rfl bq_law_shut hq_law_shut (fns_cons (h_law_in T) (by decide) (fns_nil)) (exs_nil) b_law_shut
def d_law_ground : DefC := { name := ("_law_ground" : Str), N := ["_law_hills", "_law_x", "_law_y", "_law_a", "_law_b", "_law_top"], ps := ["_law_hills", "_law_x", "_law_y"], md := [⟨false, false, 0⟩, ⟨false, false, 0⟩, ⟨false, false, 0⟩, ⟨false, false, 0⟩, ⟨false, false, 0⟩, ⟨false, false, 0⟩], fr := true, kl := fun l => (([] : List (Nat × List Nat)).lookup l).getD [], pl := fun l => ([191] : List Nat).contains l, dt := true, exs := [] }
theorem bq_law_ground : BindsEq s_law_ground d_law_ground.name d_law_ground.ps := fun _ _ _ _ _ _ us hl => match us, hl with | [_, _, _], _ => rfl
theorem hq_law_ground : headOk d_law_ground s_law_ground = true := by kernel_rfl
noncomputable def r_law_ground := readDef 24 12 d_law_ground s_law_ground 0 blts [] cons
theorem k_law_ground : r_law_ground.isSome = true := by kernel_rfl
noncomputable def b_law_ground := r_law_ground.get k_law_ground
noncomputable def e_law_ground : FEnt := d_law_ground.ent b_law_ground.f
theorem q_law_ground : e_law_ground.den = runF 6 (M_law_ground) := by kernel_rfl
theorem h_law_ground (T : Mods defs blts cons xs w K mg base) : HasF P w K mg base 1 e_law_ground := has_of T (i := 26) rfl bq_law_ground hq_law_ground (fns_nil) (exs_nil) b_law_ground
def d_law_stand : DefC := { name := ("_law_stand" : Str), N := ["_law_sky_here", "_law_hour", "_law_state_here"], ps := ["_law_sky_here", "_law_hour", "_law_state_here"], md := [⟨false, false, 0⟩, ⟨false, false, 0⟩, ⟨false, false, 0⟩], fr := true, kl := fun l => (([] : List (Nat × List Nat)).lookup l).getD [], pl := fun l => ([198, 200, 201] : List Nat).contains l, dt := true, exs := [] }
theorem bq_law_stand : BindsEq s_law_stand d_law_stand.name d_law_stand.ps := fun _ _ _ _ _ _ us hl => match us, hl with | [_, _, _], _ => rfl
theorem hq_law_stand : headOk d_law_stand s_law_stand = true := by kernel_rfl
noncomputable def r_law_stand := readDef 24 12 d_law_stand s_law_stand 2 blts [e_law_shut, e_law_ground] cons
theorem k_law_stand : r_law_stand.isSome = true := by kernel_rfl
noncomputable def b_law_stand := r_law_stand.get k_law_stand
noncomputable def e_law_stand : FEnt := d_law_stand.ent b_law_stand.f
theorem q_law_stand : e_law_stand.den = runF 3 (M_law_stand e_law_shut.den e_law_ground.den) := by kernel_rfl
theorem h_law_stand (T : Mods defs blts cons xs w K mg base) : HasF P w K mg base 3 e_law_stand := has_of T (i := 27) rfl bq_law_stand hq_law_stand (fns_cons (h_law_shut T) (by decide) (fns_cons (h_law_ground T) (by decide) (fns_nil))) (exs_nil) b_law_stand
def d_law_wind : DefC := { name := ("_law_wind" : Str), N := ["_law_winds", "_law_hour", "_law_height", "_law_some", "_law_k"], ps := ["_law_winds", "_law_hour", "_law_height"], md := [⟨false, false, 0⟩, ⟨false, false, 0⟩, ⟨false, false, 0⟩, ⟨false, false, 0⟩, ⟨false, false, 0⟩], fr := true, kl := fun l => (([] : List (Nat × List Nat)).lookup l).getD [], pl := fun l => ([189] : List Nat).contains l, dt := true, exs := [] }
theorem bq_law_wind : BindsEq s_law_wind d_law_wind.name d_law_wind.ps := fun _ _ _ _ _ _ us hl => match us, hl with | [_, _, _], _ => rfl
theorem hq_law_wind : headOk d_law_wind s_law_wind = true := by kernel_rfl
noncomputable def r_law_wind := readDef 24 12 d_law_wind s_law_wind 0 blts [] cons
theorem k_law_wind : r_law_wind.isSome = true := by kernel_rfl
noncomputable def b_law_wind := r_law_wind.get k_law_wind
noncomputable def e_law_wind : FEnt := d_law_wind.ent b_law_wind.f
theorem q_law_wind : e_law_wind.den = runF 5 (M_law_wind) := by kernel_rfl
theorem h_law_wind (T : Mods defs blts cons xs w K mg base) : HasF P w K mg base 1 e_law_wind := has_of T (i := 28) rfl bq_law_wind hq_law_wind (fns_nil) (exs_nil) b_law_wind
def d_law_led : DefC := { name := ("_law_led" : Str), N := ["_law_sky_here", "_law_hour", "_law_state_here", "_law_order", "_law_x", "_law_y", "_law_z", "_law_sacks", "_law_puffs", "_law_step", "_law_dx", "_law_dy"], ps := ["_law_sky_here", "_law_hour", "_law_state_here", "_law_order"], md := [⟨false, false, 0⟩, ⟨false, false, 0⟩, ⟨false, false, 0⟩, ⟨false, false, 0⟩, ⟨false, false, 0⟩, ⟨false, false, 0⟩, ⟨false, false, 0⟩, ⟨false, false, 0⟩, ⟨false, false, 0⟩, ⟨false, false, 0⟩, ⟨false, false, 0⟩, ⟨false, false, 0⟩], fr := true, kl := fun l => (([] : List (Nat × List Nat)).lookup l).getD [], pl := fun l => ([] : List Nat).contains l, dt := true, exs := [] }
theorem bq_law_led : BindsEq s_law_led d_law_led.name d_law_led.ps := fun _ _ _ _ _ _ us hl => match us, hl with | [_, _, _, _], _ => rfl
theorem hq_law_led : headOk d_law_led s_law_led = true := by kernel_rfl
noncomputable def r_law_led := readDef 24 12 d_law_led s_law_led 1 blts [e_law_wind] cons
theorem k_law_led : r_law_led.isSome = true := by kernel_rfl
noncomputable def b_law_led := r_law_led.get k_law_led
noncomputable def e_law_led : FEnt := d_law_led.ent b_law_led.f
theorem q_law_led : e_law_led.den = runF 12 (M_law_led e_law_wind.den) := by kernel_rfl
theorem h_law_led (T : Mods defs blts cons xs w K mg base) : HasF P w K mg base 2 e_law_led := has_of T (i := 29) rfl bq_law_led hq_law_led (fns_cons (h_law_wind T) (by decide) (fns_nil)) (exs_nil) b_law_led
def d_law_why : DefC := { name := ("_law_why" : Str), N := ["_law_sky_here", "_law_hour", "_law_state_here", "_law_order"], ps := ["_law_sky_here", "_law_hour", "_law_state_here", "_law_order"], md := [⟨false, false, 0⟩, ⟨false, false, 0⟩, ⟨false, false, 0⟩, ⟨false, false, 0⟩], fr := true, kl := fun l => (([] : List (Nat × List Nat)).lookup l).getD [], pl := fun l => ([212, 214, 216, 218, 219] : List Nat).contains l, dt := true, exs := [] }
theorem bq_law_why : BindsEq s_law_why d_law_why.name d_law_why.ps := fun _ _ _ _ _ _ us hl => match us, hl with | [_, _, _, _], _ => rfl
theorem hq_law_why : headOk d_law_why s_law_why = true := by kernel_rfl
noncomputable def r_law_why := readDef 24 12 d_law_why s_law_why 3 blts [e_law_stand, e_law_led] cons
theorem k_law_why : r_law_why.isSome = true := by kernel_rfl
noncomputable def b_law_why := r_law_why.get k_law_why
noncomputable def e_law_why : FEnt := d_law_why.ent b_law_why.f
theorem q_law_why : e_law_why.den = runF 4 (M_law_why e_law_led.den e_law_stand.den) := by kernel_rfl
theorem h_law_why (T : Mods defs blts cons xs w K mg base) : HasF P w K mg base 4 e_law_why := has_of T (i := 30) rfl bq_law_why hq_law_why (fns_cons (h_law_stand T) (by decide) (fns_cons (h_law_led T) (by decide) (fns_nil))) (exs_nil) b_law_why
def d_law_link : DefC := { name := ("_law_link" : Str), N := ["_law_sky_here", "_law_hour", "_law_row", "_law_later", "_law_spots_here", "_law_led_here", "_law_state_here", "_law_order", "_law_one", "_law_p"], ps := ["_law_sky_here", "_law_hour", "_law_row", "_law_later"], md := [⟨false, false, 0⟩, ⟨false, false, 0⟩, ⟨false, false, 0⟩, ⟨false, false, 0⟩, ⟨false, false, 0⟩, ⟨true, true, 0⟩, ⟨false, false, 0⟩, ⟨false, false, 0⟩, ⟨false, false, 0⟩, ⟨false, false, 0⟩], fr := true, kl := fun l => (([(250, [6, 7, 8]), (251, [7, 8])] : List (Nat × List Nat)).lookup l).getD [], pl := fun l => ([256, 257] : List Nat).contains l, dt := true, exs := [] }
theorem bq_law_link : BindsEq s_law_link d_law_link.name d_law_link.ps := fun _ _ _ _ _ _ us hl => match us, hl with | [_, _, _, _], _ => rfl
theorem hq_law_link : headOk d_law_link s_law_link = true := by kernel_rfl
noncomputable def r_law_link := readDef 24 12 d_law_link s_law_link 4 blts [e_law_spots, e_law_why, e_law_led] cons
theorem k_law_link : r_law_link.isSome = true := by kernel_rfl
noncomputable def b_law_link := r_law_link.get k_law_link
noncomputable def e_law_link : FEnt := d_law_link.ent b_law_link.f
theorem q_law_link : e_law_link.den = runF 10 (M_law_link e_law_why.den e_law_led.den e_law_spots.den) := by kernel_rfl
theorem h_law_link (T : Mods defs blts cons xs w K mg base) : HasF P w K mg base 5 e_law_link := has_of T (i := 31) rfl bq_law_link hq_law_link (fns_cons (h_law_spots T) (by decide) (fns_cons (h_law_why T) (by decide) (fns_cons (h_law_led T) (by decide) (fns_nil)))) (exs_nil) b_law_link
def d_law_beaten : DefC := { name := ("_law_beaten" : Str), N := ["_law_pair", "_law_pairs", "_law_one"], ps := ["_law_pair", "_law_pairs"], md := [⟨false, false, 0⟩, ⟨false, false, 0⟩, ⟨false, false, 0⟩], fr := true, kl := fun l => (([] : List (Nat × List Nat)).lookup l).getD [], pl := fun l => ([221] : List Nat).contains l, dt := true, exs := [] }
theorem bq_law_beaten : BindsEq s_law_beaten d_law_beaten.name d_law_beaten.ps := fun _ _ _ _ _ _ us hl => match us, hl with | [_, _], _ => rfl
theorem hq_law_beaten : headOk d_law_beaten s_law_beaten = true := by kernel_rfl
noncomputable def r_law_beaten := readDef 24 12 d_law_beaten s_law_beaten 0 blts [] cons
theorem k_law_beaten : r_law_beaten.isSome = true := by kernel_rfl
noncomputable def b_law_beaten := r_law_beaten.get k_law_beaten
noncomputable def e_law_beaten : FEnt := d_law_beaten.ent b_law_beaten.f
theorem q_law_beaten : e_law_beaten.den = runF 3 (M_law_beaten) := by kernel_rfl
theorem h_law_beaten (T : Mods defs blts cons xs w K mg base) : HasF P w K mg base 1 e_law_beaten := has_of T (i := 32) rfl bq_law_beaten hq_law_beaten (fns_nil) (exs_nil) b_law_beaten
def d_law : DefC := { name := ("law" : Str), N := ["_law_script", "_law_numbers_here", "_law_base_here", "_law_hour", "_law_many", "_law_sky_here", "_law_state_here", "_law_rows", "_law_row", "_law_spots_here", "_law_spot", "_law_at", "_law_pair", "_law_k"], ps := ["_law_script"], md := [⟨false, false, 0⟩, ⟨false, false, 0⟩, ⟨false, false, 0⟩, ⟨false, false, 0⟩, ⟨false, false, 0⟩, ⟨false, false, 0⟩, ⟨false, false, 0⟩, ⟨false, false, 0⟩, ⟨false, false, 0⟩, ⟨true, true, 0⟩, ⟨false, false, 0⟩, ⟨false, false, 0⟩, ⟨false, false, 0⟩, ⟨false, false, 0⟩], fr := true, kl := fun l => (([(276, [8, 9, 10]), (280, [10])] : List (Nat × List Nat)).lookup l).getD [], pl := fun l => ([275, 278, 280, 282, 284, 285] : List Nat).contains l, dt := true, exs := [] }
theorem bq_law : BindsEq s_law d_law.name d_law.ps := fun _ _ _ _ _ _ us hl => match us, hl with | [_], _ => rfl
theorem hq_law : headOk d_law s_law = true := by kernel_rfl
noncomputable def r_law := readDef 24 12 d_law s_law 7 blts [e_law_numbers, e_law_case, e_table, e_law_state, e_law_copy, e_law_spots, (e_law_same 4), e_law_plain, e_law_link, e_law_beaten] cons
theorem k_law : r_law.isSome = true := by kernel_rfl
noncomputable def b_law := r_law.get k_law
noncomputable def e_law : FEnt := d_law.ent b_law.f
theorem q_law : e_law.den = runF 14 (M_x_law e_law_link.den e_law_beaten.den e_law_spots.den e_law_plain.den (g_law_same 4) e_law_copy.den e_table.den e_law_state.den e_law_case.den e_law_numbers.den) := by kernel_rfl
end
/-! ### whole tables are closed -/
theorem lexLt_I : ∀ (xs ys : List Int), xs.length = ys.length → HT.lexLt xs ys = lexI xs ys
  | [], [], _ => rfl
  | [], _ :: _, h => by cases h
  | _ :: _, [], h => by cases h
  | x :: xs, y :: ys, h => by
    rw [HT.lexLt_cons, lexLt_I xs ys (by simpa using h)]
    show _ = (decide (x < y) || (!decide (y < x) && lexI xs ys))
    by_cases c : x = y
    · rw [if_pos c]
      subst c
      simp
    · rw [if_neg c]
      by_cases d : x < y
      · simp [d]
      · have : y < x := by omega
        simp [d, this]
theorem gLt_t (a b : St) : gLt (tD a) (tD b) = some (.bl (lexI (tL a) (tL b))) := by
  show some (D.bl (HT.lexLt (tL a) (tL b))) = _
  rw [lexLt_I (tL a) (tL b) rfl]
theorem strict_at {l : List St} (so : l.Pairwise (leF tL)) (nd : l.Nodup) {k : Nat} {a b : St} (ha : l[k]? = some a) (hb : l[k + 1]? = some b) : gLt (tD a) (tD b) = some (.bl true) := by
  obtain ⟨h1, e1⟩ := List.getElem?_eq_some_iff.mp ha
  obtain ⟨h2, e2⟩ := List.getElem?_eq_some_iff.mp hb
  have le : leF tL a b := by
    have := List.pairwise_iff_getElem.mp so k (k + 1) h1 h2 (by omega)
    rw [e1, e2] at this
    exact this
  have ne : a ≠ b := fun e => by
    subst e
    have := nodup_at nd ha hb
    omega
  rw [gLt_t]
  cases c : lexI (tL a) (tL b) with
  | true => rfl
  | false => exact absurd (leF_anti tL tL_len tL_inj a b le c) ne
/-- the law's own dict of the places of a list -/
def spotsD (l : List St) : D := .dic true ((keysF l).map spD) ((keysF l).map (grpD l))
theorem spots_turn (l pre : List St) (s : St) (hl : pre.length ≤ 100000) : M_law_spots_l1 [some (.lst (l.map tD)), some (spotsD pre), some (tD s)] = .nx [some (.lst (l.map tD)), some (spotsD (pre ++ [s])), some (tD s)] := by
  have kf : keyFits true (spD (spot s)) = true := keyFits_sp (spot s)
  have gl := grpF_len pre (spot s)
  have kl := keysF_len pre
  have z : (grpF pre (spot s)).length < sizeLine := lt_size (by omega)
  have zk : (keysF pre).length < sizeLine := lt_size (by omega)
  have im : imm (pqD (pairF s)) = true := rfl
  have c1 : gSl (tD s) none (some 3) = some (spD (spot s)) := rfl
  have c2 : gSl (tD s) (some 3) none = some (pqD (pairF s)) := rfl
  obtain ⟨i1, i2⟩ := idx_map keyEq_sp (spot s) (keysF pre)
  by_cases m : spot s ∈ keysF pre
  · obtain ⟨j, e1, e2⟩ := i2 m
    have st := grp_set pre s (keysF pre) (keysF_nodup pre) j e2
    have ej : ((keysF pre).map (grpD pre))[j]? = some (.lst ((grpF pre (spot s)).map pqD)) := by rw [List.getElem?_map, e2]; rfl
    have ek : keysF (pre ++ [s]) = keysF pre := by rw [keysF_snoc]; unfold addL; rw [if_pos m]
    unfold spotsD
    rw [ek, ← st]
    generalize (keysF pre).map (grpD pre) = ws at ej
    generalize hks : (keysF pre).map spD = ks at e1
    generalize spD (spot s) = SD at *
    generalize tD s = TD at *
    generalize hp : pqD (pairF s) = PD at *
    simp [M_law_spots_l1, dNotInD, dAppD, c1, c2, kf, e1, ej, im, z]
  · have e0 := i1 m
    have ek : keysF (pre ++ [s]) = keysF pre ++ [spot s] := by rw [keysF_snoc]; unfold addL; rw [if_neg m]
    obtain ⟨_, i3⟩ := idx_map keyEq_sp (spot s) (keysF pre ++ [spot s])
    obtain ⟨j, e1, e2⟩ := i3 (by simp)
    have nd : (keysF pre ++ [spot s]).Nodup := by rw [← ek]; exact keysF_nodup _
    have st := grp_set pre s (keysF pre ++ [spot s]) nd j e2
    have gn := grpF_new pre (spot s) m
    have ew : (keysF pre ++ [spot s]).map (grpD pre) = (keysF pre).map (grpD pre) ++ [.lst []] := by simp [grpD, gn]
    have ej : ((keysF pre ++ [spot s]).map (grpD pre))[j]? = some (.lst []) := by rw [List.getElem?_map, e2]; simp [grpD, gn]
    rw [gn] at st
    rw [ew] at st ej
    have ekk : (keysF pre ++ [spot s]).map spD = (keysF pre).map spD ++ [spD (spot s)] := by simp
    rw [ekk] at e1
    unfold spotsD
    rw [ek, ekk, ← st]
    generalize (keysF pre).map (grpD pre) = ws at ej
    have zk' : ((keysF pre).map spD).length < sizeLine := by rw [List.length_map]; exact zk
    generalize (keysF pre).map spD = ks at e0 e1 zk'
    have z0 : (0 : Nat) < sizeLine := by decide
    generalize spD (spot s) = SD at *
    generalize tD s = TD at *
    generalize hp : pqD (pairF s) = PD at *
    simp [M_law_spots_l1, dNotInD, dPutN, dAppD, c1, c2, kf, e0, e1, ej, im, z0, zk']
theorem spots_ok (l : List St) (hl : l.length ≤ 100000) : runF 3 M_law_spots [.lst (l.map tD)] = .ok (spotsD l) := by
  obtain ⟨env', e1, rfl⟩ := forGo_inv (gd := gdName 2) (body := M_law_spots_l1) (ks := [2]) (enc := tD)
    (fun pre env => env = [some (.lst (l.map tD)), some (spotsD pre), none]) l (env := [some (.lst (l.map tD)), some (spotsD []), none]) rfl fun pre s post env hi ev => by
      subst ev
      have hpl := pre_lt hi
      exact ⟨_, rfl, _, .inl (spots_turn l pre s (by omega)), rfl⟩
  rw [show spotsD [] = .dic true [] [] from rfl] at e1
  rw [runF_eq]
  simp [M_law_spots, dFor, e1]
theorem plainR_ok (l : List St) : runF 3 M_law_plain [.lst (l.map tD)] = .ok (.bl true) := by
  obtain ⟨env', e1, rfl⟩ := forGo_inv (gd := gdName 1) (body := M_law_plain_l1) (ks := [1]) (enc := tD)
    (fun pre env => env = [some (.lst (l.map tD)), none, none]) l (env := [some (.lst (l.map tD)), none, none]) rfl fun pre s post env hi ev => by
      subst ev
      refine ⟨_, rfl, [some (.lst (l.map tD)), some (tD s), none], .inl ?_, rfl⟩
      have i1 : gIsT .tuple (tD s) = some (.bl true) := rfl
      have le : (tD s) = .tup ((tL s).map D.int) := rfl
      have c : ∀ e0, dComp (dItems (dVar 1)) (gdName 2) (dC (.bl true)) (dAnd (dIsT .int (dVar 2)) (dNot (dIsT .bool (dVar 2)))) [2] [e0, some (.tup ((tL s).map D.int)), none] = .ok (.lst (((tL s).map fun _ => true).map D.bl)) := fun e0 => by
        rw [List.map_map]
        refine dComp_map (enc := D.int) (h := D.bl ∘ fun _ => true) (tL s) (by simp) (by simp [tL]) fun q _ => ⟨_, rfl, rfl, ?_⟩
        have j1 : gIsT .int (.int q) = some (.bl true) := rfl
        have j2 : gIsT .bool (.int q) = some (.bl false) := rfl
        simp [j1, j2]
      have len : ((tL s).map D.int).length = 5 := rfl
      rw [le] at i1 ⊢
      simp only [tL, List.map_cons, List.map_nil] at c i1 ⊢
      have gal : gAll [.lst [.bl true, .bl true, .bl true, .bl true, .bl true]] = some (.bl true) := rfl
      simp [M_law_plain_l1, i1, c, gal]
  have i0 : gIsT .list (.lst (l.map tD)) = some (.bl true) := rfl
  rw [runF_eq]
  simp [M_law_plain, i0, dFor, e1]
/-! ### none of a table's list beats another -/
def NB (l : List St) : Prop := ∀ q ∈ l, ∀ r ∈ l, spot r = spot q → ¬ beat (pairF r) (pairF q)
theorem table_nb {s : Sky} {h : Int} {p : St} (hp : posS p) : ∀ k, NB (tableF s h p k)
  | 0 => fun q hq r hr _ b => by
    rw [show q = p from List.mem_singleton.mp hq, show r = p from List.mem_singleton.mp hr] at b
    exact b.2.2 rfl
  | k + 1 => fun q hq r hr e => by
    have h0 : ∀ q ∈ behindF s (h + k) (tableF s h p k), 0 ≤ q.2.2.2.2 := fun q hq => (statesF_pos hp (k + 1) q (behind_sub (table_states hp k).1 q hq)).2
    exact ((unbF_mem h0 q).mp hq).2 r ((unbF_mem h0 r).mp hr).1 e
theorem nb_grp {l : List St} (n : NB l) (k : Sp) (p : Pr) (hp : p ∈ grpF l k) : ((grpF l k).any fun q => decide (beat q p)) = false := by
  rw [List.any_eq_false]
  intro q hq e
  exact n _ ((grpF_mem l k p).mp hp) _ ((grpF_mem l k q).mp hq) rfl (of_decide_eq_true e)
theorem spots_get (l : List St) (k : Sp) (hk : k ∈ keysF l) (z : D) : gGet (spotsD l) (spD k) z = some (.lst ((grpF l k).map pqD)) := by
  show (if keyFits true (spD k) then some ((lookD ((keysF l).map spD) ((keysF l).map (grpD l)) (spD k)).getD z) else none) = _
  rw [if_pos (keyFits_sp k), lookD_map keyEq_sp (grpD l) k (keysF l) hk]
  rfl
theorem spots_ix (l : List St) (k : Sp) (hk : k ∈ keysF l) : gIx (spotsD l) (spD k) = some (.lst ((grpF l k).map pqD)) := by
  show (if keyFits true (spD k) then lookD ((keysF l).map spD) ((keysF l).map (grpD l)) (spD k) else none) = _
  rw [if_pos (keyFits_sp k), lookD_map keyEq_sp (grpD l) k (keysF l) hk]
  rfl
theorem dec_bl {P : Prop} (i : Decidable P) (h : P) : some (D.bl (@decide P i)) = some (.bl true) := by rw [@decide_eq_true P i h]
def setD (A : List St) : D := .dic true (A.map tD) (A.map fun _ => .bl true)
theorem link_ok {c0 c1 c2 : DF'} (s : Sky) (hW : ∀ h p o, 0 ≤ p.2.2.1 → c0 [skyD s, .int h, tD p, oD o] = .ok (.str (whyF s h p o))) (hL : ∀ h p o, 0 ≤ p.2.2.1 + o.dz → c1 [skyD s, .int h, tD p, oD o] = .ok (tD (ledF s h p o))) (hS : ∀ l : List St, l.length ≤ 100000 → c2 [.lst (l.map tD)] = .ok (spotsD l))
    (h : Int) (row later : List St) (hz : ∀ q ∈ row, 0 ≤ q.2.2.1) (zr : row.length ≤ 10000) (zl : later.length ≤ 100000) (up : ∀ q ∈ row, ∀ r ∈ fromF s h q, ∃ t ∈ later, leS r t) (dn : ∀ t ∈ later, ∃ q ∈ row, t ∈ fromF s h q) :
    runF 10 (M_law_link c0 c1 c2) [skyD s, .int h, .lst (row.map tD), .lst (later.map tD)] = .ok (.bl true) := by
  have lf : ∀ p, (fromF s h p).length ≤ 3 := fun p => by
    unfold fromF
    rw [List.length_map]
    exact List.length_filter_le _ _
  have lfm : ∀ l : List St, (l.flatMap (fromF s h)).length ≤ 3 * l.length := fun l => by
    induction l with
    | nil => exact Nat.le_refl _
    | cons p l ih =>
      rw [List.flatMap_cons, List.length_append, List.length_cons]
      have := lf p
      omega
  obtain ⟨env', e1, rfl⟩ := forGo_inv (gd := gdName 6) (body := M_law_link_l2 c0 c1 c2) (ks := [6, 7, 8]) (enc := tD)
    (fun pre env => env = [some (skyD s), some (.int h), some (.lst (row.map tD)), some (.lst (later.map tD)), some (spotsD later), some (setD ((pre.flatMap (fromF s h)).foldl addL [])), none, none, none, none]) row
    (env := [some (skyD s), some (.int h), some (.lst (row.map tD)), some (.lst (later.map tD)), some (spotsD later), some (setD []), none, none, none, none]) rfl fun pre q post env hi ev => by
      subst ev
      have hpl := pre_lt hi
      have hm := lfm pre
      have hq : q ∈ row := pre_mem hi
      obtain ⟨env', e1, e2⟩ := forGo_inv (gd := gdName 7) (body := M_law_link_l1 c0 c1 c2) (ks := [7, 8]) (enc := oD)
        (fun pr env => env = [some (skyD s), some (.int h), some (.lst (row.map tD)), some (.lst (later.map tD)), some (spotsD later), some (setD (((pre.flatMap (fromF s h)) ++ (pr.filter (canF s h q)).map (ledF s h q)).foldl addL [])), some (tD q), none, none, none]) Od.all
        (env := [some (skyD s), some (.int h), some (.lst (row.map tD)), some (.lst (later.map tD)), some (spotsD later), some (setD ((pre.flatMap (fromF s h)).foldl addL [])), some (tD q), none, none, none]) (by simp) fun pr o po env hi2 ev => by
          subst ev
          have ho : o ∈ Od.all := pre_mem hi2
          have why := hW h q o (hz q hq)
          have ge := gEq_why s h q o
          refine ⟨_, rfl, ?_⟩
          by_cases c : canF s h q o = true
          · have led := hL h q o (can_up c (hz q hq))
            have mem : ledF s h q o ∈ fromF s h q := List.mem_map.mpr ⟨o, List.mem_filter.mpr ⟨ho, c⟩, rfl⟩
            have hpr : pr.length ≤ 3 := by
              have := pre_lt hi2
              simp [Od.all] at this
              omega
            have hl : (((pre.flatMap (fromF s h)) ++ (pr.filter (canF s h q)).map (ledF s h q)).foldl addL []).length ≤ 1000000 := by
              have h1 := len_addAll (xs := (pre.flatMap (fromF s h)) ++ (pr.filter (canF s h q)).map (ledF s h q)) (L := [])
              have h2 := List.length_filter_le (canF s h q) pr
              simp only [List.length_append, List.length_map, List.length_nil] at h1
              omega
            have put : putD (setD (((pre.flatMap (fromF s h)) ++ (pr.filter (canF s h q)).map (ledF s h q)).foldl addL [])) (tD (ledF s h q o)) (.bl true) = some (setD (addL (((pre.flatMap (fromF s h)) ++ (pr.filter (canF s h q)).map (ledF s h q)).foldl addL []) (ledF s h q o))) :=
              putD_add keyEq_t _ (ledF s h q o) (.bl true) (keyFits_iD (tL _)) (lt_size hl)
            have acc : ((pre.flatMap (fromF s h)) ++ ((pr ++ [o]).filter (canF s h q)).map (ledF s h q)).foldl addL [] = addL (((pre.flatMap (fromF s h)) ++ (pr.filter (canF s h q)).map (ledF s h q)).foldl addL []) (ledF s h q o) := by
              rw [List.filter_append, List.map_append, ← List.append_assoc, List.foldl_append]
              simp [c]
            rw [c] at ge
            obtain ⟨t, ht, lt⟩ := up q hq _ mem
            generalize ledF s h q o = r at led put acc lt
            have kr : spot r ∈ keysF later := (keysF_mem later _).mpr ⟨t, ht, lt.1.symm⟩
            have gt := spots_get later (spot r) kr (.lst [])
            have gl := grpF_len later (spot r)
            have tg : pairF t ∈ grpF later (spot r) := (grpF_mem later (spot r) (pairF t)).mpr (by
              rw [show mkS (spot r) (pairF t) = t from st_ext lt.1 rfl]
              exact ht)
            have c3 : gSl (tD r) none (some 3) = some (spD (spot r)) := rfl
            have r3 : gIx (tD r) (.int 3) = some (.int r.2.2.2.1) := rfl
            have r4 : gIx (tD r) (.int 4) = some (.int r.2.2.2.2) := rfl
            have isd : isDicD (spotsD later) = true := rfl
            have cm : ∀ e0 e1 e2 e3 e5 e6 e7, dComp (dItems (dGet (dVar 4) (dSl (dVar 8) dNo (dPart (dC (.int (3))))) (dLst dNil))) (gdName 9) (dC (.bl true)) (dAnd (dBin (gCmpI fun i j => decide (j ≤ i)) (dBin gIx (dVar 9) (dC (.int (0)))) (dBin gIx (dVar 8) (dC (.int (3))))) (dBin (gCmpI fun i j => decide (j ≤ i)) (dBin gIx (dVar 9) (dC (.int (1)))) (dBin gIx (dVar 8) (dC (.int (4)))))) [9]
                [e0, e1, e2, e3, some (spotsD later), e5, e6, e7, some (tD r), none] = .ok (.lst (((grpF later (spot r)).map fun p => decide (r.2.2.2.1 ≤ p.1) && decide (r.2.2.2.2 ≤ p.2)).map D.bl)) := fun e0 e1 e2 e3 e5 e6 e7 => by
              rw [List.map_map]
              refine dComp_map (enc := pqD) (h := D.bl ∘ fun p => decide (r.2.2.2.1 ≤ p.1) && decide (r.2.2.2.2 ≤ p.2)) (grpF later (spot r)) ?_ (by omega) fun p _ => ⟨_, rfl, rfl, ?_⟩
              · generalize spotsD later = SP at gt isd
                generalize tD r = R at c3
                simp [isd, c3, gt]
              · have p0 : gIx (pqD p) (.int 0) = some (.int p.1) := rfl
                have p1 : gIx (pqD p) (.int 1) = some (.int p.2) := rfl
                generalize pqD p = P at p0 p1
                generalize tD r = R at r3 r4
                by_cases d : r.2.2.2.1 ≤ p.1 <;> simp [p0, p1, r3, r4, d]
            have any : ((grpF later (spot r)).map fun p => decide (r.2.2.2.1 ≤ p.1) && decide (r.2.2.2.2 ≤ p.2)).any id = true := List.any_eq_true.mpr ⟨true, List.mem_map.mpr ⟨pairF t, tg, by
              rw [Bool.and_eq_true, decide_eq_true_eq, decide_eq_true_eq]
              exact lt.2⟩, rfl⟩
            generalize ((grpF later (spot r)).map fun p => decide (r.2.2.2.1 ≤ p.1) && decide (r.2.2.2.2 ≤ p.2)) = bs at cm any
            refine ⟨[some (skyD s), some (.int h), some (.lst (row.map tD)), some (.lst (later.map tD)), some (spotsD later), some (setD (addL (((pre.flatMap (fromF s h)) ++ (pr.filter (canF s h q)).map (ledF s h q)).foldl addL []) r)), some (tD q), some (oD o), some (tD r), none], .inl ?_, by rw [acc]; rfl⟩
            generalize setD (addL (((pre.flatMap (fromF s h)) ++ (pr.filter (canF s h q)).map (ledF s h q)).foldl addL []) r) = S2 at put
            generalize setD (((pre.flatMap (fromF s h)) ++ (pr.filter (canF s h q)).map (ledF s h q)).foldl addL []) = S1 at put
            generalize D.str (whyF s h q o) = WW at why ge
            generalize skyD s = SK at why led
            generalize tD q = Q at why led
            generalize oD o = O at why led
            simp [M_law_link_l1, why, ge, led, put, cm, any]
          · have c := Bool.eq_false_iff.mpr c
            rw [c] at ge
            refine ⟨[some (skyD s), some (.int h), some (.lst (row.map tD)), some (.lst (later.map tD)), some (spotsD later), some (setD (((pre.flatMap (fromF s h)) ++ (pr.filter (canF s h q)).map (ledF s h q)).foldl addL [])), some (tD q), some (oD o), none, none], .inl ?_, ?_⟩
            · generalize setD (((pre.flatMap (fromF s h)) ++ (pr.filter (canF s h q)).map (ledF s h q)).foldl addL []) = S1
              generalize D.str (whyF s h q o) = WW at why ge
              generalize skyD s = SK at why
              generalize tD q = Q at why
              generalize oD o = O at why
              simp [M_law_link_l1, why, ge]
            · rw [List.filter_append]
              simp [c]
      subst e2
      have acc : ((pre ++ [q]).flatMap (fromF s h)).foldl addL [] = ((pre.flatMap (fromF s h)) ++ (Od.all.filter (canF s h q)).map (ledF s h q)).foldl addL [] := by
        rw [List.flatMap_append, List.flatMap_cons, List.flatMap_nil, List.append_nil]
        rfl
      have sO : Od.all.length ≤ sizeLine := by decide
      have s3 : (3 : Nat) ≤ sizeLine := by decide
      have eo : [D.str ("up" : Str), .str ("level" : Str), .str ("down" : Str)] = Od.all.map oD := rfl
      refine ⟨_, rfl, [some (skyD s), some (.int h), some (.lst (row.map tD)), some (.lst (later.map tD)), some (spotsD later), some (setD (((pre.flatMap (fromF s h)) ++ (Od.all.filter (canF s h q)).map (ledF s h q)).foldl addL [])), some (tD q), none, none, none], .inl ?_, by rw [acc]; rfl⟩
      generalize setD (((pre.flatMap (fromF s h)) ++ (Od.all.filter (canF s h q)).map (ledF s h q)).foldl addL []) = S2 at e1
      generalize setD ((pre.flatMap (fromF s h)).foldl addL []) = S1 at e1
      simp [M_law_link_l2, dFor, s3, eo, sO, e1]
  have cm : dComp (dItems (dVar 3)) (gdName 6) (dC (.bl true)) (dBin gIn (dVar 6) (dVar 5)) [6] [some (skyD s), some (.int h), some (.lst (row.map tD)), some (.lst (later.map tD)), some (spotsD later), some (setD ((row.flatMap (fromF s h)).foldl addL [])), none, none, none, none] = .ok (.lst ((later.map fun _ => true).map D.bl)) := by
    rw [List.map_map]
    refine dComp_map (enc := tD) (h := D.bl ∘ fun _ => true) later (by simp) (by omega) fun t ht => ⟨_, rfl, rfl, ?_⟩
    have g := gIn_add keyEq_t (.bl true) t (keyFits_iD (tL _)) ((row.flatMap (fromF s h)).foldl addL [])
    have m : t ∈ (row.flatMap (fromF s h)).foldl addL [] := by
      rw [mem_addAll]
      obtain ⟨q, hq, hq2⟩ := dn t ht
      exact .inr (List.mem_flatMap.mpr ⟨q, hq, hq2⟩)
    have g : gIn (tD t) (setD ((row.flatMap (fromF s h)).foldl addL [])) = some (.bl true) := by
      rw [show setD ((row.flatMap (fromF s h)).foldl addL []) = _ from rfl]
      unfold setD
      rw [g]
      exact dec_bl _ m
    generalize setD ((row.flatMap (fromF s h)).foldl addL []) = S at g
    generalize tD t = TT at g
    simp [g]
  have al : ((later.map fun _ => true).all id) = true := by simp
  rw [show setD [] = .dic true [] [] from rfl] at e1
  rw [runF_eq]
  have sp := hS later zl
  generalize setD ((row.flatMap (fromF s h)).foldl addL []) = S at e1 cm
  generalize (later.map fun _ => true) = bs at cm al
  simp [M_law_link, sp, dFor, e1, cm, al]
theorem law_true : ∀ ns : List Int, ns.length ≤ 63 → runF d_law.N.length b_law.f [frScript ns] = .ok (.bl true) := by
  intro sc hsc
  show e_law.den [frScript sc] = _
  obtain ⟨ns, hns, en⟩ := numbers_ok sc hsc 140 (by omega)
  rw [← show e_law_numbers.den = _ from q_law_numbers] at en
  have hboxF : ∀ (x y : Int) (d0 d1 d2 d3 d4 d5 : Int) (r : List Int), e_law_box.den [.lst ((d0 :: d1 :: d2 :: d3 :: d4 :: d5 :: r).map D.int), .tup [.int x, .int y]] = .ok (boxN x y d0 d1 d2 d3 d4 d5) := fun x y d0 d1 d2 d3 d4 d5 r => by
    rw [q_law_box]; exact box_ok x y d0 d1 d2 d3 d4 d5 r
  obtain ⟨x, y, h, n, s, p, S, n8, hh0, hhn, hz, hpos, ec⟩ := case_pos (c0 := e_law_state.den) (c1 := e_law_sky.den) (c2 := e_law_base.den) hns (fun d x y _ => by rw [q_law_state]) (fun d x y h hd h0 h24 => by
    obtain ⟨s, S, es⟩ := sky_ok hd (by omega) e_law_box.den (x := x) (y := y) (hboxF x y) (h := h) h0 h24
    exact ⟨s, S, by rw [q_law_sky]; exact es⟩) (fun d => by rw [q_law_base])
  rw [← show e_law_case.den = _ from q_law_case] at ec
  have ecp : e_law_copy.den [skyD s] = .ok (skyD s) := by rw [q_law_copy]; exact copy_ok s
  have sl := S.sl
  have hl := S.hl
  have w0 : ∀ w ∈ s.winds, 0 ≤ w.1 := fun w hw => (S.wk w hw).1.1
  have wl : s.winds.length ≤ 1000 := by have := S.wl; omega
  have hin : ∀ a b c e f g x y z : Int, e_inside.den [box6 a b c e f g, .int x, .int y, .int z] = .ok (.bl (decide (a ≤ x ∧ x ≤ c ∧ b ≤ y ∧ y ≤ e ∧ f ≤ z ∧ z ≤ g))) := fun a b c e f g x y z => by
    rw [q_inside]; exact inside_ok a b c e f g x y z
  have hli : ∀ a b c e f g x y z : Int, e_law_in.den [box6 a b c e f g, .int x, .int y, .int z] = .ok (.bl (decide (a ≤ x ∧ x ≤ c ∧ b ≤ y ∧ y ≤ e ∧ f ≤ z ∧ z ≤ g))) := fun a b c e f g x y z => by
    rw [q_law_in]; exact law_in_ok a b c e f g x y z
  have hled : ∀ (h : Int) (p : St) (o : Od), e_led_to.den [skyD s, .int h, tD p, oD o] = .ok (tD (ledF s h p o)) := fun h p o => by
    rw [q_led_to]; exact led_to_ok s (fun h l => by rw [q_wind_at]; exact wind_at_ok s.winds h l) h p o
  have hwhy : ∀ (h : Int) (p : St) (o : Od), e_why_not.den [skyD s, .int h, tD p, oD o] = .ok (.str (whyF s h p o)) := fun h p o => by
    rw [q_why_not]
    refine why_not_ok s hled (fun h p => ?_) (fun p o => ?_) h p o
    · rw [q_standing]; exact standing_ok s (fun h x y z => by rw [q_shut_at]; exact shut_at_ok hin s.shuts h x y z) (fun x y => by rw [q_ground_at]; exact ground_at_ok s.hills x y) h p.1 p.2.1 p.2.2.1 p.2.2.2.1 p.2.2.2.2
    · rw [q_held_back]; exact held_ok p o
  have hlled : ∀ (h : Int) (p : St) (o : Od), 0 ≤ p.2.2.1 + o.dz → e_law_led.den [skyD s, .int h, tD p, oD o] = .ok (tD (ledF s h p o)) := fun h p o h0 => by
    rw [q_law_led]; exact law_led_ok s (fun h l => by rw [q_law_wind]; exact law_wind_ok s.winds h l w0 wl) h p o h0
  have hlwhy : ∀ (h : Int) (p : St) (o : Od), 0 ≤ p.2.2.1 → e_law_why.den [skyD s, .int h, tD p, oD o] = .ok (.str (whyF s h p o)) := fun h p o h0 => by
    rw [q_law_why]
    refine law_why_ok s hlled (fun h p => ?_) h p o h0
    rw [q_law_stand]; exact law_stand_ok s (fun h x y z => by rw [q_law_shut]; exact law_shut_ok hli s.shuts h x y z (by omega)) (fun x y => by rw [q_law_ground]; exact law_ground_ok s.hills x y (by omega)) h p.1 p.2.1 p.2.2.1 p.2.2.2.1 p.2.2.2.2
  have hch : ∀ (h : Int) (p : St), e_choices.den [skyD s, .int h, tD p] = .ok (.lst ((Od.all.filter (canF s h p)).map oD)) := fun h p => by rw [q_choices]; exact choices_ok s hwhy h p
  have hnx : ∀ (h : Int) (p : St) (o : Od), canF s h p o = true → e_next_state.den [skyD s, .int h, tD p, oD o] = .ok (tD (ledF s h p o)) := fun h p o c => by rw [q_next_state]; exact next_ok2 s hled hwhy h p o c
  have hfr : ∀ l : List Pr, l.length ≤ 100000 → e_front.den [.lst (l.map pqD)] = .ok (.lst ((frontF l).map pqD)) := fun l hl => by rw [q_front]; exact front_ok l hl
  have htab : ∀ (st : St) (n : Nat), n ≤ 8 → e_table.den [skyD s, .int h, tD st, .int (n : Int)] = .ok (.lst (((List.range (n + 1)).map (tableF s h st)).map rowD)) := fun st n n8 => by
    rw [q_table]
    refine table_ok s (fun h l h1 => by rw [q_behind]; exact behind_ok s hch hnx h l h1) (fun l hl => ?_) h st n n8
    rw [q_unbeaten]
    exact unbeaten_ok hfr l hl
  have hsp : ∀ l : List St, l.length ≤ 100000 → e_law_spots.den [.lst (l.map tD)] = .ok (spotsD l) := fun l hl => by rw [q_law_spots]; exact spots_ok l hl
  have hpl : ∀ l : List St, e_law_plain.den [.lst (l.map tD)] = .ok (.bl true) := fun l => by rw [q_law_plain]; exact plainR_ok l
  have hbt : ∀ (p : Pr) (l : List Pr), l.length ≤ 100000 → e_law_beaten.den [pqD p, .lst (l.map pqD)] = .ok (.bl (l.any fun q => decide (beat q p))) := fun p l hl => by rw [q_law_beaten]; exact beatenL_ok p l hl
  obtain ⟨x8, _, _, e8⟩ := dr_get hns (i := 8) (by omega) (by omega)
  have e8 : gIx (.lst (ns.map D.int)) (.int 8) = some (.int x8) := e8
  obtain ⟨d6, hd6, e6⟩ := dr_cutI hns (i := 130) (j := 136) 130 136 (by omega) (by omega) (by omega) (by omega)
  rw [show 136 - 130 = 5 + 1 by omega] at hd6
  have e6 : gSl (.lst (ns.map D.int)) (some 130) (some 136) = some (.lst (d6.map D.int)) := by
    show some (D.lst (cutD _ _ _)) = _
    rw [e6]
  obtain ⟨u, v, z, a, b, _, _, hz6, ha, hb, est⟩ := state_ok (n := 1) hd6 x y 6 (by omega)
  rw [← show e_law_state.den = _ from q_law_state] at est
  obtain ⟨m, q, m8, qz, qpos, step⟩ : ∃ (m : Nat) (q : St), m ≤ 8 ∧ 0 ≤ q.2.2.1 ∧ posS q ∧ dIfS (dBin gEq (dBin gModI (dBin gIx (dVar 1) (dC (.int (8)))) (dC (.int (4)))) (dC (.int (1)))) (dSeq (dSet 4 (dCallO gMin (dCons (dC (.int (6))) (dCons (dBin gSubI (dC (.int (24))) (dVar 3)) dNil)))) (dSeq (dSet 6 (dCall e_law_state.den (dCons (dSl (dVar 1) (dPart (dC (.int (130)))) (dPart (dC (.int (136))))) (dCons (dVar 2) (dCons (dC (.int (6))) dNil))))) dNext)) dNext
      [some (frScript sc), some (.lst (ns.map D.int)), some (.tup [.int x, .int y]), some (.int h), some (.int (n : Int)), some (skyD s), some (tD p), none, none, none, none, none, none, none] =
      .nx [some (frScript sc), some (.lst (ns.map D.int)), some (.tup [.int x, .int y]), some (.int h), some (.int (m : Int)), some (skyD s), some (tD q), none, none, none, none, none, none, none] := by
    generalize D.lst (ns.map D.int) = NS at e8 e6
    generalize D.lst (d6.map D.int) = D6 at e6 est
    by_cases c : x8 % 4 = 1
    · have mm : minI 6 (24 - h) = (((minI 6 (24 - h)).toNat : Nat) : Int) ∧ minI 6 (24 - h) ≤ 6 := by
        unfold minI
        split <;> omega
      refine ⟨(minI 6 (24 - h)).toNat, (u, v, z, a, b), by omega, hz6.1, ⟨ha.1, hb.1⟩, ?_⟩
      rw [← mm.1]
      rw [show stD u v z a b = tD (u, v, z, a, b) from rfl] at est
      generalize tD (u, v, z, a, b) = Q at est
      simp [e8, c, e6, est, -gSl_lst]
    · exact ⟨n, p, n8, hz.1, hpos, by simp [e8, c]⟩
  have tl : ∀ k, k ≤ m → (tableF s h q k).length ≤ 6561 := fun k hk => Nat.le_trans (tableF_len s h q k) (pow3 (by omega))
  have tz : ∀ k, ∀ r ∈ tableF s h q k, 0 ≤ r.2.2.1 := fun k r hr => statesF_z qz k r ((table_states qpos k).1 r hr)
  have T1 := htab q m m8
  have g7 : gIsT .list (.lst (((List.range (m + 1)).map (tableF s h q)).map rowD)) = some (.bl true) := rfl
  have l7 : (((List.range (m + 1)).map (tableF s h q)).map rowD).length = m + 1 := by simp
  have at7 : ∀ k : Nat, k ≤ m → gIx (.lst (((List.range (m + 1)).map (tableF s h q)).map rowD)) (.int (k : Int)) = some (rowD (tableF s h q k)) := fun k hk => by
    show atI _ (k : Int) = _
    rw [atI_natL, List.map_map]
    exact range_at _ (by omega)
  have at0 := at7 0 (by omega)
  have sm0 : g_law_same 4 [.lst [tD q], .lst [tD q]] = .ok (.bl true) := same_fam q_law_same 4 _ rfl
  -- row by row
  obtain ⟨env', h1, rfl⟩ := forGo_inv (gd := gdName 8) (body := M_x_law_l2 e_law_link.den e_law_beaten.den e_law_spots.den e_law_plain.den (g_law_same 4) e_law_copy.den e_table.den e_law_state.den e_law_case.den e_law_numbers.den) (ks := [8, 9, 10]) (enc := rowD)
    (fun _ env => env = [some (frScript sc), some (.lst (ns.map D.int)), some (.tup [.int x, .int y]), some (.int h), some (.int (m : Int)), some (skyD s), some (tD q), some (.lst (((List.range (m + 1)).map (tableF s h q)).map rowD)), none, none, none, none, none, none]) ((List.range (m + 1)).map (tableF s h q)) rfl fun pre l post env hi ev => by
      subst ev
      obtain ⟨k, hk, rfl⟩ := List.mem_map.mp (pre_mem hi)
      have hk := List.mem_range.mp hk
      have ll := tl k (by omega)
      have nb := table_nb (s := s) (h := h) qpos k
      obtain ⟨so, nd⟩ := tableF_sorted s h q k
      generalize tableF s h q k = l at ll nb so nd
      generalize ((List.range (m + 1)).map (tableF s h q)).map rowD = RR
      have pl := hpl l
      have sp := hsp l (by omega)
      obtain ⟨env2, h2, rfl⟩ := forGo_inv (gd := gdName 10) (body := M_x_law_l1 e_law_link.den e_law_beaten.den e_law_spots.den e_law_plain.den (g_law_same 4) e_law_copy.den e_table.den e_law_state.den e_law_case.den e_law_numbers.den) (ks := [10]) (enc := spD)
        (fun _ env => env = [some (frScript sc), some (.lst (ns.map D.int)), some (.tup [.int x, .int y]), some (.int h), some (.int (m : Int)), some (skyD s), some (tD q), some (.lst RR), some (rowD l), some (spotsD l), none, none, none, none]) (keysF l) rfl fun pre2 kk post2 env hi2 ev => by
          subst ev
          have ix := spots_ix l kk (pre_mem hi2)
          have gl := grpF_len l kk
          have cm : ∀ e0 e1 e2 e3 e4 e5 e6 e7 e8 e11 e13, dComp (dItems (dBin gIx (dVar 9) (dVar 10))) (gdName 12) (dC (.bl true)) (dCall e_law_beaten.den (dCons (dVar 12) (dCons (dBin gIx (dVar 9) (dVar 10)) dNil))) [12]
              [e0, e1, e2, e3, e4, e5, e6, e7, e8, some (spotsD l), some (spD kk), e11, none, e13] = .ok (.lst (((grpF l kk).map fun _ => false).map D.bl)) := fun e0 e1 e2 e3 e4 e5 e6 e7 e8 e11 e13 => by
            rw [List.map_map]
            refine dComp_map (enc := pqD) (h := D.bl ∘ fun _ => false) (grpF l kk) ?_ (by omega) fun pr hpr => ⟨_, rfl, rfl, ?_⟩
            · generalize spotsD l = SP at ix
              generalize spD kk = KK at ix
              simp [ix]
            · have bt := hbt pr (grpF l kk) (by omega)
              rw [nb_grp nb kk pr hpr] at bt
              generalize spotsD l = SP at ix
              generalize spD kk = KK at ix
              generalize pqD pr = PP at bt
              generalize (grpF l kk).map pqD = GG at bt ix
              simp [ix, bt]
          have any : ((grpF l kk).map fun _ => false).any id = false := by simp
          generalize ((grpF l kk).map fun _ => false) = bs at cm any
          refine ⟨_, rfl, [some (frScript sc), some (.lst (ns.map D.int)), some (.tup [.int x, .int y]), some (.int h), some (.int (m : Int)), some (skyD s), some (tD q), some (.lst RR), some (rowD l), some (spotsD l), some (spD kk), none, none, none], .inl ?_, rfl⟩
          generalize spotsD l = SP at cm
          generalize spD kk = KK at cm
          simp [M_x_law_l1, cm, any]
      have spu : ∀ env' : DEnv, dForK 9 (gdName 10) (M_x_law_l1 e_law_link.den e_law_beaten.den e_law_spots.den e_law_plain.den (g_law_same 4) e_law_copy.den e_table.den e_law_state.den e_law_case.den e_law_numbers.den) [10] [some (frScript sc), some (.lst (ns.map D.int)), some (.tup [.int x, .int y]), some (.int h), some (.int (m : Int)), some (skyD s), some (tD q), some (.lst RR), some (rowD l), some (spotsD l), none, none, none, none] =
          .nx [some (frScript sc), some (.lst (ns.map D.int)), some (.tup [.int x, .int y]), some (.int h), some (.int (m : Int)), some (skyD s), some (tD q), some (.lst RR), some (rowD l), none, none, none, none, none] := fun _ => by
        rw [dForK_eq (t := true) (keys := (keysF l).map spD) (ws := (keysF l).map (grpD l)) rfl, h2]
        rfl
      have spu := spu []
      have len : (l.map tD).length = l.length := List.length_map ..
      have cm : ∀ e0 e1 e2 e3 e4 e5 e6 e7 e9 e10 e11 e12, dComp (dRange1 (dBin gSubI (dCallO gLen (dCons (dVar 8) dNil)) (dC (.int (1))))) (gdName 13) (dC (.bl true)) (dBin gLt (dBin gIx (dVar 8) (dVar 13)) (dBin gIx (dVar 8) (dBin gAdd (dVar 13) (dC (.int (1)))))) [13]
          [e0, e1, e2, e3, e4, e5, e6, e7, some (rowD l), e9, e10, e11, e12, none] = .ok (.lst (((List.range (l.length - 1)).map fun _ => true).map D.bl)) := fun e0 e1 e2 e3 e4 e5 e6 e7 e9 e10 e11 e12 => by
        have rg : rng ((l.length : Int) - 1) = .ok ((List.range (l.length - 1)).map fun (i : Nat) => D.int (i : Int)) := by
          rw [rng_ok (by omega) (by omega)]
          congr 3
          omega
        rw [List.map_map]
        refine dComp_map (enc := fun (i : Nat) => D.int (i : Int)) (h := D.bl ∘ fun _ => true) (List.range (l.length - 1)) (by simp [rowD, rg]) (by simp; omega) fun i hi => ⟨_, rfl, rfl, ?_⟩
        have hi := List.mem_range.mp hi
        have a0 : gIx (rowD l) (.int (i : Int)) = some (tD (l[i]'(by omega))) := by
          show atI (l.map tD) (i : Int) = _
          rw [atI_natL, List.getElem?_map, List.getElem?_eq_getElem (by omega)]
          rfl
        have a1 : gIx (rowD l) (.int ((i : Int) + 1)) = some (tD (l[i + 1]'(by omega))) := by
          show atI (l.map tD) (((i + 1 : Nat) : Int)) = _
          rw [atI_natL, List.getElem?_map, List.getElem?_eq_getElem (by omega)]
          rfl
        have lt := strict_at so nd (k := i) (List.getElem?_eq_getElem (by omega)) (List.getElem?_eq_getElem (by omega))
        generalize tD (l[i]'(by omega)) = A at a0 lt
        generalize tD (l[i + 1]'(by omega)) = B at a1 lt
        generalize rowD l = L at a0 a1
        simp [a0, a1, lt]
      have al : ((List.range (l.length - 1)).map fun _ => true).all id = true := by simp
      generalize ((List.range (l.length - 1)).map fun _ => true) = bs at cm al
      have sp : e_law_spots.den [rowD l] = .ok (spotsD l) := sp
      have pl : e_law_plain.den [rowD l] = .ok (.bl true) := pl
      have an : anyL (spotsD l) = .ok (spotsD l) := rfl
      refine ⟨_, rfl, [some (frScript sc), some (.lst (ns.map D.int)), some (.tup [.int x, .int y]), some (.int h), some (.int (m : Int)), some (skyD s), some (tD q), some (.lst RR), some (rowD l), none, none, none, none, none], .inl ?_, rfl⟩
      generalize rowD l = L at *
      generalize spotsD l = SP at *
      unfold M_x_law_l2
      generalize dForK 9 _ _ _ = FK at spu ⊢
      simp [pl, sp, an, spu, cm, al]
  -- list by list
  have cmL : ∀ e8 e9 e10 e12 e13, dComp (dRange1 (dVar 4)) (gdName 11) (dC (.bl true)) (dCall e_law_link.den (dCons (dVar 5) (dCons (dBin gAdd (dVar 3) (dVar 11)) (dCons (dBin gIx (dVar 7) (dVar 11)) (dCons (dBin gIx (dVar 7) (dBin gAdd (dVar 11) (dC (.int (1))))) dNil))))) [11]
      [some (frScript sc), some (.lst (ns.map D.int)), some (.tup [.int x, .int y]), some (.int h), some (.int (m : Int)), some (skyD s), some (tD q), some (.lst (((List.range (m + 1)).map (tableF s h q)).map rowD)), e8, e9, e10, none, e12, e13] = .ok (.lst (((List.range m).map fun _ => true).map D.bl)) := fun e8 e9 e10 e12 e13 => by
    have rg := rng_nat (n := m) (by omega)
    rw [show (((List.range m).map fun _ => true).map D.bl) = (List.range m).map (D.bl ∘ fun _ => true) from List.map_map ..]
    refine dComp_map (enc := fun (i : Nat) => D.int (i : Int)) (h := D.bl ∘ fun _ => true) (List.range m) (by simp [rg]) (by simp; omega) fun i hi => ⟨_, rfl, rfl, ?_⟩
    have hi := List.mem_range.mp hi
    have a0 := at7 i (by omega)
    have a1 := at7 (i + 1) (by omega)
    rw [show (((i + 1 : Nat) : Int)) = (i : Int) + 1 by omega] at a1
    have l0 := tl i (by omega)
    have l1 := tl (i + 1) (by omega)
    have h0 : ∀ t ∈ behindF s (h + i) (tableF s h q i), 0 ≤ t.2.2.2.2 := fun t ht => (statesF_pos qpos (i + 1) t (behind_sub (table_states qpos i).1 t ht)).2
    have lk : e_law_link.den [skyD s, .int (h + (i : Int)), rowD (tableF s h q i), rowD (tableF s h q (i + 1))] = .ok (.bl true) := by
      rw [q_law_link]
      refine link_ok s hlwhy hlled hsp (h + (i : Int)) (tableF s h q i) (tableF s h q (i + 1)) (tz i) (by omega) (by omega) (fun t ht r hr => ?_) fun t ht => ?_
      · exact unbF_top h0 r ((behindF_mem s (h + i) (tableF s h q i) r).mpr ⟨t, ht, hr⟩)
      · exact (behindF_mem s (h + i) (tableF s h q i) t).mp ((unbF_mem h0 t).mp ht).1
    generalize rowD (tableF s h q i) = R0 at a0 lk
    generalize rowD (tableF s h q (i + 1)) = R1 at a1 lk
    generalize D.lst (((List.range (m + 1)).map (tableF s h q)).map rowD) = RR at a0 a1
    simp [a0, a1, lk]
  have alL : ((List.range m).map fun _ => true).all id = true := by simp
  generalize ((List.range m).map fun _ => true) = bs at cmL alL
  have lz : ((List.range (m + 1)).map (tableF s h q)).length ≤ sizeLine := le_size (by simp; omega)
  have at0 : gIx (.lst (((List.range (m + 1)).map (tableF s h q)).map rowD)) (.int 0) = some (.lst [tD q]) := at0
  have s1 : (1 : Nat) ≤ sizeLine := by decide
  rw [q_law, runF_eq]
  simp at en
  unfold M_x_law
  generalize ((List.range (m + 1)).map (tableF s h q)).map rowD = RR at *
  generalize dIfS (dBin gEq (dBin gModI (dBin gIx (dVar 1) (dC (.int (8)))) (dC (.int (4)))) (dC (.int (1)))) _ dNext = IF at step ⊢
  simp [en, ec, step, ecp, T1, g7, l7, at0, sm0, s1, dFor, h1, cmL, alL]
/-! ### the head -/
abbrev R : PySem.W.OpenRow := PySem.W.OpenLaw.row PySem.Challenge.rw_ballastbook_k18_whole_tables_are_closed
def loose : List PySem.Str := (["front", "TOP", "inside", "ground_at", "shut_at", "standing", "BookError", "Stopped", "wind_at", "ORDERS", "held_back", "led_to", "why_not", "next_state", "choices", "behind", "unbeaten", "table", "_law_numbers", "_law_same", "_law_base", "_law_box", "_law_sky", "_law_state", "_law_wind", "_law_ground", "_law_in", "_law_shut", "_law_stand", "_law_led"] : List PySem.Str) ++ (["_law_why", "_law_beaten", "_law_copy", "_law_case", "_law_spots", "_law_link", "_law_plain"] : List PySem.Str)
abbrev faL : List He.Fa := faOf (nmOfM defs xs) blts
abbrev fnL : List He.DefD := fnOfM defs xs
abbrev hk : PySem.W.Hook := hookM 4 cons xs faL fnL
def ob (s : PySem.W.SharedT) : AlM := obsMG 4 cons xs faL fnL (HandSHeadRun.getT s)
theorem ob_eq (s : PySem.W.SharedT) : ob s = hk.obs s.abs := obsMG_eq (HandSHeadRun.getT_eq s)
theorem run (w : World) : HandSHeadRun.RunEq R (PySem.W.view R.prog [46]) hk ob 3000 loose w := by
  intro os
  kernel_rfl
end Lw
open PySem PySem.W PySem.Calls PyProof.Rows
set_option maxHeartbeats 4000000 in
theorem PySem.Challenge.cw_ballastbook_k18_whole_tables_are_closed_holds : PySem.Challenge.rw_ballastbook_k18_whole_tables_are_closed.Holds := by
  w_on; o_law
  refine HandSHeadRun.head_any (r := OpenLaw.row PySem.Challenge.rw_ballastbook_k18_whole_tables_are_closed) (q := view (OpenLaw.row PySem.Challenge.rw_ballastbook_k18_whole_tables_are_closed).prog [46]) (H := Lw.hk) (ob := Lw.ob) (M := 3000) (loose := Lw.loose) (d := HandSHeadRun.topDef (OpenLaw.row PySem.Challenge.rw_ballastbook_k18_whole_tables_are_closed).prog 46) (kwd := []) Lw.ob_eq
    (by kernel_rfl) (fun s => by kernel_rfl) Lw.run (by kernel_rfl) (by kernel_rfl) (by kernel_rfl) (by rfl) (by first | assumption | decide +kernel) (by decide +kernel) ⟨rfl, rfl, rfl, rfl, rfl, by decide +kernel⟩ ?hw ?hc
  case hw => w_witness2
  case hc =>
    exact Dl.law_end (l := PySem.Challenge.rw_ballastbook_k18_whole_tables_are_closed) (n := 63) (k := 7) (x := "_law_script") (i := 33) (st := Lw.s_law) (d := Lw.d_law) (xs := Lw.xs) (m := 4) rfl (by decide) (by kernel_rfl) ⟨rfl, by decide, by decide⟩ (by kernel_rfl) rfl rfl Lw.bq_law Lw.hq_law
      (fun w K mg base T => Dl.fns_cons (Lw.h_law_numbers T) (by decide) (Dl.fns_cons (Lw.h_law_case T) (by decide) (Dl.fns_cons (Lw.h_table T) (by decide) (Dl.fns_cons (Lw.h_law_state T) (by decide) (Dl.fns_cons (Lw.h_law_copy T) (by decide) (Dl.fns_cons (Lw.h_law_spots T) (by decide) (Dl.fns_cons (Lw.h_law_same T) (by decide) (Dl.fns_cons (Lw.h_law_plain T) (by decide) (Dl.fns_cons (Lw.h_law_link T) (by decide) (Dl.fns_cons (Lw.h_law_beaten T) (by decide) (Dl.fns_nil))))))))))) (fun w K mg base T => Dl.exs_nil) Lw.b_law Lw.law_true
