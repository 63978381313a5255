import PyProof.Rows.All
import Wide.All
import OpenK.AllK
import Wide.FinOn
import HandS.ForMost
import HandS.ForExc
import HandS.Walk
import HandS.IsInst
import HandS.Deep
import HandS.TupAny
import HandS.Style
import HandS.Conv
import HandS.Iter
import KE.GoesEnum
import HandS.Rev
import HandS.RevRange
import HandS.Zip
import HandS.Small
import HandS.ExcInit
import HandS.ExcField
import HandS.WordsExc
import KE.SortData
import KE.DataMinMax
import KE.KDictPairs
import KE.KDictKeyed
import HandS.FStr
import HandS.More
import HandS.Strs
import HandS.Dict
import PyProof.Rows.TupDisplay
import HandS.Defaults
import HandS.Head0
import HandS.Head1
import HandS.Head2
import HandS.HeadEnd
import HandS.HeadHook1
import HandS.HeadHook2
import PySem.Challenge.RW_ballastbook_k36_how_near_one_can_come
set_option Elab.async false
set_option linter.all false
set_option autoImplicit false
set_option maxRecDepth 100000
/-! Dl: plain data behind the values of a run. -/
namespace Dl
open PySem PySem.Spec PyProof.Rows L2

/-- a value as plain data -/
inductive D where
  | non | bl (b : Bool) | int (i : Int) | str (x : Str)
  | tup (xs : List D) | lst (xs : List D) | frl (xs : List D) | ktp (xs : List D) | dic (t : Bool) (ks vs : List D)
  deriving Inhabited

abbrev Pred := Addr → Prop
def keyD : Key → D
  | .inl i => .int i
  | .inr x => .str x

/-- a list that is never written: locked, or of the module -/
def SqF (K : PySem.W.Frag) (H : Hp) (a : Addr) (xs : List V) : Prop :=
  (∃ o, H a = some (.frz o (.lst xs))) ∨
    ∃ (o : Obj) (its : Array Value) (n : Nat), K.lookup a = some o ∧ o.cls = .type "list" ∧ o.dict = none ∧ o.data = .seq its n ∧ its.size ≤ sizeLine ∧ Vals xs its.toList
theorem SqF.sq {K : PySem.W.Frag} {H : Hp} {a : Addr} {xs : List V} (h : SqF K H a xs) : SqL K H a xs := h.elim (fun h => .inl (.inr h)) .inr
theorem SqF.same {K : PySem.W.Frag} {H H' : Hp} {a : Addr} {xs : List V} (s : Same H H') (h : SqF K H a xs) : SqF K H' a xs := h.elim (fun ⟨o, h⟩ => .inl ⟨o, s _ _ h⟩) .inr
/-- a dict of keys ks and values vs; t: its keys are tuples -/
def DicH (rd : HO → Prop) (t : Bool) (ks : List D) (vs : List V) : Prop := match t with
  | false => ∃ kvs : List (Key × V), rd (.dK kvs) ∧ kvs.map (fun p => keyD p.1) = ks ∧ kvs.map (·.2) = vs
  | true => ∃ kvs : List (List Key × V), rd (.dT kvs) ∧ kvs.map (fun p => D.tup (p.1.map keyD)) = ks ∧ kvs.map (·.2) = vs
theorem DicH.mono {rd rd' : HO → Prop} {t : Bool} {ks : List D} {vs : List V} (h : DicH rd t ks vs) (m : ∀ u, rd u → rd' u) : DicH rd' t ks vs := by
  cases t with
  | false => obtain ⟨kvs, a, b⟩ := h; exact ⟨kvs, m _ a, b⟩
  | true => obtain ⟨kvs, a, b⟩ := h; exact ⟨kvs, m _ a, b⟩
theorem DicH.there {rd : HO → Prop} {t : Bool} {ks : List D} {vs : List V} (h : DicH rd t ks vs) : ∃ u, rd u := by
  cases t with
  | false => obtain ⟨kvs, a, b⟩ := h; exact ⟨_, a⟩
  | true => obtain ⟨kvs, a, b⟩ := h; exact ⟨_, a⟩
mutual
/-- v stands for d, its lists and dicts beyond A -/
def Rp (K : PySem.W.Frag) (H : Hp) (A : Pred) : V → D → Prop
  | v, .non => v = .non
  | v, .bl b => v = .bl b
  | v, .int i => v = .int i
  | v, .str x => v = .str x
  | v, .tup ds => ∃ a vs, v = .ref a ∧ H a = some (.tup vs) ∧ Rps K H A vs ds
  | v, .ktp ds => ∃ a vs, v = .ref a ∧ SqT K H a vs ∧ Rps K H A vs ds
  | v, .lst ds => ∃ a vs, v = .ref a ∧ ¬ A a ∧ H a = some (.lst vs) ∧ Rps K H A vs ds
  | v, .frl ds => ∃ a vs, v = .ref a ∧ SqF K H a vs ∧ Rps K H A vs ds
  | v, .dic t ks ws => ∃ a vs, v = .ref a ∧ ¬ A a ∧ DicH (Rd H a) t ks vs ∧ Rps K H A vs ws
def Rps (K : PySem.W.Frag) (H : Hp) (A : Pred) : List V → List D → Prop
  | vs, [] => vs = []
  | vs, d :: ds => ∃ v r, vs = v :: r ∧ Rp K H A v d ∧ Rps K H A r ds
end

mutual
/-- no list and no dict within -/
def imm : D → Bool
  | .tup ds => imms ds
  | .frl ds => imms ds
  | .ktp ds => imms ds
  | .lst _ => false
  | .dic _ _ _ => false
  | _ => true
def imms : List D → Bool
  | [] => true
  | d :: ds => imm d && imms ds
end

section
variable {K : PySem.W.Frag} {H H' : Hp} {A A' : Pred}
theorem Rps.nil : Rps K H A [] [] := by unfold Rps; rfl
theorem Rps.cons {v : V} {d : D} {vs : List V} {ds : List D} (h : Rp K H A v d) (t : Rps K H A vs ds) : Rps K H A (v :: vs) (d :: ds) := by
  unfold Rps; exact ⟨v, vs, rfl, h, t⟩
theorem Rps.uncons {d : D} {vs : List V} {ds : List D} (h : Rps K H A vs (d :: ds)) : ∃ v r, vs = v :: r ∧ Rp K H A v d ∧ Rps K H A r ds := by
  unfold Rps at h; exact h
theorem Rps.nil_eq {vs : List V} (h : Rps K H A vs []) : vs = [] := by unfold Rps at h; exact h
theorem Rps.length : ∀ {vs : List V} {ds : List D}, Rps K H A vs ds → vs.length = ds.length
  | vs, [], h => by rw [h.nil_eq]; rfl
  | vs, d :: ds, h => by
    obtain ⟨v, r, rfl, _, t⟩ := h.uncons
    simp [Rps.length t]
theorem Rps.get : ∀ {vs : List V} {ds : List D} {i : Nat} {d : D}, Rps K H A vs ds → ds[i]? = some d → ∃ v, vs[i]? = some v ∧ Rp K H A v d
  | _, [], _, _, _, e => by simp at e
  | _, d :: ds, 0, _, h, e => by
    obtain ⟨v, r, rfl, q, _⟩ := h.uncons
    simp at e; subst e; exact ⟨v, rfl, q⟩
  | _, d :: ds, i + 1, d', h, e => by
    obtain ⟨v, r, rfl, _, t⟩ := h.uncons
    obtain ⟨u, e1, q⟩ := Rps.get (i := i) (d := d') t (by simpa using e)
    exact ⟨u, by simpa using e1, q⟩
theorem Rps.append : ∀ {vs ws : List V} {ds es : List D}, Rps K H A vs ds → Rps K H A ws es → Rps K H A (vs ++ ws) (ds ++ es)
  | _, _, [], _, h, g => by rw [h.nil_eq]; exact g
  | _, _, d :: ds, _, h, g => by
    obtain ⟨v, r, rfl, q, t⟩ := h.uncons
    exact .cons q (Rps.append t g)
theorem Rps.one {v : V} {d : D} (h : Rp K H A v d) : Rps K H A [v] [d] := .cons h .nil
theorem Rps.take : ∀ {vs : List V} {ds : List D} (n : Nat), Rps K H A vs ds → Rps K H A (vs.take n) (ds.take n)
  | _, _, 0, _ => by simp only [List.take_zero]; exact .nil
  | _, [], _ + 1, h => by rw [h.nil_eq]; exact .nil
  | _, d :: ds, n + 1, h => by
    obtain ⟨v, r, rfl, q, t⟩ := h.uncons
    exact .cons q (Rps.take n t)
theorem Rps.drop : ∀ {vs : List V} {ds : List D} (n : Nat), Rps K H A vs ds → Rps K H A (vs.drop n) (ds.drop n)
  | _, _, 0, h => h
  | _, [], _ + 1, h => by rw [h.nil_eq]; exact .nil
  | _, d :: ds, n + 1, h => by
    obtain ⟨v, r, rfl, q, t⟩ := h.uncons
    exact Rps.drop n t
theorem Rps.set {v : V} {d : D} (q : Rp K H A v d) : ∀ {vs : List V} {ds : List D} (i : Nat), Rps K H A vs ds → Rps K H A (vs.set i v) (ds.set i d)
  | _, [], _, h => by rw [h.nil_eq]; exact .nil
  | _, e :: ds, 0, h => by
    obtain ⟨_, r, rfl, _, t⟩ := h.uncons
    exact .cons q t
  | _, e :: ds, i + 1, h => by
    obtain ⟨_, r, rfl, p, t⟩ := h.uncons
    exact .cons p (Rps.set q i t)
theorem Rps.reverse : ∀ {vs : List V} {ds : List D}, Rps K H A vs ds → Rps K H A vs.reverse ds.reverse
  | _, [], h => by rw [h.nil_eq]; exact .nil
  | _, e :: ds, h => by
    obtain ⟨v, r, rfl, p, t⟩ := h.uncons
    rw [List.reverse_cons, List.reverse_cons]
    exact (Rps.reverse t).append (.one p)
theorem Rps.dropLast {vs : List V} {ds : List D} (h : Rps K H A vs ds) : Rps K H A vs.dropLast ds.dropLast := by
  rw [List.dropLast_eq_take, List.dropLast_eq_take, h.length]
  exact h.take _

/-- what the values lean on, carried to another heap -/
structure Carry (K : PySem.W.Frag) (H H' : Hp) (A A' : Pred) : Prop where
  tup : ∀ a xs, H a = some (.tup xs) → H' a = some (.tup xs)
  ktp : ∀ a xs, SqT K H a xs → SqT K H' a xs
  frl : ∀ a xs, SqF K H a xs → SqF K H' a xs
  lst : ∀ a xs, ¬ A a → H a = some (.lst xs) → ¬ A' a ∧ H' a = some (.lst xs)
  obj : ∀ a u, ¬ A a → Rd H a u → ¬ A' a ∧ Rd H' a u
mutual
theorem Rp.carry (c : Carry K H H' A A') : ∀ (d : D) (v : V), Rp K H A v d → Rp K H' A' v d
  | .non, v, h => by unfold Rp at *; exact h
  | .bl _, v, h => by unfold Rp at *; exact h
  | .int _, v, h => by unfold Rp at *; exact h
  | .str _, v, h => by unfold Rp at *; exact h
  | .tup ds, v, h => by
    unfold Rp at *
    obtain ⟨a, vs, e, s, t⟩ := h
    exact ⟨a, vs, e, c.tup a vs s, Rps.carry c ds vs t⟩
  | .lst ds, v, h => by
    unfold Rp at *
    obtain ⟨a, vs, e, n, r, t⟩ := h
    obtain ⟨n', r'⟩ := c.lst a _ n r
    exact ⟨a, vs, e, n', r', Rps.carry c ds vs t⟩
  | .frl ds, v, h => by
    unfold Rp at *
    obtain ⟨a, vs, e, s, t⟩ := h
    exact ⟨a, vs, e, c.frl a vs s, Rps.carry c ds vs t⟩
  | .ktp ds, v, h => by
    unfold Rp at *
    obtain ⟨a, vs, e, s, t⟩ := h
    exact ⟨a, vs, e, c.ktp a vs s, Rps.carry c ds vs t⟩
  | .dic t ks ws, v, h => by
    unfold Rp at *
    obtain ⟨a, vs, e, n, h, r⟩ := h
    obtain ⟨u, hu⟩ := h.there
    exact ⟨a, vs, e, (c.obj a u n hu).1, h.mono fun u z => (c.obj a u n z).2, Rps.carry c ws vs r⟩
theorem Rps.carry (c : Carry K H H' A A') : ∀ (ds : List D) (vs : List V), Rps K H A vs ds → Rps K H' A' vs ds
  | [], vs, h => by unfold Rps at *; exact h
  | d :: ds, vs, h => by
    unfold Rps at *
    obtain ⟨v, r, e, q, t⟩ := h
    exact ⟨v, r, e, Rp.carry c d v q, Rps.carry c ds r t⟩
end
theorem SqT.same {a : Addr} {xs : List V} (s : Same H H') (h : SqT K H a xs) : SqT K H' a xs := by
  rcases h with (h | ⟨o, h⟩) | h
  · exact .inl (.inl (s _ _ h))
  · exact .inl (.inr ⟨o, s _ _ h⟩)
  · exact .inr h
theorem Rd.same {a : Addr} {u : HO} (s : Same H H') (h : Rd H a u) : Rd H' a u := by
  rcases h with h | ⟨o, h⟩
  · exact .inl (s _ _ h)
  · exact .inr ⟨o, s _ _ h⟩
theorem Carry.same (s : Same H H') : Carry K H H' A A := ⟨fun _ _ h => s _ _ h, fun _ _ h => SqT.same s h, fun _ _ h => SqF.same s h, fun _ _ n h => ⟨n, s _ _ h⟩, fun _ _ n h => ⟨n, Rd.same s h⟩⟩
theorem Carry.weak (m : ∀ a, A' a → A a) : Carry K H H A A' := ⟨fun _ _ h => h, fun _ _ h => h, fun _ _ h => h, fun a _ n h => ⟨fun x => n (m a x), h⟩, fun a _ n h => ⟨fun x => n (m a x), h⟩⟩
theorem Rp.same {v : V} {d : D} (h : Rp K H A v d) (s : Same H H') : Rp K H' A v d := Rp.carry (.same s) d v h
theorem Rps.same {vs : List V} {ds : List D} (h : Rps K H A vs ds) (s : Same H H') : Rps K H' A vs ds := Rps.carry (.same s) ds vs h
theorem Rp.weak {v : V} {d : D} (h : Rp K H A v d) (m : ∀ a, A' a → A a) : Rp K H A' v d := Rp.carry (.weak m) d v h
theorem Rps.weak {vs : List V} {ds : List D} (h : Rps K H A vs ds) (m : ∀ a, A' a → A a) : Rps K H A' vs ds := Rps.carry (.weak m) ds vs h
/-- beyond a new address too -/
theorem Rd.ne {a p : Addr} {u : HO} (h : Rd H a u) (n : H p = none) : a ≠ p := by
  rcases h with h | ⟨o, h⟩
  · exact ne_of_none h n
  · exact ne_of_none h n
theorem Carry.new {p : Addr} {o : HO} (n : H p = none) : Carry K H (upd H p o) A (fun a => A a ∨ a = p) := by
  have s : Same H (upd H p o) := fun b x e => by rw [upd_ne (ne_of_none e n)]; exact e
  exact ⟨fun _ _ h => s _ _ h, fun _ _ h => SqT.same s h, fun _ _ h => SqF.same s h, fun a xs na h => ⟨fun z => z.elim na (fun e => ne_of_none h n e), s _ _ h⟩, fun a u na h => ⟨fun z => z.elim na (fun e => Rd.ne h n e), Rd.same s h⟩⟩
theorem same_new {p : Addr} {o : HO} (n : H p = none) : Same H (upd H p o) := fun b x e => by rw [upd_ne (ne_of_none e n)]; exact e
mutual
theorem Rp.imm : ∀ (d : D) (v : V), Rp K H A v d → Dl.imm d = true → Rp K H A' v d
  | .non, v, h, _ => by unfold Rp at *; exact h
  | .bl _, v, h, _ => by unfold Rp at *; exact h
  | .int _, v, h, _ => by unfold Rp at *; exact h
  | .str _, v, h, _ => by unfold Rp at *; exact h
  | .tup ds, v, h, i => by
    unfold Rp at *
    unfold Dl.imm at i
    obtain ⟨a, vs, e, s, t⟩ := h
    exact ⟨a, vs, e, s, Rps.imm ds vs t i⟩
  | .frl ds, v, h, i => by
    unfold Rp at *
    unfold Dl.imm at i
    obtain ⟨a, vs, e, s, t⟩ := h
    exact ⟨a, vs, e, s, Rps.imm ds vs t i⟩
  | .ktp ds, v, h, i => by
    unfold Rp at *
    unfold Dl.imm at i
    obtain ⟨a, vs, e, s, t⟩ := h
    exact ⟨a, vs, e, s, Rps.imm ds vs t i⟩
  | .lst ds, v, h, i => by unfold Dl.imm at i; cases i
  | .dic t ks ws, v, h, i => by unfold Dl.imm at i; cases i
theorem Rps.imm : ∀ (ds : List D) (vs : List V), Rps K H A vs ds → Dl.imms ds = true → Rps K H A' vs ds
  | [], vs, h, _ => by unfold Rps at *; exact h
  | d :: ds, vs, h, i => by
    unfold Rps at *
    unfold Dl.imms at i
    rw [Bool.and_eq_true] at i
    obtain ⟨v, r, e, q, t⟩ := h
    exact ⟨v, r, e, Rp.imm d v q i.1, Rps.imm ds r t i.2⟩
end
theorem Rp.int {v : V} {i : Int} : Rp K H A v (.int i) ↔ v = .int i := by unfold Rp; exact Iff.rfl
theorem Rp.bl {v : V} {b : Bool} : Rp K H A v (.bl b) ↔ v = .bl b := by unfold Rp; exact Iff.rfl
theorem Rp.non {v : V} : Rp K H A v .non ↔ v = .non := by unfold Rp; exact Iff.rfl
theorem Rp.str {v : V} {x : Str} : Rp K H A v (.str x) ↔ v = .str x := by unfold Rp; exact Iff.rfl
theorem Rp.tup {v : V} {ds : List D} : Rp K H A v (.tup ds) ↔ ∃ a vs, v = .ref a ∧ H a = some (.tup vs) ∧ Rps K H A vs ds := by conv => lhs; unfold Rp
theorem Rp.ktp {v : V} {ds : List D} : Rp K H A v (.ktp ds) ↔ ∃ a vs, v = .ref a ∧ SqT K H a vs ∧ Rps K H A vs ds := by conv => lhs; unfold Rp
theorem Rp.lst {v : V} {ds : List D} : Rp K H A v (.lst ds) ↔ ∃ a vs, v = .ref a ∧ ¬ A a ∧ H a = some (.lst vs) ∧ Rps K H A vs ds := by conv => lhs; unfold Rp
theorem Rp.frl {v : V} {ds : List D} : Rp K H A v (.frl ds) ↔ ∃ a vs, v = .ref a ∧ SqF K H a vs ∧ Rps K H A vs ds := by conv => lhs; unfold Rp
end

/-! ### outcomes -/
abbrev Fields := List (Str × D)
inductive Res where
  | ok (d : D) | exc (c : Str) (fs : Fields) | bad
abbrev DEnv := List (Option D)
inductive Out where
  | nx (e : DEnv) | rt (d : D) | bk (e : DEnv) | ct (e : DEnv) | exc (c : Str) (fs : Fields) (e : DEnv) | bad
abbrev DE := DEnv → Res
abbrev DS := DEnv → Out
abbrev DF := List D → Res

/-- how a slot is held: own: a list or dict that nothing else reaches; nw: within it (or it itself) nothing that stood at the entry -/
structure Md where
  own : Bool := false
  nw : Bool := false
  /-- 0: as above; 1: a tree that nothing else reaches, gone with the first write; 2: a dict of lists that nothing else reaches -/
  dp : Nat := 0
abbrev Mds := List Md
def mdAt (md : Mds) (i : Nat) : Md := (md[i]?).getD {}
/-- own things are lists and dicts -/
def isMutO : HO → Bool
  | .lst _ => true
  | .dK _ => true
  | .dT _ => true
  | _ => false
/-- at most one slot of the last kind, none of both kinds -/
structure MdOk (md : Mds) : Prop where
  od : ∀ i, (mdAt md i).own = true → (mdAt md i).dp = 0
  one : ∀ i j, (mdAt md i).dp ≠ 0 → (mdAt md j).dp ≠ 0 → i = j

def isLD : D → Bool
  | .lst _ => true
  | .dic _ _ _ => true
  | _ => false
def OwnAt (md : Mds) (σ : L2.St) (env : DEnv) (i : Nat) (a : Addr) : Prop := (mdAt md i).own = true ∧ (∃ d, env[i]? = some (some d) ∧ isLD d = true) ∧ σ[i]? = some (some (.ref a))
def Avd (md : Mds) (σ : L2.St) (env : DEnv) (T : Pred) (H0 : Hp) (nw : Bool) : Pred := fun a => (∃ i, OwnAt md σ env i a) ∨ T a ∨ (nw = true ∧ ∃ o, H0 a = some o)
/-- an owned list or dict at a -/
def Top (K : PySem.W.Frag) (H : Hp) (A : Pred) (a : Addr) : D → Prop
  | .lst ds => ∃ vs, H a = some (.lst vs) ∧ Rps K H A vs ds
  | .dic t ks ws => ∃ vs, DicH (fun u => H a = some u) t ks vs ∧ Rps K H A vs ws
  | _ => False
/-- a dict of lists at v, each reached once, all within S, their items without lists -/
def DpFull (K : PySem.W.Frag) (H : Hp) (S : Pred) (v : V) (d : D) : Prop := ∃ (a : Addr) (kvs : List (List Key × V)) (bs : List Addr) (ws : List (List D)), v = .ref a ∧ S a ∧ H a = some (.dT kvs) ∧ d = .dic true (kvs.map fun p => D.tup (p.1.map keyD)) (ws.map D.lst) ∧
  kvs.map (·.2) = bs.map V.ref ∧ (a :: bs).Nodup ∧ bs.length = ws.length ∧ ∀ (j : Nat) (b : Addr) (w : List D), bs[j]? = some b → ws[j]? = some w → S b ∧ imms w = true ∧ ∃ us, H b = some (.lst us) ∧ Rps K H (fun _ => False) us w
def DpOk (K : PySem.W.Frag) (H : Hp) (S : Pred) (k : Nat) (v : V) (d : D) : Prop := match k with
  | 1 => Rp K H (fun a => ¬ S a) v d
  | _ => DpFull K H S v d
theorem DpOk.carry {K : PySem.W.Frag} {H H' : Hp} {S S' : Pred} {k : Nat} {v : V} {d : D} (h : DpOk K H S k v d) (c : Carry K H H' (fun a => ¬ S a) (fun a => ¬ S' a)) (m : ∀ a u, S a → H a = some u → H' a = some u ∧ S' a) : DpOk K H' S' k v d := by
  unfold DpOk at *
  split at h
  · exact Rp.carry c d v h
  · obtain ⟨a, kvs, bs, ws, e1, e2, e3, e4, e5, e6, e7, e8⟩ := h
    obtain ⟨f1, f2⟩ := m a _ e2 e3
    refine ⟨a, kvs, bs, ws, e1, f2, f1, e4, e5, e6, e7, fun j b w hb hw => ?_⟩
    obtain ⟨g1, g2, us, g3, g4⟩ := e8 j b w hb hw
    obtain ⟨k1, k2⟩ := m b _ g1 g3
    exact ⟨k2, g2, us, k1, Rps.imm _ _ (Rps.carry c _ _ (Rps.imm (A' := fun a => ¬ S a) _ _ g4 g2)) g2⟩
/-- what an own slot holds: a list or dict that nothing else reaches, or a value without lists -/
structure OwnOk (K : PySem.W.Frag) (H : Hp) (A : Pred) (v : V) (d : D) : Prop where
  top : isLD d = true → ∃ a, v = .ref a ∧ Top K H A a d
  im : isLD d = false → imm d = true ∧ Rp K H (fun _ => False) v d
def SlotOk (K : PySem.W.Frag) (H : Hp) (A : Pred) (m : Md) (v : V) (d : D) : Prop :=
  if m.own = true then OwnOk K H A v d else Rp K H A v d

/-- the slots of a frame, their data; H0: the heap at the entry, B: what must stand, T: beyond that too -/
structure Rel (K : PySem.W.Frag) (md : Mds) (T : Pred) (H0 B H : Hp) (σ : L2.St) (env : DEnv) : Prop where
  s0 : ∀ a o, H0 a = some o → ∃ u, B a = some u
  sB : Same B H
  tB : ∀ a, T a → ∃ o, H a = some o
  len : σ.length = env.length
  slot : ∀ i d, env[i]? = some (some d) → (mdAt md i).dp = 0 → ∃ v, σ[i]? = some (some v) ∧ SlotOk K H (Avd md σ env T H0 (mdAt md i).nw) (mdAt md i) v d
  out : ∀ i a, OwnAt md σ env i a → B a = none
  sep : ∀ i j a, OwnAt md σ env i a → OwnAt md σ env j a → i = j
  tO : ∀ i a, OwnAt md σ env i a → ¬ T a
  st : MdOk md
  tM : ∀ a, T a → H0 a = none → ∃ u, H a = some u ∧ isMutO u = true
  deep : ∀ i d, env[i]? = some (some d) → (mdAt md i).dp ≠ 0 → ∃ v, σ[i]? = some (some v) ∧ DpOk K H (fun a => T a ∧ B a = none) (mdAt md i).dp v d

section
variable {K : PySem.W.Frag} {md : Mds} {T : Pred} {H0 B H H' : Hp} {σ : L2.St} {env : DEnv}
theorem Top.carry {A A' : Pred} {a : Addr} {d : D} (c : Carry K H H' A A') (k : ∀ u, H a = some u → H' a = some u) (h : Top K H A a d) : Top K H' A' a d := by
  cases d with
  | lst ds =>
    obtain ⟨vs, e, r⟩ := h
    exact ⟨vs, k _ e, Rps.carry c _ _ r⟩
  | dic t ks ws =>
    obtain ⟨vs, e, r⟩ := h
    exact ⟨vs, e.mono k, Rps.carry c _ _ r⟩
  | non => exact h
  | bl _ => exact h
  | int _ => exact h
  | str _ => exact h
  | tup _ => exact h
  | frl _ => exact h
  | ktp _ => exact h
theorem Top.there {A : Pred} {a : Addr} {d : D} (h : Top K H A a d) : ∃ o, H a = some o := by
  cases d with
  | lst ds => obtain ⟨vs, e, _⟩ := h; exact ⟨_, e⟩
  | dic t ks ws => obtain ⟨vs, e, _⟩ := h; exact e.there
  | non => exact h.elim
  | bl _ => exact h.elim
  | int _ => exact h.elim
  | str _ => exact h.elim
  | tup _ => exact h.elim
  | frl _ => exact h.elim
  | ktp _ => exact h.elim
theorem Top.ld {A : Pred} {a : Addr} {d : D} (t : Top K H A a d) : isLD d = true := by
  cases d with
  | lst _ => rfl
  | dic _ _ _ => rfl
  | _ => exact t.elim
theorem OwnOk.ofTop {A : Pred} {a : Addr} {d : D} (t : Top K H A a d) : OwnOk K H A (.ref a) d := ⟨fun _ => ⟨a, rfl, t⟩, fun h => by rw [t.ld] at h; cases h⟩
theorem OwnOk.carry {A A' : Pred} {v : V} {d : D} (h : OwnOk K H A v d) (c : Carry K H H' A A') (k : ∀ a u, v = .ref a → isLD d = true → H a = some u → H' a = some u) : OwnOk K H' A' v d :=
  ⟨fun hl => let ⟨a, e, t⟩ := h.top hl; ⟨a, e, t.carry c fun u eu => k a u e hl eu⟩, fun hl => let ⟨i, r⟩ := h.im hl; ⟨i, Rp.imm _ _ (Rp.carry c _ _ (Rp.imm _ _ r i)) i⟩⟩
theorem Rel.same (R : Rel K md T H0 B H σ env) (s : Same H H') : Rel K md T H0 B H' σ env := by
  refine ⟨R.s0, R.sB.trans s, fun a h => let ⟨o, e⟩ := R.tB a h; ⟨o, s _ _ e⟩, R.len, fun i d e hd => ?_, R.out, R.sep, R.tO, R.st, fun a h n => let ⟨u, e, m⟩ := R.tM a h n; ⟨u, s _ _ e, m⟩, fun i d e hd => let ⟨v, ev, q⟩ := R.deep i d e hd; ⟨v, ev, q.carry (.same s) fun a u h e => ⟨s _ _ e, h⟩⟩⟩
  obtain ⟨v, ev, q⟩ := R.slot i d e hd
  refine ⟨v, ev, ?_⟩
  unfold SlotOk at *
  split at q
  · next h => rw [if_pos h]; exact q.carry (.same s) fun a u _ _ => s a u
  · next h => rw [if_neg h]; exact q.same s
theorem Rel.ownThere (R : Rel K md T H0 B H σ env) {i : Nat} {a : Addr} (o : OwnAt md σ env i a) : ∃ u, H a = some u := by
  obtain ⟨h1, ⟨d, h2, hl⟩, h3⟩ := o
  obtain ⟨v, e, q⟩ := R.slot i d h2 (R.st.od i h1)
  rw [e] at h3
  cases h3
  unfold SlotOk at q
  rw [if_pos h1] at q
  obtain ⟨a', e1, t⟩ := q.top hl
  cases e1
  exact t.there
theorem Rel.avdThere (R : Rel K md T H0 B H σ env) {nw : Bool} {a : Addr} (h : Avd md σ env T H0 nw a) : ∃ u, H a = some u := by
  rcases h with ⟨i, o⟩ | h | ⟨_, o, e⟩
  · exact R.ownThere o
  · exact R.tB a h
  · obtain ⟨u, e⟩ := R.s0 _ _ e
    exact ⟨u, R.sB _ _ e⟩
theorem Avd.mono {nw nw' : Bool} (h : nw = true → nw' = true) {a : Addr} (x : Avd md σ env T H0 nw a) : Avd md σ env T H0 nw' a := by
  rcases x with x | x | ⟨e, x⟩
  · exact .inl x
  · exact .inr (.inl x)
  · exact .inr (.inr ⟨h e, x⟩)
/-- a slot that is not owned -/
theorem Rel.shared (R : Rel K md T H0 B H σ env) {i : Nat} {d : D} (e : env[i]? = some (some d)) (ho : (mdAt md i).own = false) (hd : (mdAt md i).dp = 0) : ∃ v, σ[i]? = some (some v) ∧ Rp K H (Avd md σ env T H0 (mdAt md i).nw) v d := by
  obtain ⟨v, ev, q⟩ := R.slot i d e hd
  refine ⟨v, ev, ?_⟩
  unfold SlotOk at q
  rw [if_neg (by rw [ho]; exact Bool.false_ne_true)] at q
  exact q
theorem Rel.owned (R : Rel K md T H0 B H σ env) {i : Nat} {d : D} (e : env[i]? = some (some d)) (ho : (mdAt md i).own = true) (hl : isLD d = true) : ∃ a, σ[i]? = some (some (.ref a)) ∧ OwnAt md σ env i a ∧ Top K H (Avd md σ env T H0 (mdAt md i).nw) a d := by
  obtain ⟨v, ev, q⟩ := R.slot i d e (R.st.od i ho)
  unfold SlotOk at q
  rw [if_pos ho] at q
  obtain ⟨a, rfl, t⟩ := q.top hl
  exact ⟨a, ev, ⟨ho, ⟨d, e, hl⟩, ev⟩, t⟩
/-- an own slot that holds no list -/
theorem Rel.ownedI (R : Rel K md T H0 B H σ env) {i : Nat} {d : D} (e : env[i]? = some (some d)) (ho : (mdAt md i).own = true) (hl : isLD d = false) : ∃ v, σ[i]? = some (some v) ∧ imm d = true ∧ Rp K H (fun _ => False) v d := by
  obtain ⟨v, ev, q⟩ := R.slot i d e (R.st.od i ho)
  unfold SlotOk at q
  rw [if_pos ho] at q
  exact ⟨v, ev, q.im hl⟩
theorem Rp.dic {A : Pred} {v : V} {t : Bool} {ks ws : List D} : Rp K H A v (.dic t ks ws) ↔ ∃ a vs, v = .ref a ∧ ¬ A a ∧ DicH (Rd H a) t ks vs ∧ Rps K H A vs ws := by conv => lhs; unfold Rp
theorem Top.rp {A : Pred} {a : Addr} {d : D} (h : Top K H A a d) : Rp K H (fun _ => False) (.ref a) d := by
  cases d with
  | lst ds =>
    obtain ⟨vs, e, r⟩ := h
    exact Rp.lst.mpr ⟨a, vs, rfl, id, e, r.weak fun _ z => z.elim⟩
  | dic t ks ws =>
    obtain ⟨vs, e, r⟩ := h
    exact Rp.dic.mpr ⟨a, vs, rfl, id, e.mono fun _ z => .inl z, r.weak fun _ z => z.elim⟩
  | non => exact h.elim
  | bl _ => exact h.elim
  | int _ => exact h.elim
  | str _ => exact h.elim
  | tup _ => exact h.elim
  | frl _ => exact h.elim
  | ktp _ => exact h.elim
/-- a slot forgotten -/
theorem kill_lookup {env : DEnv} {i j : Nat} {d : D} (e : (env.set i none)[j]? = some (some d)) : j ≠ i ∧ env[j]? = some (some d) := by
  by_cases h : j = i
  · subst h
    by_cases hl : j < env.length
    · rw [List.getElem?_set_self hl] at e; cases e
    · rw [List.getElem?_eq_none (by simpa using hl)] at e; cases e
  · exact ⟨h, by rwa [List.getElem?_set_ne (Ne.symm h)] at e⟩
end
end Dl

/-! Dl2: expressions. -/
namespace Dl
open PySem PySem.Spec PyProof.Rows L2

/-! ### outcomes again, of any kind -/
inductive RG (α : Type) where
  | ok (a : α) | exc (c : Str) (fs : Fields) | bad
def RG.bind {α β : Type} (r : RG α) (k : α → RG β) : RG β := match r with
  | .ok a => k a
  | .exc c fs => .exc c fs
  | .bad => .bad
def RG.ofO {α : Type} : Option α → RG α
  | some a => .ok a
  | none => .bad
abbrev DX := DEnv → RG D
abbrev DXs := DEnv → RG (List D)
abbrev DF' := List D → RG D

def ExcAt (K : PySem.W.Frag) (mg : Str → Option Value) (H : Hp) (c : Str) (fs : Fields) (cls : Value) (dd : Option Addr) : Prop :=
  mg c = some cls ∧ ∃ x ffs, dd = some x ∧ H x = some (.xd ffs) ∧ ∀ p ∈ fs, imm p.2 = true ∧ ∃ v, ffs.lookup p.1 = some v ∧ Rp K H (fun _ => False) v p.2

/-- a value read: st: beyond A whole; else its own address may lie in A -/
def Rk (st : Bool) (K : PySem.W.Frag) (H : Hp) (A : Pred) (v : V) (d : D) : Prop :=
  match st, d with
  | false, .lst ds => ∃ a vs, v = .ref a ∧ H a = some (.lst vs) ∧ Rps K H A vs ds
  | false, .dic t ks ws => ∃ a vs, v = .ref a ∧ DicH (Rd H a) t ks vs ∧ Rps K H A vs ws
  | _, d => Rp K H A v d
inductive Rks (st : Bool) (K : PySem.W.Frag) (H : Hp) (A : Pred) : List V → List D → Prop
  | nil : Rks st K H A [] []
  | cons {v : V} {d : D} {vs : List V} {ds : List D} : Rk st K H A v d → Rks st K H A vs ds → Rks st K H A (v :: vs) (d :: ds)

section
variable {K : PySem.W.Frag} {mg : Str → Option Value} {W : WX} {H H1 H' : Hp} {A A' : Pred} {σ : L2.St} {st : Bool} {v : V} {d : D}
theorem Rk.of (h : Rp K H A v d) : Rk st K H A v d := by
  cases st with
  | true => cases d <;> exact h
  | false =>
    cases d with
    | lst ds => obtain ⟨a, vs, e, _, r, t⟩ := Rp.lst.mp h; exact ⟨a, vs, e, r, t⟩
    | dic t ks ws => obtain ⟨a, vs, e, _, r⟩ := Rp.dic.mp h; exact ⟨a, vs, e, r⟩
    | non => exact h
    | bl _ => exact h
    | int _ => exact h
    | str _ => exact h
    | tup _ => exact h
    | frl _ => exact h
    | ktp _ => exact h
theorem Rk.strict (h : Rk true K H A v d) : Rp K H A v d := by cases d <;> exact h
theorem Rk.ofTop {a : Addr} (h : Top K H A a d) : Rk false K H A (.ref a) d := by
  cases d with
  | lst ds => obtain ⟨vs, e, r⟩ := h; exact ⟨a, vs, rfl, e, r⟩
  | dic t ks ws => obtain ⟨vs, e, r⟩ := h; exact ⟨a, vs, rfl, e.mono fun _ z => .inl z, r⟩
  | non => exact h.elim
  | bl _ => exact h.elim
  | int _ => exact h.elim
  | str _ => exact h.elim
  | tup _ => exact h.elim
  | frl _ => exact h.elim
  | ktp _ => exact h.elim
theorem Rk.same (h : Rk st K H A v d) (s : Same H H') : Rk st K H' A v d := by
  cases st with
  | true => exact .of (h.strict.same s)
  | false =>
    cases d with
    | lst ds => obtain ⟨a, vs, e, r, t⟩ := h; exact ⟨a, vs, e, s _ _ r, t.same s⟩
    | dic t ks ws => obtain ⟨a, vs, e, q, r⟩ := h; exact ⟨a, vs, e, q.mono fun _ z => Rd.same s z, r.same s⟩
    | non => exact Rp.same h s
    | bl _ => exact Rp.same h s
    | int _ => exact Rp.same h s
    | str _ => exact Rp.same h s
    | tup _ => exact Rp.same h s
    | frl _ => exact Rp.same h s
    | ktp _ => exact Rp.same h s
theorem Rk.free (h : Rk st K H A v d) : Rp K H (fun _ => False) v d := by
  cases st with
  | true => exact h.strict.weak fun _ z => z.elim
  | false =>
    cases d with
    | lst ds => obtain ⟨a, vs, e, r, t⟩ := h; exact Rp.lst.mpr ⟨a, vs, e, id, r, t.weak fun _ z => z.elim⟩
    | dic t ks ws => obtain ⟨a, vs, e, q, r⟩ := h; exact Rp.dic.mpr ⟨a, vs, e, id, q, r.weak fun _ z => z.elim⟩
    | non => exact Rp.weak (A := A) h fun _ (z : False) => z.elim
    | bl _ => exact Rp.weak (A := A) h fun _ (z : False) => z.elim
    | int _ => exact Rp.weak (A := A) h fun _ (z : False) => z.elim
    | str _ => exact Rp.weak (A := A) h fun _ (z : False) => z.elim
    | tup _ => exact Rp.weak (A := A) h fun _ (z : False) => z.elim
    | frl _ => exact Rp.weak (A := A) h fun _ (z : False) => z.elim
    | ktp _ => exact Rp.weak (A := A) h fun _ (z : False) => z.elim
theorem Rk.loose (h : Rk st K H A v d) : Rk false K H A v d := by
  cases st with
  | true => exact .of h.strict
  | false => exact h
theorem Rk.weak (h : Rk st K H A v d) (m : ∀ a, A' a → A a) : Rk st K H A' v d := by
  cases st with
  | true => exact .of (h.strict.weak m)
  | false =>
    cases d with
    | lst ds => obtain ⟨a, vs, e, r, t⟩ := h; exact ⟨a, vs, e, r, t.weak m⟩
    | dic t ks ws => obtain ⟨a, vs, e, q, r⟩ := h; exact ⟨a, vs, e, q, r.weak m⟩
    | non => exact Rp.weak h m
    | bl _ => exact Rp.weak h m
    | int _ => exact Rp.weak h m
    | str _ => exact Rp.weak h m
    | tup _ => exact Rp.weak h m
    | frl _ => exact Rp.weak h m
    | ktp _ => exact Rp.weak h m
theorem Rk.lst {ds : List D} (h : Rk st K H A v (.lst ds)) : ∃ a vs, v = .ref a ∧ H a = some (.lst vs) ∧ Rps K H A vs ds := by
  cases st with
  | true => obtain ⟨a, vs, e, _, r, t⟩ := Rp.lst.mp h.strict; exact ⟨a, vs, e, r, t⟩
  | false => exact h
theorem Rk.dic {t : Bool} {ks ws : List D} (h : Rk st K H A v (.dic t ks ws)) : ∃ a vs, v = .ref a ∧ DicH (Rd H a) t ks vs ∧ Rps K H A vs ws := by
  cases st with
  | true => obtain ⟨a, vs, e, _, r⟩ := Rp.dic.mp h.strict; exact ⟨a, vs, e, r⟩
  | false => exact h
theorem Rk.tup {ds : List D} (h : Rk st K H A v (.tup ds)) : ∃ a vs, v = .ref a ∧ H a = some (.tup vs) ∧ Rps K H A vs ds := by
  have h' : Rp K H A v (.tup ds) := by cases st <;> exact h
  exact Rp.tup.mp h'
theorem Rk.frl {ds : List D} (h : Rk st K H A v (.frl ds)) : ∃ a vs, v = .ref a ∧ SqF K H a vs ∧ Rps K H A vs ds := by
  have h' : Rp K H A v (.frl ds) := by cases st <;> exact h
  exact Rp.frl.mp h'
theorem Rk.ktp {ds : List D} (h : Rk st K H A v (.ktp ds)) : ∃ a vs, v = .ref a ∧ SqT K H a vs ∧ Rps K H A vs ds := by
  have h' : Rp K H A v (.ktp ds) := by cases st <;> exact h
  exact Rp.ktp.mp h'
theorem Rk.int {i : Int} (h : Rk st K H A v (.int i)) : v = .int i := by
  have h' : Rp K H A v (.int i) := by cases st <;> exact h
  exact Rp.int.mp h'
theorem Rk.bl {b : Bool} (h : Rk st K H A v (.bl b)) : v = .bl b := by
  have h' : Rp K H A v (.bl b) := by cases st <;> exact h
  exact Rp.bl.mp h'
theorem Rk.str {x : Str} (h : Rk st K H A v (.str x)) : v = .str x := by
  have h' : Rp K H A v (.str x) := by cases st <;> exact h
  exact Rp.str.mp h'
theorem Rk.non (h : Rk st K H A v .non) : v = .non := by
  have h' : Rp K H A v .non := by cases st <;> exact h
  exact Rp.non.mp h'
theorem Rks.same {vs : List V} {ds : List D} (h : Rks st K H A vs ds) (s : Same H H') : Rks st K H' A vs ds := by
  induction h with
  | nil => exact .nil
  | cons q _ ih => exact .cons (q.same s) ih
theorem Rks.free {vs : List V} {ds : List D} (h : Rks st K H A vs ds) : Rps K H (fun _ => False) vs ds := by
  induction h with
  | nil => exact .nil
  | cons q _ ih => exact .cons q.free ih
theorem Rks.strict {vs : List V} {ds : List D} (h : Rks true K H A vs ds) : Rps K H A vs ds := by
  induction h with
  | nil => exact .nil
  | cons q _ ih => exact .cons q.strict ih
theorem Rks.of {vs : List V} {ds : List D} (h : Rps K H A vs ds) : Rks st K H A vs ds := by
  induction ds generalizing vs with
  | nil => rw [h.nil_eq]; exact .nil
  | cons d ds ih =>
    obtain ⟨v, r, rfl, q, t⟩ := h.uncons
    exact .cons (.of q) (ih t)

/-- what is wanted of an outcome -/
def EP0 {α β : Type} (K : PySem.W.Frag) (mg : Str → Option Value) (W : WX) (σ : L2.St) (H : Hp) (r : RG α) (P : α → β → Hp → Prop) : Prop := match r with
  | .ok d => ∀ v H', Same H H' → P d v H'
  | .exc c fs => ∀ cls dd H', Same H H' → ExcAt K mg H' c fs cls dd → W cls dd σ H'
  | .bad => False
theorem EP0.same {α β : Type} {r : RG α} {P : α → β → Hp → Prop} (h : EP0 K mg W σ H r P) (s : Same H H1) : EP0 K mg W σ H1 r P := by
  cases r with
  | ok d => exact fun v H' s' => h v H' (s.trans s')
  | exc c fs => exact fun cls dd H' s' x => h cls dd H' (s.trans s') x
  | bad => exact h
theorem EP0.mono {α β : Type} {r : RG α} {P P' : α → β → Hp → Prop} (h : EP0 K mg W σ H r P) (f : ∀ d v H', Same H H' → r = .ok d → P d v H' → P' d v H') : EP0 K mg W σ H r P' := by
  cases r with
  | ok d => exact fun v H' s' => f d v H' s' rfl (h v H' s')
  | exc c fs => exact h
  | bad => exact h
theorem EP0.bind {α β γ δ : Type} {r : RG α} {k : α → RG γ} {P : γ → δ → Hp → Prop} (h : EP0 K mg W σ H (r.bind k) P) : EP0 (β := β) K mg W σ H r (fun d _ H1 => EP0 K mg W σ H1 (k d) P) := by
  cases r with
  | ok d => exact fun v H' s' => EP0.same h s'
  | exc c fs => exact h
  | bad => exact h
end

/-! ### judgements -/
def tD (K : PySem.W.Frag) (mg : Str → Option Value) (W : WX) (md : Mds) (st nw : Bool) (f : DX) : TE := fun σ H Q => ∃ (T : Pred) (H0 B : Hp) (env : DEnv), Rel K md T H0 B H σ env ∧
  EP0 K mg W σ H (f env) fun d v H' => Rk st K H' (Avd md σ env T H0 nw) v d → Q v H'
def tDs (K : PySem.W.Frag) (mg : Str → Option Value) (W : WX) (md : Mds) (st nw : Bool) (f : DXs) : TA := fun σ H Q => ∃ (T : Pred) (H0 B : Hp) (env : DEnv), Rel K md T H0 B H σ env ∧
  EP0 K mg W σ H (f env) fun ds vs H' => Rks st K H' (Avd md σ env T H0 nw) vs ds → Q vs H'
def tDT (K : PySem.W.Frag) (mg : Str → Option Value) (W : WX) (md : Mds) (f : DX) : TT := fun σ H Q => ∃ (T : Pred) (H0 B : Hp) (env : DEnv), Rel K md T H0 B H σ env ∧
  EP0 (β := V) K mg W σ H (f env) fun d _ H' => ∃ b, d = .bl b ∧ Q b H'

structure VE (X : Cx) (W : WX) (md : Mds) (st nw : Bool) (e : Expr) (f : DX) : Prop where
  run : PE X e (tD X.K X.mg W md st nw f)
structure VA (X : Cx) (W : WX) (md : Mds) (st nw : Bool) (es : List Expr) (f : DXs) : Prop where
  run : PA X es (tDs X.K X.mg W md st nw f)
structure VT (X : Cx) (W : WX) (md : Mds) (e : Expr) (f : DX) : Prop where
  run : PT X e (tDT X.K X.mg W md f)

section
variable {X : Cx}
theorem _root_.L2.PE.imp {e : Expr} {t t' : TE} (h : PE X e t) (i : ∀ σ H Q, t' σ H Q → t σ H Q) : PE X e t' := ⟨fun pins s σ H Q I w => h.run pins s σ H Q I (i σ H Q w)⟩
theorem _root_.L2.PA.imp {es : List Expr} {t t' : TA} (h : PA X es t) (i : ∀ σ H Q, t' σ H Q → t σ H Q) : PA X es t' := ⟨fun p pins s σ H Q I w => h.run p pins s σ H Q I (i σ H Q w)⟩
theorem _root_.L2.PT.imp {e : Expr} {t t' : TT} (h : PT X e t) (i : ∀ σ H Q, t' σ H Q → t σ H Q) : PT X e t' := ⟨fun pins s σ H Q I w => h.run pins s σ H Q I (i σ H Q w)⟩
end

section
variable {X : Cx} {W : WX} {md : Mds} {st nw sa na sb nb : Bool} {e a b : Expr} {f fa fb : DX} {pos : Pos} {es : List Expr} {fs : DXs}

/-! ### weaker -/
theorem VE.loose (h : VE X W md st nw e f) : VE X W md false nw e f := ⟨h.run.imp fun σ H Q ⟨T, H0, B, env, R, p⟩ => ⟨T, H0, B, env, R, p.mono fun d v H' _ _ q r => q r.loose⟩⟩
theorem VE.old (h : VE X W md st nw e f) : VE X W md st false e f := ⟨h.run.imp fun σ H Q ⟨T, H0, B, env, R, p⟩ => ⟨T, H0, B, env, R, p.mono fun d v H' _ _ q r => q (r.weak fun a x => Avd.mono (by intro z; cases z) x)⟩⟩
/-- a value without lists and dicts, whatever was known -/
def dImm (f : DX) : DX := fun env => (f env).bind fun d => if imm d then .ok d else .bad
theorem VE.imm (h : VE X W md st nw e f) : VE X W md true true e (dImm f) := ⟨h.run.imp fun σ H Q ⟨T, H0, B, env, R, p⟩ => ⟨T, H0, B, env, R, p.bind.mono fun d v H' _ _ q r => by
  by_cases i : Dl.imm d = true
  · rw [if_pos i] at q
    exact q v H' (Same.refl _) (.of (Rp.imm d v r.free i))
  · rw [if_neg i] at q
    exact q.elim⟩⟩

/-! ### names, constants -/
def dVar (i : Nat) : DX := fun env => match env[i]? with
  | some (some d) => .ok d
  | _ => .bad
theorem ve_var {i : Nat} {x : Str} (hN : X.N[i]? = some x) (hv : Vis X.env.scope x) (hd : (x == ("__debug__" : Str)) = false) (hcd : (x == ("__classdict__" : Str)) = false) (ho : (mdAt md i).own = false) (hp : (mdAt md i).dp = 0) :
    VE X W md true (mdAt md i).nw (.Name x pos) (dVar i) := ⟨(pe_var hN hv hd hcd).imp fun σ H Q ⟨T, H0, B, env, R, p⟩ => by
  unfold dVar at p
  split at p
  · next d e =>
    obtain ⟨v, ev, r⟩ := R.shared e ho hp
    exact ⟨v, ev, p v H (Same.refl _) (.of r)⟩
  · exact p.elim⟩
theorem ve_varOwn {i : Nat} {x : Str} (hN : X.N[i]? = some x) (hv : Vis X.env.scope x) (hd : (x == ("__debug__" : Str)) = false) (hcd : (x == ("__classdict__" : Str)) = false) (ho : (mdAt md i).own = true) :
    VE X W md false (mdAt md i).nw (.Name x pos) (dVar i) := ⟨(pe_var hN hv hd hcd).imp fun σ H Q ⟨T, H0, B, env, R, p⟩ => by
  unfold dVar at p
  split at p
  · next d e =>
    cases hl : isLD d with
    | true =>
      obtain ⟨a, ev, _, t⟩ := R.owned e ho hl
      exact ⟨_, ev, p _ H (Same.refl _) (.ofTop t)⟩
    | false =>
      obtain ⟨v, ev, i, r⟩ := R.ownedI e ho hl
      exact ⟨_, ev, p _ H (Same.refl _) (.of (Rp.imm _ _ r i))⟩
  · exact p.elim⟩
def dC (d : D) : DX := fun _ => .ok d
theorem ve_int {i j} : VE X W md true true (.Constant (.int i) j pos) (dC (.int i)) := ⟨pe_int.imp fun σ H Q ⟨T, H0, B, env, R, p⟩ => p _ H (Same.refl _) (.of (Rp.int.mpr rfl))⟩
theorem ve_bl {i j} : VE X W md true true (.Constant (.bool i) j pos) (dC (.bl i)) := ⟨pe_bl.imp fun σ H Q ⟨T, H0, B, env, R, p⟩ => p _ H (Same.refl _) (.of (Rp.bl.mpr rfl))⟩
theorem ve_non {j} : VE X W md true true (.Constant .none j pos) (dC .non) := ⟨pe_non.imp fun σ H Q ⟨T, H0, B, env, R, p⟩ => p _ H (Same.refl _) (.of (Rp.non.mpr rfl))⟩
theorem ve_str {i j} : VE X W md true true (.Constant (.str i) j pos) (dC (.str i)) := ⟨pe_str.imp fun σ H Q ⟨T, H0, B, env, R, p⟩ => p _ H (Same.refl _) (.of (Rp.str.mpr rfl))⟩

/-! ### operators -/
/-- what is wanted of a made value -/
def GP (K : PySem.W.Frag) (H : Hp) (A : Pred) (r : Option D) (Q : VK) : Prop := match r with
  | some d => ∀ v H', Same H H' → Rp K H' A v d → Q v H'
  | none => False
def Op2 (X : Cx) (r : R2) (g : D → D → Option D) : Prop := ∀ (H : Hp) (A : Pred) (x y : V) (dx dy : D) (Q : VK), (∀ a, A a → ∃ o, H a = some o) → Rk false X.K H A x dx → Rk false X.K H A y dy → GP X.K H A (g dx dy) Q → r x y H Q
def Scalar2 (g : D → D → Option D) : Prop := ∀ x y d, g x y = some d → imm d = true
def dBin (g : D → D → Option D) (fa fb : DX) : DX := fun env => (fa env).bind fun x => (fb env).bind fun y => .ofO (g x y)

theorem gp_of {K : PySem.W.Frag} {mg : Str → Option Value} {A : Pred} {σ : L2.St} {H : Hp} {o : Option D} {Q : VK} (p : EP0 K mg W σ H (RG.ofO o) fun d v H' => Rk true K H' A v d → Q v H') : GP K H A o Q := by
  cases o with
  | none => exact p.elim
  | some d => exact fun v H' s r => p v H' s (.of r)
/-- a made value without lists is beyond anything -/
theorem gp_imm {K : PySem.W.Frag} {A A' : Pred} {H : Hp} {o : Option D} {Q : VK} (i : ∀ d, o = some d → Dl.imm d = true) (p : GP K H A o Q) : GP K H A' o Q := by
  cases o with
  | none => exact p
  | some d => exact fun v H' s r => p v H' s (Rp.imm d v r (i d rfl))

theorem bin_reading {σ : L2.St} {H : Hp} {Q : VK} {r : R2} {g : D → D → Option D} (ho : Op2 X r g) (h : tD X.K X.mg W md true (na && nb) (dBin g fa fb) σ H Q) : tOp r (tD X.K X.mg W md sa na fa) (tD X.K X.mg W md sb nb fb) σ H Q := by
  obtain ⟨T, H0, B, env, R, p⟩ := h
  refine ⟨T, H0, B, env, R, p.bind.mono fun dx x H1 s1 _ p1 rx => ?_⟩
  refine ⟨T, H0, B, env, R.same s1, p1.bind.mono fun dy y H2 s2 _ p2 ry => ?_⟩
  have R2 := (R.same s1).same s2
  exact ho H2 (Avd md σ env T H0 (na && nb)) x y dx dy Q (fun a z => R2.avdThere z) ((rx.loose.same s2).weak fun a z => Avd.mono (fun e => (Bool.and_eq_true_iff.mp e).1) z) (ry.loose.weak fun a z => Avd.mono (fun e => (Bool.and_eq_true_iff.mp e).2) z) (gp_of p2)
theorem bin_readingS {σ : L2.St} {H : Hp} {Q : VK} {r : R2} {g : D → D → Option D} (ho : Op2 X r g) (hs : Scalar2 g) (h : tD X.K X.mg W md true true (dBin g fa fb) σ H Q) : tOp r (tD X.K X.mg W md sa na fa) (tD X.K X.mg W md sb nb fb) σ H Q := by
  obtain ⟨T, H0, B, env, R, p⟩ := h
  refine ⟨T, H0, B, env, R, p.bind.mono fun dx x H1 s1 _ p1 rx => ?_⟩
  refine ⟨T, H0, B, env, R.same s1, p1.bind.mono fun dy y H2 s2 _ p2 ry => ?_⟩
  have R2 := (R.same s1).same s2
  exact ho H2 (Avd md σ env T H0 (na && nb)) x y dx dy Q (fun a z => R2.avdThere z) ((rx.loose.same s2).weak fun a z => Avd.mono (fun e => (Bool.and_eq_true_iff.mp e).1) z) (ry.loose.weak fun a z => Avd.mono (fun e => (Bool.and_eq_true_iff.mp e).2) z) (gp_imm (fun d e => hs dx dy d e) (gp_of p2))
theorem ve_bin {op : Operator} {r : R2} {g : D → D → Option D} (ho : OpR X (binaryOp op) r) (hg : Op2 X r g) (ha : VE X W md sa na a fa) (hb : VE X W md sb nb b fb) : VE X W md true (na && nb) (.BinOp a op b pos) (dBin g fa fb) :=
  ⟨(pe_op ho ha.run hb.run).imp fun _ _ _ h => bin_reading hg h⟩
theorem ve_binS {op : Operator} {r : R2} {g : D → D → Option D} (ho : OpR X (binaryOp op) r) (hg : Op2 X r g) (hs : Scalar2 g) (ha : VE X W md sa na a fa) (hb : VE X W md sb nb b fb) : VE X W md true true (.BinOp a op b pos) (dBin g fa fb) :=
  ⟨(pe_op ho ha.run hb.run).imp fun _ _ _ h => bin_readingS hg hs h⟩
theorem ve_cmp {op : CmpOp} {r : R2} {g : D → D → Option D} (ho : OpR X (compareOp op) r) (hg : Op2 X r g) (hs : Scalar2 g) (ha : VE X W md sa na a fa) (hb : VE X W md sb nb b fb) (hm : behindInMarks op b = false) : VE X W md true true (.Compare a [op] [b] pos) (dBin g fa fb) :=
  ⟨(pe_cmpR ho ha.run hb.run hm).imp fun _ _ _ h => bin_readingS hg hs h⟩
/-- a test's reading from a value's -/
theorem test_of {σ : L2.St} {H : Hp} {Q : Bool → Hp → Prop} (h : tDT X.K X.mg W md f σ H Q) : tD X.K X.mg W md true true f σ H fun x H' => ∃ k, x = .bl k ∧ Q k H' := by
  obtain ⟨T, H0, B, env, R, p⟩ := h
  refine ⟨T, H0, B, env, R, p.mono fun d v H' s _ ⟨k, e, q⟩ r => ?_⟩
  subst e
  exact ⟨k, r.bl, q⟩
theorem vt_cmp {op : CmpOp} {r : R2} {g : D → D → Option D} (ho : OpR X (compareOp op) r) (hg : Op2 X r g) (hs : Scalar2 g) (ha : VE X W md sa na a fa) (hb : VE X W md sb nb b fb) (hm : behindInMarks op b = false) : VT X W md (.Compare a [op] [b] pos) (dBin g fa fb) :=
  ⟨(pt_cmpR ho ha.run hb.run hm).imp fun _ _ _ h => bin_readingS hg hs (test_of h)⟩
/-- any expression that is no comparison, no and, or, not, no if: by its truth -/
theorem vt_val (h : VE X W md true true e f) (he : ∀ whole, isTrue e X.env whole = (do let v ← whole; standAt e.pos; holding [v] (truthy v))) : VT X W md e f :=
  ⟨(pt_val h.run he).imp fun σ H Q h => test_of h⟩
theorem vt_val' (h : VE X W md st nw e f) (he : ∀ whole, isTrue e X.env whole = (do let v ← whole; standAt e.pos; holding [v] (truthy v))) : VT X W md e f :=
  ⟨(pt_val h.run he).imp fun σ H Q ⟨T, H0, B, env, R, p⟩ => ⟨T, H0, B, env, R, p.mono fun d v H' s _ ⟨k, e, q⟩ r => by
    subst e
    exact ⟨k, r.bl, q⟩⟩⟩

/-! ### unary -/
def Op1 (X : Cx) (r : V → Hp → VK → Prop) (g : D → Option D) : Prop := ∀ (H : Hp) (A : Pred) (x : V) (dx : D) (Q : VK), Rk false X.K H A x dx → GP X.K H A (g dx) Q → r x H Q
def Scalar1 (g : D → Option D) : Prop := ∀ x d, g x = some d → imm d = true
def dUn (g : D → Option D) (fa : DX) : DX := fun env => (fa env).bind fun x => .ofO (g x)
theorem ve_un {op : UnaryOp} {r : V → Hp → VK → Prop} {g : D → Option D} (ho : UnR X (unaryOp op) r) (hg : Op1 X r g) (hs : Scalar1 g) (ha : VE X W md sa na a fa) : VE X W md true true (.UnaryOp op a pos) (dUn g fa) :=
  ⟨(pe_un ho ha.run).imp fun σ H Q ⟨T, H0, B, env, R, p⟩ => ⟨T, H0, B, env, R, p.bind.mono fun d v H' s _ q r => by
    refine hg H' _ v d Q r.loose (gp_imm (fun d' e => hs d d' e) (gp_of q))⟩⟩
theorem gp_scalar {K : PySem.W.Frag} {H : Hp} {A : Pred} {d : D} {v : V} {Q : VK} (p : GP K H A (some d) Q) (r : Rp K H A v d) : Q v H := p v H (Same.refl _) r
end

/-! ### the operators' meanings -/
def gI (c : Int → Int → Bool) (g : Int → Int → D) : D → D → Option D
  | .int i, .int j => if c i j then some (g i j) else none
  | _, _ => none
section
variable {X : Cx}
theorem gI_op {C : Int → Int → Prop} {gv : Int → Int → V} {c : Int → Int → Bool} {g : Int → Int → D} (hc : ∀ i j, c i j = true → C i j) (hr : ∀ (H : Hp) (A : Pred) i j, Rp X.K H A (gv i j) (g i j)) : Op2 X (rI C gv) (gI c g) := by
  intro H A x y dx dy Q _ rx ry p
  cases dx <;> cases dy <;> try exact p.elim
  next i j =>
    simp only [gI] at p
    split at p
    · next h => exact ⟨i, j, rx.int, ry.int, hc i j h, gp_scalar p (hr H A i j)⟩
    · exact p.elim
def gI0 (g : Int → Int → D) : D → D → Option D
  | .int i, .int j => some (g i j)
  | _, _ => none
theorem gI0_op {gv : Int → Int → V} {g : Int → Int → D} (hr : ∀ (H : Hp) (A : Pred) i j, Rp X.K H A (gv i j) (g i j)) : Op2 X (rI0 gv) (gI0 g) := by
  intro H A x y dx dy Q _ rx ry p
  cases dx <;> cases dy <;> try exact p.elim
  next i j => exact ⟨i, j, rx.int, ry.int, gp_scalar p (hr H A i j)⟩
theorem gI_scalar {c : Int → Int → Bool} {g : Int → Int → D} (h : ∀ i j, imm (g i j) = true) : Scalar2 (gI c g) := by
  intro x y d e
  cases x <;> cases y <;> try (cases e; done)
  simp only [gI] at e
  split at e
  · cases e; exact h _ _
  · cases e
theorem gI0_scalar {g : Int → Int → D} (h : ∀ i j, imm (g i j) = true) : Scalar2 (gI0 g) := by
  intro x y d e
  cases x <;> cases y <;> cases e
  exact h _ _
def lim64 (i : Int) : Bool := decide (-(2 ^ 64) < i) && decide (i < 2 ^ 64)
def gAddI : D → D → Option D := gI0 fun i j => .int (i + j)
def gSubI : D → D → Option D := gI0 fun i j => .int (i - j)
def gMulI : D → D → Option D := gI (fun i j => lim64 i || lim64 j) fun i j => .int (i * j)
def gFdivI : D → D → Option D := gI (fun _ j => decide (0 < j) && decide (j < 1073741824)) fun i j => .int (i / j)
def gModI : D → D → Option D := gI (fun _ j => decide (0 < j)) fun i j => .int (i % j)
def gPowI : D → D → Option D := gI (fun i j => decide (0 ≤ j) && (decide (j ≤ 1000000) && decide (i.natAbs < 2 ^ 64))) fun i j => .int (i ^ j.toNat)
theorem op_gAddI : Op2 X (rI0 fun i j => .int (i + j)) gAddI := gI0_op fun _ _ _ _ => Rp.int.mpr rfl
theorem op_gSubI : Op2 X (rI0 fun i j => .int (i - j)) gSubI := gI0_op fun _ _ _ _ => Rp.int.mpr rfl
theorem op_gMulI : Op2 X (rI CMul fun i j => .int (i * j)) gMulI := gI_op (fun i j h => by
  unfold lim64 at h
  simp only [Bool.or_eq_true, Bool.and_eq_true, decide_eq_true_eq] at h
  exact h) fun _ _ _ _ => Rp.int.mpr rfl
theorem op_gFdivI : Op2 X (rI CDiv fun i j => .int (i / j)) gFdivI := gI_op (fun i j h => by
  simp only [Bool.and_eq_true, decide_eq_true_eq] at h
  exact h) fun _ _ _ _ => Rp.int.mpr rfl
theorem op_gModI : Op2 X (rI (fun _ j => 0 < j) fun i j => .int (i % j)) gModI := gI_op (fun i j h => of_decide_eq_true h) fun _ _ _ _ => Rp.int.mpr rfl
theorem op_gPowI : Op2 X (rI CPow fun i j => .int (i ^ j.toNat)) gPowI := gI_op (fun i j h => by
  simp only [Bool.and_eq_true, decide_eq_true_eq] at h
  exact h) fun _ _ _ _ => Rp.int.mpr rfl
def gCmpI (p : Int → Int → Bool) : D → D → Option D := gI0 fun i j => .bl (p i j)
theorem op_gCmpI {p : Int → Int → Bool} : Op2 X (rI0 fun i j => .bl (p i j)) (gCmpI p) := gI0_op fun _ _ _ _ => Rp.bl.mpr rfl
theorem sc_gCmpI {p : Int → Int → Bool} : Scalar2 (gCmpI p) := gI0_scalar fun _ _ => rfl
theorem sc_gAddI : Scalar2 gAddI := gI0_scalar fun _ _ => rfl
theorem sc_gSubI : Scalar2 gSubI := gI0_scalar fun _ _ => rfl
theorem sc_gMulI : Scalar2 gMulI := gI_scalar fun _ _ => rfl
theorem sc_gFdivI : Scalar2 gFdivI := gI_scalar fun _ _ => rfl
theorem sc_gModI : Scalar2 gModI := gI_scalar fun _ _ => rfl
theorem sc_gPowI : Scalar2 gPowI := gI_scalar fun _ _ => rfl
def gNeg : D → Option D
  | .int i => some (.int (-i))
  | _ => none
theorem op_gNeg : Op1 X (rU fun i => .int (-i)) gNeg := by
  intro H A x dx Q rx p
  cases dx <;> try exact p.elim
  exact ⟨_, rx.int, gp_scalar p (Rp.int.mpr rfl)⟩
theorem sc_gNeg : Scalar1 gNeg := by
  intro x d e
  cases x <;> cases e
  rfl

/-! ### equality of data -/
mutual
def noDic : D → Bool
  | .dic _ _ _ => false
  | .frl _ => false
  | .ktp _ => false
  | .tup xs => noDics xs
  | .lst xs => noDics xs
  | _ => true
def noDics : List D → Bool
  | [] => true
  | d :: ds => noDic d && noDics ds
end
mutual
def toPy : D → PyData
  | .non => .none
  | .bl b => .bool b
  | .int i => .int i
  | .str x => .str x
  | .tup xs => .tuple (toPys xs)
  | .lst xs => .list (toPys xs)
  | .frl _ => .none
  | .ktp _ => .none
  | .dic _ _ _ => .none
def toPys : List D → List PyData
  | [] => []
  | d :: ds => toPy d :: toPys ds
end
section
variable {K : PySem.W.Frag} {H : Hp} {A : Pred}
mutual
theorem dp_of : ∀ (d : D) (v : V), Rp K H A v d → noDic d = true → Dp K H v (toPy d)
  | .non, v, h, _ => by rw [Rp.non.mp h]; unfold toPy; exact .non
  | .bl b, v, h, _ => by rw [Rp.bl.mp h]; unfold toPy; exact .bl b
  | .int i, v, h, _ => by rw [Rp.int.mp h]; unfold toPy; exact .int i
  | .str x, v, h, _ => by rw [Rp.str.mp h]; unfold toPy; exact .str x
  | .tup ds, v, h, n => by
    obtain ⟨a, vs, rfl, s, t⟩ := Rp.tup.mp h
    unfold toPy
    unfold noDic at n
    exact .tup (SqT.of s) (dps_of ds vs t n)
  | .lst ds, v, h, n => by
    obtain ⟨a, vs, rfl, _, s, t⟩ := Rp.lst.mp h
    unfold toPy
    unfold noDic at n
    exact .lst (SqL.of s) (dps_of ds vs t n)
  | .frl _, v, h, n => by unfold noDic at n; cases n
  | .ktp _, v, h, n => by unfold noDic at n; cases n
  | .dic _ _ _, v, h, n => by unfold noDic at n; cases n
theorem dps_of : ∀ (ds : List D) (vs : List V), Rps K H A vs ds → noDics ds = true → DpAll K H vs (toPys ds)
  | [], vs, h, _ => by rw [h.nil_eq]; unfold toPys; exact .nil
  | d :: ds, vs, h, n => by
    obtain ⟨v, r, rfl, q, t⟩ := h.uncons
    unfold toPys
    unfold noDics at n
    rw [Bool.and_eq_true] at n
    exact .cons (dp_of d v q n.1) (dps_of ds r t n.2)
end
end
def eqOk (d : D) : Bool := noDic d && SeqAt.shaped (toPy d)
def gEq : D → D → Option D := fun x y => if eqOk x && eqOk y then some (.bl (PyData.eqv (toPy x) (toPy y))) else none
def gNe : D → D → Option D := fun x y => if eqOk x && eqOk y then some (.bl (!PyData.eqv (toPy x) (toPy y))) else none
theorem op_gEq : Op2 X (rEqD X.K) gEq := by
  intro H A x y dx dy Q _ rx ry p
  unfold gEq at p
  split at p
  · next h =>
    unfold eqOk at h
    simp only [Bool.and_eq_true] at h
    exact ⟨_, _, dp_of dx x rx.free h.1.1, dp_of dy y ry.free h.2.1, h.1.2, h.2.2, gp_scalar p (Rp.bl.mpr rfl)⟩
  · exact p.elim
theorem op_gNe : Op2 X (rNeD X.K) gNe := by
  intro H A x y dx dy Q _ rx ry p
  unfold gNe at p
  split at p
  · next h =>
    unfold eqOk at h
    simp only [Bool.and_eq_true] at h
    exact ⟨_, _, dp_of dx x rx.free h.1.1, dp_of dy y ry.free h.2.1, h.1.2, h.2.2, gp_scalar p (Rp.bl.mpr rfl)⟩
  · exact p.elim
theorem sc_gEq : Scalar2 gEq := by
  intro x y d e
  unfold gEq at e
  split at e <;> cases e
  rfl
theorem sc_gNe : Scalar2 gNe := by
  intro x y d e
  unfold gNe at e
  split at e <;> cases e
  rfl
/-- is None -/
def isNon : D → Bool
  | .non => true
  | _ => false
def gIsN : D → D → Option D := fun x y => match y with
  | .non => some (.bl (isNon x))
  | _ => none
def gNotN : D → D → Option D := fun x y => match y with
  | .non => some (.bl (!isNon x))
  | _ => none
theorem non_iff {K : PySem.W.Frag} {H : Hp} {A : Pred} {x : V} {d : D} {st : Bool} (r : Rk st K H A x d) : decide (x = .non) = isNon d := by
  cases d with
  | non => have e := r.non; subst e; rfl
  | bl b => have e := r.bl; subst e; rfl
  | int b => have e := r.int; subst e; rfl
  | str b => have e := r.str; subst e; rfl
  | tup ds => obtain ⟨a, _, e, _⟩ := r.tup; subst e; rfl
  | lst ds => obtain ⟨a, _, e, _⟩ := r.lst; subst e; rfl
  | frl ds => obtain ⟨a, _, e, _⟩ := r.frl; subst e; rfl
  | ktp ds => obtain ⟨a, _, e, _⟩ := r.ktp; subst e; rfl
  | dic t ks ws => obtain ⟨a, _, e, _⟩ := r.dic; subst e; rfl
theorem op_gIsN : Op2 X (fun x y H Q => y = .non ∧ Q (.bl (decide (x = .non))) H) gIsN := by
  intro H A x y dx dy Q _ rx ry p
  cases dy <;> try exact p.elim
  refine ⟨ry.non, ?_⟩
  rw [non_iff rx]
  exact gp_scalar p (Rp.bl.mpr rfl)
theorem op_gNotN : Op2 X (fun x y H Q => y = .non ∧ Q (.bl (!decide (x = .non))) H) gNotN := by
  intro H A x y dx dy Q _ rx ry p
  cases dy <;> try exact p.elim
  refine ⟨ry.non, ?_⟩
  rw [non_iff rx]
  exact gp_scalar p (Rp.bl.mpr rfl)
theorem sc_gIsN : Scalar2 gIsN := by
  intro x y d e
  cases y <;> cases e
  rfl
theorem sc_gNotN : Scalar2 gNotN := by
  intro x y d e
  cases y <;> cases e
  rfl
end
end Dl

/-! Dl3: displays, items, slices, and, or, calls. -/
namespace Dl
open PySem PySem.Spec PyProof.Rows L2

def starless : Expr → Bool
  | .Starred _ _ => false
  | _ => true
theorem notStar {e : Expr} {es : List Expr} {env : Env} (h : starless e = true) : starEach (e :: es) env = (false, eval e env) :: starEach es env := by
  cases e <;> first | rfl | cases h

section
variable {X : Cx} {W : WX} {md : Mds} {st nw sa na sb nb : Bool} {e a b : Expr} {f fa fb : DX} {pos : Pos} {es : List Expr} {fs : DXs}

theorem VE.to {s2 n2 : Bool} (h : VE X W md st nw e f) (h1 : (s2 && !st) = false) (h2 : (n2 && !nw) = false) : VE X W md s2 n2 e f := by
  have k1 : VE X W md s2 nw e f := by
    cases s2 with
    | false => exact h.loose
    | true => cases st with
      | true => exact h
      | false => cases h1
  cases n2 with
  | false => exact k1.old
  | true => cases nw with
    | true => exact k1
    | false => cases h2

/-! ### argument lists -/
def dNil : DXs := fun _ => .ok []
def dCons (f : DX) (fs : DXs) : DXs := fun env => (f env).bind fun x => (fs env).bind fun xs => .ok (x :: xs)
theorem va_nil : VA X W md st nw [] dNil := ⟨pa_nil.imp fun σ H Q ⟨T, H0, B, env, R, p⟩ => p [] H (Same.refl _) .nil⟩
theorem va_cons (h : VE X W md st nw e f) (hr : VA X W md st nw es fs) (hs : starEach (e :: es) X.env = (false, eval e X.env) :: starEach es X.env) : VA X W md st nw (e :: es) (dCons f fs) :=
  ⟨(pa_cons h.run hr.run hs).imp fun σ H Q ⟨T, H0, B, env, R, p⟩ => ⟨T, H0, B, env, R, p.bind.mono fun d v H1 s1 _ p1 r1 =>
    ⟨T, H0, B, env, R.same s1, p1.bind.mono fun ds vs H2 s2 _ p2 r2 => p2 (v :: vs) H2 (Same.refl _) (.cons (r1.same s2) r2)⟩⟩⟩

/-! ### displays -/
def dTup (fs : DXs) : DX := fun env => (fs env).bind fun ds => if ds.length ≤ sizeLine then .ok (.tup ds) else .bad
def dLst (fs : DXs) : DX := fun env => (fs env).bind fun ds => if ds.length ≤ sizeLine then .ok (.lst ds) else .bad
theorem Rks.length {K : PySem.W.Frag} {H : Hp} {A : Pred} {vs : List V} {ds : List D} (h : Rks st K H A vs ds) : vs.length = ds.length := by
  induction h with
  | nil => rfl
  | cons _ _ ih => simp [ih]
theorem ve_tup {k : Nat} (h : VA X W md true nw es fs) : VE X W md true nw (.Tuple es k pos) (dTup fs) :=
  ⟨(pe_tup h.run).imp fun σ H Q ⟨T, H0, B, env, R, p⟩ => ⟨T, H0, B, env, R, p.bind.mono fun ds vs H1 s1 _ p1 r => by
    by_cases z : ds.length ≤ sizeLine
    · rw [if_pos z] at p1
      refine ⟨by rw [r.length]; exact z, fun q nq => ?_⟩
      exact p1 _ _ (same_new nq) (.of (Rp.tup.mpr ⟨q, vs, rfl, upd_same, (r.strict.same (same_new nq))⟩))
    · rw [if_neg z] at p1
      exact p1.elim⟩⟩
/-- a new list or dict -/
def tDF (K : PySem.W.Frag) (mg : Str → Option Value) (W : WX) (md : Mds) (nw : Bool) (f : DX) : TE := fun σ H Q => ∃ (T : Pred) (H0 B : Hp) (env : DEnv), Rel K md T H0 B H σ env ∧
  EP0 K mg W σ H (f env) fun d v H' => (∃ p, v = .ref p ∧ H p = none ∧ Top K H' (fun a => Avd md σ env T H0 nw a ∨ a = p) p d) → Q v H'
structure VF (X : Cx) (W : WX) (md : Mds) (nw : Bool) (e : Expr) (f : DX) : Prop where
  run : PE X e (tDF X.K X.mg W md nw f)
theorem Top.rpA {K : PySem.W.Frag} {H : Hp} {A : Pred} {p : Addr} {d : D} (t : Top K H (fun a => A a ∨ a = p) p d) (n : ¬ A p) : Rp K H A (.ref p) d := by
  cases d with
  | lst ds => obtain ⟨vs, e, r⟩ := t; exact Rp.lst.mpr ⟨p, vs, rfl, n, e, r.weak fun _ z => .inl z⟩
  | dic b ks ws => obtain ⟨vs, e, r⟩ := t; exact Rp.dic.mpr ⟨p, vs, rfl, n, e.mono fun _ z => .inl z, r.weak fun _ z => .inl z⟩
  | non => exact t.elim
  | bl _ => exact t.elim
  | int _ => exact t.elim
  | str _ => exact t.elim
  | tup _ => exact t.elim
  | frl _ => exact t.elim
  | ktp _ => exact t.elim
theorem VF.ve (h : VF X W md nw e f) : VE X W md true nw e f :=
  ⟨h.run.imp fun σ H Q ⟨T, H0, B, env, R, p⟩ => ⟨T, H0, B, env, R, p.mono fun d v H' s _ q ⟨x, ex, nx, t⟩ => by
    subst ex
    refine q (.of (t.rpA fun z => ?_))
    obtain ⟨o, e⟩ := R.avdThere z
    rw [nx] at e
    cases e⟩⟩
theorem VF.old (h : VF X W md nw e f) : VF X W md false e f :=
  ⟨h.run.imp fun σ H Q ⟨T, H0, B, env, R, p⟩ => ⟨T, H0, B, env, R, p.mono fun d v H' s _ q ⟨x, ex, nx, t⟩ => q ⟨x, ex, nx, t.carry (.weak fun a z => z.elim (fun y => .inl (Avd.mono (by intro c; cases c) y)) .inr) fun _ u => u⟩⟩⟩
theorem Rps.new {K : PySem.W.Frag} {H : Hp} {A : Pred} {q : Addr} {o : HO} {vs : List V} {ds : List D} (r : Rps K H A vs ds) (nq : H q = none) : Rps K (upd H q o) (fun a => A a ∨ a = q) vs ds := Rps.carry (.new nq) ds vs r
theorem vf_lst (h : VA X W md true nw es fs) : VF X W md nw (.List es pos) (dLst fs) :=
  ⟨(pe_lst h.run).imp fun σ H Q ⟨T, H0, B, env, R, p⟩ => ⟨T, H0, B, env, R, p.bind.mono fun ds vs H1 s1 _ p1 r => by
    by_cases z : ds.length ≤ sizeLine
    · rw [if_pos z] at p1
      refine ⟨by rw [r.length]; exact z, fun q nq => ?_⟩
      exact p1 _ _ (same_new nq) ⟨q, rfl, Same.free s1 nq, vs, upd_same, r.strict.new nq⟩
    · rw [if_neg z] at p1
      exact p1.elim⟩⟩

/-! ### items -/
def keyOf : D → Option Key
  | .int i => some (.inl i)
  | .str x => some (.inr x)
  | _ => none
def keysOf : List D → Option (List Key)
  | [] => some []
  | d :: ds => (keyOf d).bind fun k => (keysOf ds).map (k :: ·)
theorem keyOf_eq {d : D} {k : Key} (h : keyOf d = some k) : d = keyD k := by
  cases d <;> cases h <;> rfl
theorem keysOf_eq : ∀ {ds : List D} {ks : List Key}, keysOf ds = some ks → ds = ks.map keyD
  | [], ks, h => by cases h; rfl
  | d :: ds, ks, h => by
    unfold keysOf at h
    cases e : keyOf d with
    | none => rw [e] at h; cases h
    | some k =>
      rw [e] at h
      cases e2 : keysOf ds with
      | none => rw [e2] at h; cases h
      | some r =>
        rw [e2] at h
        cases h
        rw [keyOf_eq e, keysOf_eq e2]
        rfl
theorem kV_of {K : PySem.W.Frag} {H : Hp} {A : Pred} {v : V} {k : Key} (h : Rp K H A v (keyD k)) : v = kV k := by
  cases k with
  | inl i => exact Rp.int.mp h
  | inr x => exact Rp.str.mp h
theorem kVs_of {K : PySem.W.Frag} {H : Hp} {A : Pred} : ∀ {ks : List Key} {vs : List V}, Rps K H A vs (ks.map keyD) → vs = ks.map kV
  | [], vs, h => h.nil_eq
  | k :: ks, vs, h => by
    obtain ⟨v, r, rfl, q, t⟩ := h.uncons
    rw [kV_of q, kVs_of t]
    rfl
/-- two data as keys -/
def keyEq : D → D → Bool
  | .int i, .int j => decide (i = j)
  | .str x, .str y => decide (x = y)
  | .tup xs, .tup ys => match keysOf xs, keysOf ys with
    | some ks, some ls => decide (ks = ls)
    | _, _ => false
  | _, _ => false
/-- the value at a key -/
def lookD : List D → List D → D → Option D
  | k :: ks, w :: ws, y => if keyEq k y then some w else lookD ks ws y
  | _, _, _ => none
def isKey : D → Bool
  | .int _ => true
  | .str _ => true
  | .tup xs => (keysOf xs).isSome
  | _ => false
theorem keyD_inj {a b : Key} (h : keyD a = keyD b) : a = b := by
  cases a <;> cases b <;> cases h <;> rfl
theorem keyEq_key (a b : Key) : keyEq (keyD a) (keyD b) = decide (a = b) := by
  cases a with
  | inl i => cases b with
    | inl j => simp [keyD, keyEq]
    | inr y => simp [keyD, keyEq]
  | inr x => cases b with
    | inl j => simp [keyD, keyEq]
    | inr y => simp [keyD, keyEq]
theorem keysOf_map : ∀ ks : List Key, keysOf (ks.map keyD) = some ks
  | [] => rfl
  | k :: ks => by
    show (keyOf (keyD k)).bind _ = _
    have e : keyOf (keyD k) = some k := by cases k <;> rfl
    rw [e]
    show (keysOf (ks.map keyD)).map _ = _
    rw [keysOf_map ks]
    rfl
theorem keyEq_keys (a b : List Key) : keyEq (.tup (a.map keyD)) (.tup (b.map keyD)) = decide (a = b) := by
  simp only [keyEq, keysOf_map]
theorem keyEq_mixed (a : Key) (xs : List D) : keyEq (keyD a) (.tup xs) = false := by cases a <;> rfl
theorem keyEq_mixed' (a : Key) (xs : List D) : keyEq (.tup xs) (keyD a) = false := by cases a <;> rfl

theorem look_of {κ : Type} [DecidableEq κ] {K : PySem.W.Frag} {H : Hp} {A : Pred} {g : κ → D} {k : κ} {y : D} (he : ∀ j, keyEq (g j) y = decide (j = k)) : ∀ {kvs : List (κ × V)} {ws : List D}, Rps K H A (kvs.map (·.2)) ws →
    match lookD (kvs.map fun p => g p.1) ws y with
    | some w => ∃ v, valV kvs k = some v ∧ Rp K H A v w
    | none => valV kvs k = none
  | [], ws, _ => by cases ws <;> exact rfl
  | p :: r, [], h => by have := h.length; cases this
  | p :: r, w :: ws, h => by
    obtain ⟨v, r', e, q, t⟩ := h.uncons
    cases e
    show match (if keyEq (g p.1) y then some w else lookD (r.map fun p => g p.1) ws y) with
      | some w => ∃ v, valV (p :: r) k = some v ∧ Rp K H A v w
      | none => valV (p :: r) k = none
    rw [he p.1]
    by_cases hk : p.1 = k
    · rw [if_pos (decide_eq_true hk), valV_pos hk]
      exact ⟨_, rfl, q⟩
    · rw [if_neg (by rw [decide_eq_false hk]; exact Bool.false_ne_true), valV_neg hk]
      exact look_of he t
/-- the kind of key fits the kind of dict -/
def keyFits (t : Bool) (y : D) : Bool := match t, y with
  | true, .tup xs => (keysOf xs).isSome
  | false, .int _ => true
  | false, .str _ => true
  | _, _ => false
theorem DicH.dget {K : PySem.W.Frag} {H : Hp} {A : Pred} {a : Addr} {y : V} {t : Bool} {ks ws : List D} {vs : List V} {dy : D} (h : DicH (Rd H a) t ks vs) (r : Rps K H A vs ws) (ry : Rk st K H A y dy) (hf : keyFits t dy = true) :
    ∃ o, DGet H a y o ∧ (match lookD ks ws dy with | some w => ∃ v, o = some v ∧ Rp K H A v w | none => o = none) := by
  cases t with
  | false =>
    obtain ⟨kvs, e, e1, e2⟩ := h
    subst e1 e2
    obtain ⟨k, rfl⟩ : ∃ k, dy = keyD k := by
      cases dy with
      | int i => exact ⟨.inl i, rfl⟩
      | str x => exact ⟨.inr x, rfl⟩
      | _ => cases hf
    have ey : y = kV k := kV_of ry.free
    exact ⟨valV kvs k, .inl ⟨kvs, k, e, ey, rfl⟩, look_of (g := keyD) (fun j => keyEq_key j k) r⟩
  | true =>
    obtain ⟨kvs, e, e1, e2⟩ := h
    subst e1 e2
    obtain ⟨t, rfl, hk⟩ : ∃ t, dy = .tup t ∧ (keysOf t).isSome = true := by
      cases dy with
      | tup t => exact ⟨t, rfl, hf⟩
      | _ => cases hf
    obtain ⟨k, hk⟩ := Option.isSome_iff_exists.mp hk
    have et := keysOf_eq hk
    subst et
    obtain ⟨b, vs, rfl, sq, rt⟩ := ry.tup
    have ev := kVs_of rt
    subst ev
    exact ⟨valV kvs k, .inr ⟨kvs, k, b, e, rfl, sq, rfl⟩, look_of (g := fun k : List Key => D.tup (k.map keyD)) (fun j => keyEq_keys j k) r⟩

/-! ### a[b] -/
def rIxD : R2 := fun x y H Q => ∃ a v, x = .ref a ∧ DGet H a y (some v) ∧ Q v H
theorem ix_dict (hu : X.A.units + 1 < cLine) : IxR X rIxD := by
  intro value slice pins s σ H x y v u Q I rx ry h hs
  obtain ⟨a, w, rfl, g, q⟩ := h
  cases rx
  refine tail_any (dict_typeIs I g) PySem.F.slot_dict_getitem.lookup (d_getItem hu I g ry fun w' s' I' r' => ⟨w, H, I', r', q⟩) hs
def rIxA (K : PySem.W.Frag) : R2 := fun x y H Q => rIx K x y H Q ∨ rIxD x y H Q
theorem ix_any (hu : X.A.units + 1 < cLine) : IxR X (rIxA X.K) := ix_seq.or (ix_dict hu)
def gIx : D → D → Option D
  | .lst ds, .int i => atI ds i
  | .tup ds, .int i => atI ds i
  | .frl ds, .int i => atI ds i
  | .ktp ds, .int i => atI ds i
  | .str z, .int i => if z.length ≤ sizeLine then (atI z.cps.toList i).map fun c => .str ⟨#[c]⟩ else none
  | .dic t ks ws, k => if keyFits t k then lookD ks ws k else none
  | _, _ => none
theorem Rps.atI {K : PySem.W.Frag} {H : Hp} {A : Pred} {vs : List V} {ds : List D} {i : Int} {d : D} (h : Rps K H A vs ds) (e : atI ds i = some d) : ∃ v, atI vs i = some v ∧ Rp K H A v d := by
  unfold L2.atI at *
  rw [h.length]
  cases q : ixN ds.length i with
  | none => rw [q] at e; cases e
  | some j =>
    rw [q] at e
    obtain ⟨v, e1, r⟩ := h.get (i := j) (d := d) e
    exact ⟨v, e1, r⟩
theorem op_gIx : Op2 X (rIxA X.K) gIx := by
  intro H A x y dx dy Q _ rx ry p
  have seq : ∀ {ds : List D} {i : Int}, GP X.K H A (atI ds i) Q → ∀ {vs}, Rps X.K H A vs ds → ∃ v, atI vs i = some v ∧ Q v H := fun {ds i} p {vs} r => by
    cases e : atI ds i with
    | none => rw [e] at p; exact p.elim
    | some d =>
      rw [e] at p
      obtain ⟨v, e1, q⟩ := r.atI e
      exact ⟨v, e1, gp_scalar p q⟩
  cases dx with
  | dic t ks ws =>
    simp only [gIx] at p
    split at p
    · next hf =>
      obtain ⟨a, vs, rfl, h, r⟩ := rx.dic
      obtain ⟨o, g, q⟩ := h.dget r ry hf
      cases e : lookD ks ws dy with
      | none => rw [e] at p; exact p.elim
      | some w =>
        rw [e] at p q
        obtain ⟨v, rfl, rw'⟩ := q
        exact .inr ⟨a, v, rfl, g, gp_scalar p rw'⟩
    · exact p.elim
  | lst ds =>
    cases dy <;> try exact p.elim
    next i =>
      obtain ⟨a, vs, rfl, h, r⟩ := rx.lst
      obtain ⟨v, e, q⟩ := seq p r
      exact .inl (.inl ⟨a, vs, i, v, rfl, ry.int, SqL.of h, e, q⟩)
  | frl ds =>
    cases dy <;> try exact p.elim
    next i =>
      obtain ⟨a, vs, rfl, h, r⟩ := rx.frl
      obtain ⟨v, e, q⟩ := seq p r
      exact .inl (.inl ⟨a, vs, i, v, rfl, ry.int, h.sq, e, q⟩)
  | tup ds =>
    cases dy <;> try exact p.elim
    next i =>
      obtain ⟨a, vs, rfl, h, r⟩ := rx.tup
      obtain ⟨v, e, q⟩ := seq p r
      exact .inl (.inr (.inl ⟨a, vs, i, v, rfl, ry.int, SqT.of h, e, q⟩))
  | ktp ds =>
    cases dy <;> try exact p.elim
    next i =>
      obtain ⟨a, vs, rfl, h, r⟩ := rx.ktp
      obtain ⟨v, e, q⟩ := seq p r
      exact .inl (.inr (.inl ⟨a, vs, i, v, rfl, ry.int, h, e, q⟩))
  | str z =>
    cases dy <;> try exact p.elim
    next i =>
      simp only [gIx] at p
      split at p
      · next hz =>
        cases e : atI z.cps.toList i with
        | none => rw [e] at p; exact p.elim
        | some c =>
          rw [e] at p
          exact .inl (.inr (.inr ⟨z, i, c, rx.str, ry.int, hz, e, gp_scalar p (Rp.str.mpr rfl)⟩))
      · exact p.elim
  | _ => exact p.elim
theorem ve_ix (hu : X.A.units + 1 < cLine) (ha : VE X W md sa na a fa) (hb : VE X W md sb nb b fb) (hs : PlainIx b) : VE X W md true (na && nb) (.Subscript a b pos) (dBin gIx fa fb) :=
  ⟨(pe_ix (ix_any hu) ha.run hb.run hs).imp fun _ _ _ h => bin_reading op_gIx h⟩

/-! ### slices -/
def cutD {α : Type} (xs : List α) (lo hi : Option Int) : List α := (xs.drop (HT.sIx xs.length 0 lo)).take (HT.sIx xs.length xs.length hi - HT.sIx xs.length 0 lo)
theorem Rps.cut {K : PySem.W.Frag} {H : Hp} {A : Pred} {vs : List V} {ds : List D} (h : Rps K H A vs ds) (lo hi : Option Int) : Rps K H A (cutV vs lo hi) (cutD ds lo hi) := by
  unfold cutV cutD
  rw [h.length]
  exact (h.drop _).take _
def tDO (K : PySem.W.Frag) (mg : Str → Option Value) (W : WX) (md : Mds) (f : DEnv → RG (Option Int)) : TO := fun σ H Q => ∃ (T : Pred) (H0 B : Hp) (env : DEnv), Rel K md T H0 B H σ env ∧
  EP0 (β := V) K mg W σ H (f env) fun o _ H' => Q o H'
structure VO (X : Cx) (W : WX) (md : Mds) (e : Option Expr) (f : DEnv → RG (Option Int)) : Prop where
  run : PO X e (tDO X.K X.mg W md f)
theorem _root_.L2.PO.imp {e : Option Expr} {t t' : TO} (h : PO X e t) (i : ∀ σ H Q, t' σ H Q → t σ H Q) : PO X e t' := ⟨fun pins s σ H Q I w => h.run pins s σ H Q I (i σ H Q w)⟩
def dNo : DEnv → RG (Option Int) := fun _ => .ok none
def dPart (f : DX) : DEnv → RG (Option Int) := fun env => (f env).bind fun x => match x with
  | .int i => .ok (some i)
  | _ => .bad
theorem vo_none : VO X W md none dNo := ⟨po_none.imp fun σ H Q ⟨T, H0, B, env, R, p⟩ => p .non H (Same.refl _)⟩
theorem vo_some (h : VE X W md st nw e f) : VO X W md (some e) (dPart f) := ⟨(po_some h.run).imp fun σ H Q ⟨T, H0, B, env, R, p⟩ => ⟨T, H0, B, env, R, p.bind.mono fun d v H1 s1 _ q r => by
  cases d <;> try exact q.elim
  exact ⟨_, r.int, q .non H1 (Same.refl _)⟩⟩⟩
def gSl : D → Option Int → Option Int → Option D
  | .lst ds, l, h => some (.lst (cutD ds l h))
  | .frl ds, l, h => some (.lst (cutD ds l h))
  | .tup ds, l, h => some (.tup (cutD ds l h))
  | .str z, l, h => if z.length ≤ sizeLine then some (.str (cutS z l h)) else none
  | _, _, _ => none
def dSl (f : DX) (l h : DEnv → RG (Option Int)) : DX := fun env => (f env).bind fun x => (l env).bind fun i => (h env).bind fun j => .ofO (gSl x i j)
def rSlAll (K : PySem.W.Frag) : V → Option Int → Option Int → Hp → VK → Prop := fun x lo hi H Q => rSlL K x lo hi H Q ∨ rSlA K x lo hi H Q ∨ rSlS x lo hi H Q
theorem sl_all : SlR X (rSlAll X.K) := sl_list.or (sl_tupA.or sl_str)
theorem cut_whole {α : Type} {xs : List α} {lo hi : Option Int} (h : HT.sIx xs.length 0 lo = 0 ∧ HT.sIx xs.length xs.length hi = xs.length) : cutD xs lo hi = xs := by
  unfold cutD
  rw [h.1, h.2]
  simp
theorem sl_reading {K : PySem.W.Frag} {H : Hp} {A : Pred} {x : V} {dx : D} {lo hi : Option Int} {Q : VK} (hA : ∀ a, A a → ∃ o, H a = some o) (rx : Rk false K H A x dx) (p : GP K H A (gSl dx lo hi) Q) : rSlAll K x lo hi H Q := by
  have lst : ∀ {vs : List V} {ds : List D}, Rps K H A vs ds → GP K H A (some (.lst (cutD ds lo hi))) Q → ∀ q, H q = none → Q (.ref q) (upd H q (.lst (cutV vs lo hi))) := fun {vs ds} r p q nq => by
    have nA : ¬ A q := fun z => by
      obtain ⟨o, e⟩ := hA q z
      rw [nq] at e
      cases e
    exact p _ _ (same_new nq) (Rp.lst.mpr ⟨q, _, rfl, nA, upd_same, (r.cut lo hi).same (same_new nq)⟩)
  cases dx with
  | lst ds =>
    obtain ⟨a, vs, rfl, h, r⟩ := rx.lst
    exact .inl ⟨a, vs, rfl, SqL.of h, lst r p⟩
  | frl ds =>
    obtain ⟨a, vs, rfl, h, r⟩ := rx.frl
    exact .inl ⟨a, vs, rfl, h.sq, lst r p⟩
  | tup ds =>
    obtain ⟨a, vs, rfl, h, r⟩ := rx.tup
    refine .inr (.inl ⟨a, vs, rfl, SqT.of h, fun w => ?_, fun w q nq => ?_⟩)
    · rw [r.length] at w
      refine gp_scalar p ?_
      rw [cut_whole w]
      exact Rp.tup.mpr ⟨a, vs, rfl, h, r⟩
    · exact p _ _ (same_new nq) (Rp.tup.mpr ⟨q, _, rfl, upd_same, (r.cut lo hi).same (same_new nq)⟩)
  | str z =>
    simp only [gSl] at p
    split at p
    · next hz => exact .inr (.inr ⟨z, rx.str, hz, gp_scalar p (Rp.str.mpr rfl)⟩)
    · exact p.elim
  | _ => exact p.elim
theorem ve_slice {lo hi : Option Expr} {fl fh : DEnv → RG (Option Int)} {p2 : Pos} (he : VE X W md st nw e f) (hl : VO X W md lo fl) (hh : VO X W md hi fh) : VE X W md true nw (.Subscript e (.Slice lo hi none p2) pos) (dSl f fl fh) :=
  ⟨(pe_slice sl_all he.run hl.run hh.run).imp fun σ H Q ⟨T, H0, B, env, R, p⟩ => ⟨T, H0, B, env, R, p.bind.mono fun dx x H1 s1 _ p1 r1 =>
    ⟨T, H0, B, env, R.same s1, p1.bind.mono fun l _ H2 s2 _ p2 =>
      ⟨T, H0, B, env, (R.same s1).same s2, p2.bind.mono fun h _ H3 s3 _ p3 =>
        sl_reading (fun a z => (((R.same s1).same s2).same s3).avdThere z) ((r1.loose.same s2).same s3) (gp_of p3)⟩⟩⟩⟩

/-! ### and, or, not, if -/
def dAnd (fa fb : DX) : DX := fun env => (fa env).bind fun x => match x with
  | .bl true => fb env
  | .bl false => .ok (.bl false)
  | _ => .bad
def dOr (fa fb : DX) : DX := fun env => (fa env).bind fun x => match x with
  | .bl true => .ok (.bl true)
  | .bl false => fb env
  | _ => .bad
def dNot (fa : DX) : DX := fun env => (fa env).bind fun x => match x with
  | .bl b => .ok (.bl (!b))
  | _ => .bad
def dIf (fc fa fb : DX) : DX := fun env => (fc env).bind fun x => match x with
  | .bl true => fa env
  | .bl false => fb env
  | _ => .bad
theorem ve_one {op : BoolOp} (h : VE X W md st nw a f) : VE X W md st nw (.BoolOp op [a] pos) f := ⟨pe_one h.run⟩
theorem ve_and {r : List Expr} (ha : VE X W md sa na a fa) (hb : VE X W md st nw (.BoolOp .And (b :: r) pos) fb) : VE X W md st nw (.BoolOp .And (a :: b :: r) pos) (dAnd fa fb) :=
  ⟨(pe_and ha.run hb.run).imp fun σ H Q ⟨T, H0, B, env, R, p⟩ => ⟨T, H0, B, env, R, p.bind.mono fun dx x H1 s1 _ p1 r1 => by
    cases dx with
    | bl k =>
      refine ⟨k, r1.bl, ?_⟩
      cases k with
      | true => exact ⟨T, H0, B, env, R.same s1, p1⟩
      | false => exact p1 _ H1 (Same.refl _) (.of (Rp.bl.mpr rfl))
    | _ => exact p1.elim⟩⟩
theorem ve_or {r : List Expr} (ha : VE X W md sa na a fa) (hb : VE X W md st nw (.BoolOp .Or (b :: r) pos) fb) : VE X W md st nw (.BoolOp .Or (a :: b :: r) pos) (dOr fa fb) :=
  ⟨(pe_or ha.run hb.run).imp fun σ H Q ⟨T, H0, B, env, R, p⟩ => ⟨T, H0, B, env, R, p.bind.mono fun dx x H1 s1 _ p1 r1 => by
    cases dx with
    | bl k =>
      refine ⟨k, r1.bl, ?_⟩
      cases k with
      | true => exact p1 _ H1 (Same.refl _) (.of (Rp.bl.mpr rfl))
      | false => exact ⟨T, H0, B, env, R.same s1, p1⟩
    | _ => exact p1.elim⟩⟩
theorem ve_not (ha : VE X W md sa na a fa) : VE X W md true true (.UnaryOp .Not a pos) (dNot fa) :=
  ⟨(pe_not ha.run).imp fun σ H Q ⟨T, H0, B, env, R, p⟩ => ⟨T, H0, B, env, R, p.bind.mono fun dx x H1 s1 _ p1 r1 => by
    cases dx with
    | bl k => exact ⟨_, r1.bl, p1 _ H1 (Same.refl _) (.of (Rp.bl.mpr rfl))⟩
    | _ => exact p1.elim⟩⟩
structure VW (X : Cx) (W : WX) (md : Mds) (e : Expr) (f : DX) : Prop where
  run : PW X e (tDT X.K X.mg W md f)
theorem _root_.L2.PW.imp {e : Expr} {t t' : TT} (h : PW X e t) (i : ∀ σ H Q, t' σ H Q → t σ H Q) : PW X e t' := ⟨fun wh pins s σ H Q I w => h.run wh pins s σ H Q I (i σ H Q w)⟩
theorem VW.vt (h : VW X W md e f) : VT X W md e f := ⟨h.run.pt⟩
theorem vw_and1 (h : VT X W md a f) : VW X W md (.BoolOp .And [a] pos) f := ⟨pw_and1 h.run⟩
theorem vw_or1 (h : VT X W md a f) : VW X W md (.BoolOp .Or [a] pos) f := ⟨pw_or1 h.run⟩
theorem vw_and {r : List Expr} (ha : VT X W md a fa) (hb : VW X W md (.BoolOp .And (b :: r) pos) fb) : VW X W md (.BoolOp .And (a :: b :: r) pos) (dAnd fa fb) :=
  ⟨(pw_and ha.run hb.run).imp fun σ H Q ⟨T, H0, B, env, R, p⟩ => ⟨T, H0, B, env, R, p.bind.mono fun dx x H1 s1 _ p1 => by
    cases dx with
    | bl k =>
      refine ⟨k, rfl, ?_⟩
      cases k with
      | true => exact ⟨T, H0, B, env, R.same s1, p1⟩
      | false => obtain ⟨b, e, q⟩ := p1 .non H1 (Same.refl _); cases e; exact q
    | _ => exact p1.elim⟩⟩
theorem vw_or {r : List Expr} (ha : VT X W md a fa) (hb : VW X W md (.BoolOp .Or (b :: r) pos) fb) : VW X W md (.BoolOp .Or (a :: b :: r) pos) (dOr fa fb) :=
  ⟨(pw_or ha.run hb.run).imp fun σ H Q ⟨T, H0, B, env, R, p⟩ => ⟨T, H0, B, env, R, p.bind.mono fun dx x H1 s1 _ p1 => by
    cases dx with
    | bl k =>
      refine ⟨k, rfl, ?_⟩
      cases k with
      | false => exact ⟨T, H0, B, env, R.same s1, p1⟩
      | true => obtain ⟨b, e, q⟩ := p1 .non H1 (Same.refl _); cases e; exact q
    | _ => exact p1.elim⟩⟩
theorem vt_not (ha : VT X W md a fa) : VT X W md (.UnaryOp .Not a pos) (dNot fa) :=
  ⟨(pt_not ha.run).imp fun σ H Q ⟨T, H0, B, env, R, p⟩ => ⟨T, H0, B, env, R, p.bind.mono fun dx x H1 s1 _ p1 => by
    cases dx with
    | bl k =>
      obtain ⟨b, e, q⟩ := p1 .non H1 (Same.refl _)
      cases e
      exact ⟨k, rfl, q⟩
    | _ => exact p1.elim⟩⟩
theorem ve_if {c : Expr} {fc : DX} (hc : VT X W md c fc) (ha : VE X W md st nw a fa) (hb : VE X W md st nw b fb) : VE X W md st nw (.IfExp c a b pos) (dIf fc fa fb) :=
  ⟨(pe_ifExp hc.run ha.run hb.run).imp fun σ H Q ⟨T, H0, B, env, R, p⟩ => ⟨T, H0, B, env, R, p.bind.mono fun dx x H1 s1 _ p1 => by
    cases dx with
    | bl k =>
      refine ⟨k, rfl, ?_⟩
      cases k with
      | true => exact ⟨T, H0, B, env, R.same s1, p1⟩
      | false => exact ⟨T, H0, B, env, R.same s1, p1⟩
    | _ => exact p1.elim⟩⟩
end
end Dl

/-! Dl4: calls of the program's own defs, of built-ins; the rest of the operators. -/
namespace Dl
open PySem PySem.Spec PyProof.Rows L2

/-- d handed back at v: a list or dict on top is new, alone -/
def Rpf (K : PySem.W.Frag) (H : Hp) (A : Pred) (v : V) (d : D) : Prop := match d with
  | .lst ds => ∃ p, v = .ref p ∧ ¬ A p ∧ Top K H (fun a => A a ∨ a = p) p (.lst ds)
  | .dic t ks ws => ∃ p, v = .ref p ∧ ¬ A p ∧ Top K H (fun a => A a ∨ a = p) p (.dic t ks ws)
  | d => Rp K H A v d
def FR (fresh : Bool) (K : PySem.W.Frag) (H0 H : Hp) (T : Pred) (v : V) (d : D) : Prop := match fresh with
  | true => Rpf K H (fun a => ∃ o, H0 a = some o) v d
  | false => Rp K H T v d
/-- what a def of plain data promises -/
def spD (K : PySem.W.Frag) (mg : Str → Option Value) (ar : Nat) (fresh : Bool) (g : DF') : Sp := fun vs H Q E => ∃ (T : Pred) (ds : List D), (∀ a, T a → ∃ o, H a = some o) ∧ Rps K H T vs ds ∧ ds.length = ar ∧
  match g ds with
  | .ok d => ∀ v H', Same H H' → FR fresh K H H' T v d → Q v H'
  | .exc c fs => ∀ cls dd H', Same H H' → ExcAt K mg H' c fs cls dd → E cls dd H'
  | .bad => False
structure FEnt where
  name : Str
  ar : Nat
  fresh : Bool
  den : DF'
structure FnAt (X : Cx) (k : Nat) (e : FEnt) : Prop where
  ex : ∃ f fd ps, FnOk X.prog X.w X.K X.mg X.base (L2.CX X.prog X.w) k f fd ps (spD X.K X.mg e.ar e.fresh e.den) ∧ X.mg e.name = some (.ref f) ∧ PySem.W.keepIn X.K (.ref f) = true ∧ Binds X.K fd ps []

theorem Rpf.rp {K : PySem.W.Frag} {H : Hp} {A : Pred} {v : V} {d : D} (h : Rpf K H A v d) : Rp K H A v d := by
  cases d with
  | lst ds => obtain ⟨p, rfl, n, t⟩ := h; exact t.rpA n
  | dic t ks ws => obtain ⟨p, rfl, n, t⟩ := h; exact t.rpA n
  | _ => exact h

section
variable {X : Cx} {W : WX} {md : Mds} {st nw sa na sb nb : Bool} {e a b : Expr} {f fa fb : DX} {pos : Pos} {es : List Expr} {fs : DXs}
def dCall (g : DF') (fs : DXs) : DX := fun env => (fs env).bind g
/-- the same, of a list or dict alone -/
def onlyL : D → RG D
  | .lst ds => .ok (.lst ds)
  | .dic t ks ws => .ok (.dic t ks ws)
  | _ => .bad
def dCallF (g : DF') (fs : DXs) : DX := fun env => (fs env).bind fun ds => (g ds).bind onlyL

theorem backTo_any {es : List Expr} {env : Env} {pos : Pos} (h : es.all starless = true) : (backTo pos (starEach es env)).any (·.1) = false := by
  have h1 : ∀ es : List Expr, es.all starless = true → (starEach es env).any (·.1) = false := by
    intro es
    induction es with
    | nil => intro _; rfl
    | cons e r ih =>
      intro h
      rw [List.all_cons, Bool.and_eq_true] at h
      rw [notStar h.1, List.any_cons, ih h.2]
      rfl
  have h2 : ∀ l : List (Bool × Sem Value), l.any (·.1) = false → (backTo pos l).any (·.1) = false := by
    intro l h
    unfold backTo
    first
      | (rw [List.any_map]; exact h)
      | (simpa [Function.comp] using h)
  exact h2 _ (h1 es h)

theorem call_reading {σ : L2.St} {H : Hp} {Q : VK} {ar : Nat} {g : DF'} (hl : ∀ env ds, fs env = .ok ds → ds.length = ar) (h : tD X.K X.mg W md true true (dCall g fs) σ H Q) : tCallS (spD X.K X.mg ar true g) (WE W) (tDs X.K X.mg W md st nw fs) σ H Q := by
  obtain ⟨T, H0, B, env, R, p⟩ := h
  refine ⟨T, H0, B, env, R, p.bind.mono fun ds vs H1 s1 eq p1 r => ⟨fun _ => False, ds, fun _ z => z.elim, r.free, hl env ds eq, ?_⟩⟩
  cases e : g ds with
  | ok d =>
    rw [e] at p1
    exact fun v H' s q => p1 v H' s (.of (Rp.weak (Rpf.rp q) fun a z => (R.same s1).avdThere z))
  | exc c fs => rw [e] at p1; exact p1
  | bad => rw [e] at p1; exact p1
theorem call_readingA {σ : L2.St} {H : Hp} {Q : VK} {ar : Nat} {g : DF'} (hl : ∀ env ds, fs env = .ok ds → ds.length = ar) (h : tD X.K X.mg W md true nw (dCall g fs) σ H Q) : tCallS (spD X.K X.mg ar false g) (WE W) (tDs X.K X.mg W md true nw fs) σ H Q := by
  obtain ⟨T, H0, B, env, R, p⟩ := h
  refine ⟨T, H0, B, env, R, p.bind.mono fun ds vs H1 s1 eq p1 r => ⟨Avd md σ env T H0 nw, ds, fun a z => (R.same s1).avdThere z, r.strict, hl env ds eq, ?_⟩⟩
  cases e : g ds with
  | ok d =>
    rw [e] at p1
    exact fun v H' s q => p1 v H' s (.of q)
  | exc c fs => rw [e] at p1; exact p1
  | bad => rw [e] at p1; exact p1
theorem call_readingF {σ : L2.St} {H : Hp} {Q : VK} {ar : Nat} {g : DF'} (hl : ∀ env ds, fs env = .ok ds → ds.length = ar) (h : tDF X.K X.mg W md true (dCallF g fs) σ H Q) : tCallS (spD X.K X.mg ar true g) (WE W) (tDs X.K X.mg W md st nw fs) σ H Q := by
  obtain ⟨T, H0, B, env, R, p⟩ := h
  refine ⟨T, H0, B, env, R, p.bind.mono fun ds vs H1 s1 eq p1 r => ⟨fun _ => False, ds, fun _ z => z.elim, r.free, hl env ds eq, ?_⟩⟩
  have R1 := R.same s1
  have fin : ∀ {v : V} {H' : Hp} {d : D} {q : Addr}, v = .ref q → (¬ ∃ o, H1 q = some o) → Top X.K H' (fun a => (∃ o, H1 a = some o) ∨ a = q) q d → ∃ q, v = V.ref q ∧ H q = none ∧ Top X.K H' (fun a => Avd md σ env T H0 true a ∨ a = q) q d := fun {v H' d q} ev n t => by
    refine ⟨q, ev, ?_, t.carry (.weak fun a z => z.elim (fun y => .inl (R1.avdThere y)) .inr) fun _ u => u⟩
    cases hq : H q with
    | none => rfl
    | some o => exact absurd ⟨o, s1 _ _ hq⟩ n
  cases e : g ds with
  | ok d =>
    rw [e] at p1
    cases d with
    | lst ds => exact fun v H' s ⟨q, ev, n, t⟩ => p1 v H' s (fin ev n t)
    | dic b ks ws => exact fun v H' s ⟨q, ev, n, t⟩ => p1 v H' s (fin ev n t)
    | _ => exact p1.elim
  | exc c fs => rw [e] at p1; exact p1
  | bad => rw [e] at p1; exact p1

theorem ve_call {k : Nat} {F : FEnt} {p : Pos} (hf : F.fresh = true) (hF : FnAt X k F) (hr : Room k X.A) (hg : Gl X F.name) (tk : Takes X W) (ha : VA X W md st nw (e :: es) fs) (hl : ∀ env ds, fs env = .ok ds → ds.length = F.ar)
    (hdb : (F.name == ("__debug__" : Str)) = false) (hs : (e :: es).all starless = true) : VE X W md true true (.Call (.Name F.name p) (e :: es) [] pos) (dCall F.den fs) := by
  obtain ⟨f, fd, ps, ok, hm, hk, hb⟩ := hF.ex
  rw [hf] at ok
  rw [List.all_cons, Bool.and_eq_true] at hs
  exact ⟨(pe_callS ok hr hg hm hk hb (fun σ => passAt tk σ) ha.run hdb (notStar hs.1) (backTo_any hs.2)).imp fun σ H Q h => call_reading hl h⟩
theorem ve_callA {k : Nat} {F : FEnt} {p : Pos} (hf : F.fresh = false) (hF : FnAt X k F) (hr : Room k X.A) (hg : Gl X F.name) (tk : Takes X W) (ha : VA X W md true nw (e :: es) fs) (hl : ∀ env ds, fs env = .ok ds → ds.length = F.ar)
    (hdb : (F.name == ("__debug__" : Str)) = false) (hs : (e :: es).all starless = true) : VE X W md true nw (.Call (.Name F.name p) (e :: es) [] pos) (dCall F.den fs) := by
  obtain ⟨f, fd, ps, ok, hm, hk, hb⟩ := hF.ex
  rw [hf] at ok
  rw [List.all_cons, Bool.and_eq_true] at hs
  exact ⟨(pe_callS ok hr hg hm hk hb (fun σ => passAt tk σ) ha.run hdb (notStar hs.1) (backTo_any hs.2)).imp fun σ H Q h => call_readingA hl h⟩
theorem vf_call {k : Nat} {F : FEnt} {p : Pos} (hf : F.fresh = true) (hF : FnAt X k F) (hr : Room k X.A) (hg : Gl X F.name) (tk : Takes X W) (ha : VA X W md st nw (e :: es) fs) (hl : ∀ env ds, fs env = .ok ds → ds.length = F.ar)
    (hdb : (F.name == ("__debug__" : Str)) = false) (hs : (e :: es).all starless = true) : VF X W md true (.Call (.Name F.name p) (e :: es) [] pos) (dCallF F.den fs) := by
  obtain ⟨f, fd, ps, ok, hm, hk, hb⟩ := hF.ex
  rw [hf] at ok
  rw [List.all_cons, Bool.and_eq_true] at hs
  exact ⟨(pe_callS ok hr hg hm hk hb (fun σ => passAt tk σ) ha.run hdb (notStar hs.1) (backTo_any hs.2)).imp fun σ H Q h => call_readingF hl h⟩

/-! ### built-ins -/
def CallD (X : Cx) (r : List V → Hp → VK → Prop) (g : List D → Option D) : Prop := ∀ (H : Hp) (A : Pred) (xs : List V) (ds : List D) (Q : VK), (∀ a, A a → ∃ o, H a = some o) → Rks false X.K H A xs ds → GP X.K H A (g ds) Q → r xs H Q
def dCallO (g : List D → Option D) (fs : DXs) : DX := fun env => (fs env).bind fun ds => .ofO (g ds)
theorem Rks.loose {K : PySem.W.Frag} {H : Hp} {A : Pred} {vs : List V} {ds : List D} (h : Rks st K H A vs ds) : Rks false K H A vs ds := by
  induction h with
  | nil => exact .nil
  | cons q _ ih => exact .cons q.loose ih
theorem blt_reading {σ : L2.St} {H : Hp} {Q : VK} {r : List V → Hp → VK → Prop} {g : List D → Option D} (hg : CallD X r g) (h : tD X.K X.mg W md true nw (dCallO g fs) σ H Q) : tCB r (tDs X.K X.mg W md st nw fs) σ H Q := by
  obtain ⟨T, H0, B, env, R, p⟩ := h
  exact ⟨T, H0, B, env, R, p.bind.mono fun ds vs H1 s1 _ p1 r1 => hg H1 _ vs ds Q (fun a z => (R.same s1).avdThere z) r1.loose (gp_of p1)⟩
def ScalarN (g : List D → Option D) : Prop := ∀ ds d, g ds = some d → imm d = true
theorem blt_readingS {σ : L2.St} {H : Hp} {Q : VK} {r : List V → Hp → VK → Prop} {g : List D → Option D} (hg : CallD X r g) (hs : ScalarN g) (h : tD X.K X.mg W md true true (dCallO g fs) σ H Q) : tCB r (tDs X.K X.mg W md st nw fs) σ H Q := by
  obtain ⟨T, H0, B, env, R, p⟩ := h
  exact ⟨T, H0, B, env, R, p.bind.mono fun ds vs H1 s1 _ p1 r1 => hg H1 _ vs ds Q (fun a z => (R.same s1).avdThere z) r1.loose (gp_imm (fun d e => hs ds d e) (gp_of p1))⟩
structure BltAt (X : Cx) (x : Str) (v : Value) : Prop where
  gl : Gl X x
  mg : X.mg x = none
  bt : bootBuiltins x = some v
  nm : x ≠ "__name__"
  db : (x == ("__debug__" : Str)) = false
theorem ve_blt {x : Str} {id : String} {p : Pos} {r : List V → Hp → VK → Prop} {g : List D → Option D} (hc : CallR X (.builtin id) r) (hg : CallD X r g) (hb : BltAt X x (.builtin id)) (ha : VA X W md st nw (e :: es) fs)
    (hs : (e :: es).all starless = true) : VE X W md true nw (.Call (.Name x p) (e :: es) [] pos) (dCallO g fs) := by
  rw [List.all_cons, Bool.and_eq_true] at hs
  exact ⟨(pe_callB hc hb.gl hb.mg hb.bt ha.run hb.nm hb.db (notStar hs.1) (backTo_any hs.2)).imp fun _ _ _ h => blt_reading hg h⟩
theorem ve_bltS {x : Str} {id : String} {p : Pos} {r : List V → Hp → VK → Prop} {g : List D → Option D} (hc : CallR X (.builtin id) r) (hg : CallD X r g) (hsc : ScalarN g) (hb : BltAt X x (.builtin id)) (ha : VA X W md st nw (e :: es) fs)
    (hs : (e :: es).all starless = true) : VE X W md true true (.Call (.Name x p) (e :: es) [] pos) (dCallO g fs) := by
  rw [List.all_cons, Bool.and_eq_true] at hs
  exact ⟨(pe_callB hc hb.gl hb.mg hb.bt ha.run hb.nm hb.db (notStar hs.1) (backTo_any hs.2)).imp fun _ _ _ h => blt_readingS hg hsc h⟩
theorem ve_bty {x : Str} {id : String} {p : Pos} {r : List V → Hp → VK → Prop} {g : List D → Option D} (hc : CallR X (.type id) r) (hg : CallD X r g) (hb : BltAt X x (.type id)) (ha : VA X W md st nw (e :: es) fs)
    (hs : (e :: es).all starless = true) : VE X W md true nw (.Call (.Name x p) (e :: es) [] pos) (dCallO g fs) := by
  rw [List.all_cons, Bool.and_eq_true] at hs
  exact ⟨(pe_callTy hc hb.gl hb.mg hb.bt ha.run hb.nm hb.db (notStar hs.1) (backTo_any hs.2)).imp fun _ _ _ h => blt_reading hg h⟩

theorem Rks.one {K : PySem.W.Frag} {H : Hp} {A : Pred} {xs : List V} {d : D} (h : Rks st K H A xs [d]) : ∃ v, xs = [v] ∧ Rk st K H A v d := by
  cases h with
  | cons q t => cases t; exact ⟨_, rfl, q⟩
theorem Rks.two {K : PySem.W.Frag} {H : Hp} {A : Pred} {xs : List V} {d d2 : D} (h : Rks st K H A xs [d, d2]) : ∃ v v2, xs = [v, v2] ∧ Rk st K H A v d ∧ Rk st K H A v2 d2 := by
  cases h with
  | cons q t =>
    obtain ⟨v, rfl, q2⟩ := t.one
    exact ⟨_, _, rfl, q, q2⟩

def gLen : List D → Option D
  | [.lst ds] => some (.int ds.length)
  | [.tup ds] => some (.int ds.length)
  | [.frl ds] => some (.int ds.length)
  | [.ktp ds] => some (.int ds.length)
  | [.str z] => if z.length ≤ sizeLine then some (.int z.length) else none
  | _ => none
theorem cd_len : CallD X (fun xs H Q => ∃ x n, xs = [x] ∧ LenV X.K x H n ∧ Q (.int n) H) gLen := by
  intro H A xs ds Q _ r p
  match ds, r, p with
  | [.lst ds], r, p =>
    obtain ⟨v, rfl, q⟩ := r.one
    obtain ⟨a, vs, rfl, h, t⟩ := q.lst
    exact ⟨_, vs.length, rfl, .inl ⟨vs, SqL.of h, rfl⟩, gp_scalar p (Rp.int.mpr (by rw [t.length]))⟩
  | [.frl ds], r, p =>
    obtain ⟨v, rfl, q⟩ := r.one
    obtain ⟨a, vs, rfl, h, t⟩ := q.frl
    exact ⟨_, vs.length, rfl, .inl ⟨vs, h.sq, rfl⟩, gp_scalar p (Rp.int.mpr (by rw [t.length]))⟩
  | [.tup ds], r, p =>
    obtain ⟨v, rfl, q⟩ := r.one
    obtain ⟨a, vs, rfl, h, t⟩ := q.tup
    exact ⟨_, vs.length, rfl, .inr ⟨vs, SqT.of h, rfl⟩, gp_scalar p (Rp.int.mpr (by rw [t.length]))⟩
  | [.ktp ds], r, p =>
    obtain ⟨v, rfl, q⟩ := r.one
    obtain ⟨a, vs, rfl, h, t⟩ := q.ktp
    exact ⟨_, vs.length, rfl, .inr ⟨vs, h, rfl⟩, gp_scalar p (Rp.int.mpr (by rw [t.length]))⟩
  | [.str z], r, p =>
    obtain ⟨v, rfl, q⟩ := r.one
    simp only [gLen] at p
    split at p
    · next hz => exact ⟨_, z.length, rfl, by rw [q.str]; exact ⟨hz, rfl⟩, gp_scalar p (Rp.int.mpr rfl)⟩
    · exact p.elim
  | [], r, p => exact p.elim
  | [.non], r, p => exact p.elim
  | [.bl _], r, p => exact p.elim
  | [.int _], r, p => exact p.elim
  | [.dic _ _ _], r, p => exact p.elim
  | d0 :: d1 :: dr, r, p => cases d0 <;> exact p.elim
theorem sc_len : ScalarN gLen := by
  intro ds d e
  unfold gLen at e
  split at e <;> first | (cases e; rfl) | (split at e <;> cases e; rfl) | cases e
def intsOf : List D → Option (List Int)
  | [] => some []
  | .int i :: r => (intsOf r).map (i :: ·)
  | _ => none
def blsOf : List D → Option (List Bool)
  | [] => some []
  | .bl i :: r => (blsOf r).map (i :: ·)
  | _ => none
theorem intsOf_eq : ∀ {ds : List D} {ns : List Int}, intsOf ds = some ns → ds = ns.map D.int
  | [], ns, h => by cases h; rfl
  | .int i :: r, ns, h => by
    unfold intsOf at h
    cases e : intsOf r with
    | none => rw [e] at h; cases h
    | some m => rw [e] at h; cases h; rw [intsOf_eq e]; rfl
  | .non :: r, ns, h => by cases h
  | .bl _ :: r, ns, h => by cases h
  | .str _ :: r, ns, h => by cases h
  | .tup _ :: r, ns, h => by cases h
  | .lst _ :: r, ns, h => by cases h
  | .frl _ :: r, ns, h => by cases h
  | .ktp _ :: r, ns, h => by cases h
  | .dic _ _ _ :: r, ns, h => by cases h
theorem blsOf_eq : ∀ {ds : List D} {ns : List Bool}, blsOf ds = some ns → ds = ns.map D.bl
  | [], ns, h => by cases h; rfl
  | .bl i :: r, ns, h => by
    unfold blsOf at h
    cases e : blsOf r with
    | none => rw [e] at h; cases h
    | some m => rw [e] at h; cases h; rw [blsOf_eq e]; rfl
  | .non :: r, ns, h => by cases h
  | .int _ :: r, ns, h => by cases h
  | .str _ :: r, ns, h => by cases h
  | .tup _ :: r, ns, h => by cases h
  | .lst _ :: r, ns, h => by cases h
  | .frl _ :: r, ns, h => by cases h
  | .ktp _ :: r, ns, h => by cases h
  | .dic _ _ _ :: r, ns, h => by cases h
theorem Rps.ints {K : PySem.W.Frag} {H : Hp} {A : Pred} : ∀ {ns : List Int} {vs : List V}, Rps K H A vs (ns.map D.int) → vs = ns.map V.int
  | [], vs, h => h.nil_eq
  | n :: ns, vs, h => by
    obtain ⟨v, r, rfl, q, t⟩ := h.uncons
    rw [Rp.int.mp q, Rps.ints t]
    rfl
theorem Rps.bls {K : PySem.W.Frag} {H : Hp} {A : Pred} : ∀ {ns : List Bool} {vs : List V}, Rps K H A vs (ns.map D.bl) → vs = ns.map V.bl
  | [], vs, h => h.nil_eq
  | n :: ns, vs, h => by
    obtain ⟨v, r, rfl, q, t⟩ := h.uncons
    rw [Rp.bl.mp q, Rps.bls t]
    rfl
def maxI (i j : Int) : Int := if j > i then j else i
def minI (i j : Int) : Int := if j < i then j else i
def gMax2 : List D → Option D
  | [.int i, .int j] => some (.int (maxI i j))
  | _ => none
def gMin2 : List D → Option D
  | [.int i, .int j] => some (.int (minI i j))
  | _ => none
theorem cd_max2 : CallD X (fun xs H Q => ∃ i j, xs = [.int i, .int j] ∧ Q (.int (if j > i then j else i)) H) gMax2 := by
  intro H A xs ds Q _ r p
  unfold gMax2 at p
  split at p
  · obtain ⟨v, v2, rfl, q, q2⟩ := r.two
    exact ⟨_, _, by rw [q.int, q2.int], gp_scalar p (Rp.int.mpr rfl)⟩
  · exact p.elim
theorem cd_min2 : CallD X (fun xs H Q => ∃ i j, xs = [.int i, .int j] ∧ Q (.int (if j < i then j else i)) H) gMin2 := by
  intro H A xs ds Q _ r p
  unfold gMin2 at p
  split at p
  · obtain ⟨v, v2, rfl, q, q2⟩ := r.two
    exact ⟨_, _, by rw [q.int, q2.int], gp_scalar p (Rp.int.mpr rfl)⟩
  · exact p.elim
def maxL : List Int → Option Int
  | [] => none
  | x :: r => some (r.foldl maxI x)
def minL : List Int → Option Int
  | [] => none
  | x :: r => some (r.foldl minI x)
theorem foldl_maxI : ∀ (r : List Int) (x : Int), (r.foldl maxI x ∈ x :: r) ∧ ∀ y ∈ x :: r, y ≤ r.foldl maxI x
  | [], x => ⟨List.mem_cons_self, fun y hy => by simp at hy; subst hy; exact Int.le_refl _⟩
  | z :: r, x => by
    obtain ⟨h1, h2⟩ := foldl_maxI r (maxI x z)
    have hm : maxI x z = x ∨ maxI x z = z := by unfold maxI; split <;> simp
    have hx : x ≤ maxI x z := by unfold maxI; split <;> omega
    have hz : z ≤ maxI x z := by unfold maxI; split <;> omega
    refine ⟨?_, fun y hy => ?_⟩
    · show r.foldl maxI (maxI x z) ∈ _
      rcases List.mem_cons.mp h1 with e | e
      · rw [e]; rcases hm with k | k <;> rw [k] <;> simp
      · simp [e]
    · show y ≤ r.foldl maxI (maxI x z)
      have b := h2 _ List.mem_cons_self
      rcases List.mem_cons.mp hy with e | hy
      · subst e; omega
      · rcases List.mem_cons.mp hy with e | hy
        · subst e; omega
        · exact h2 y (List.mem_cons_of_mem _ hy)
theorem foldl_minI : ∀ (r : List Int) (x : Int), (r.foldl minI x ∈ x :: r) ∧ ∀ y ∈ x :: r, r.foldl minI x ≤ y
  | [], x => ⟨List.mem_cons_self, fun y hy => by simp at hy; subst hy; exact Int.le_refl _⟩
  | z :: r, x => by
    obtain ⟨h1, h2⟩ := foldl_minI r (minI x z)
    have hm : minI x z = x ∨ minI x z = z := by unfold minI; split <;> simp
    have hx : minI x z ≤ x := by unfold minI; split <;> omega
    have hz : minI x z ≤ z := by unfold minI; split <;> omega
    refine ⟨?_, fun y hy => ?_⟩
    · show r.foldl minI (minI x z) ∈ _
      rcases List.mem_cons.mp h1 with e | e
      · rw [e]; rcases hm with k | k <;> rw [k] <;> simp
      · simp [e]
    · show r.foldl minI (minI x z) ≤ y
      have b := h2 _ List.mem_cons_self
      rcases List.mem_cons.mp hy with e | hy
      · subst e; omega
      · rcases List.mem_cons.mp hy with e | hy
        · subst e; omega
        · exact h2 y (List.mem_cons_of_mem _ hy)
def gMaxL : List D → Option D
  | [.lst ds] => (intsOf ds).bind fun ns => (maxL ns).map D.int
  | _ => none
def gMinL : List D → Option D
  | [.lst ds] => (intsOf ds).bind fun ns => (minL ns).map D.int
  | _ => none
theorem cd_maxL : CallD X (rMax X.K) gMaxL := by
  intro H A xs ds Q _ r p
  unfold gMaxL at p
  split at p
  · next ds =>
    obtain ⟨v, rfl, q⟩ := r.one
    obtain ⟨a, vs, rfl, h, t⟩ := q.lst
    cases e : intsOf ds with
    | none => rw [e] at p; exact p.elim
    | some ns =>
      rw [e] at p
      rw [intsOf_eq e] at t
      have ev := t.ints
      subst ev
      cases ns with
      | nil => exact p.elim
      | cons x r =>
        have p : GP X.K H A (some (.int (r.foldl maxI x))) Q := p
        obtain ⟨h1, h2⟩ := foldl_maxI r x
        refine ⟨a, x :: r, rfl, SqL.of h, by simp, fun m hm hle => ?_⟩
        have : m = r.foldl maxI x := Int.le_antisymm (h2 m hm) (hle _ h1)
        subst this
        exact gp_scalar p (Rp.int.mpr rfl)
  · exact p.elim
theorem cd_minL : CallD X (rMin X.K) gMinL := by
  intro H A xs ds Q _ r p
  unfold gMinL at p
  split at p
  · next ds =>
    obtain ⟨v, rfl, q⟩ := r.one
    obtain ⟨a, vs, rfl, h, t⟩ := q.lst
    cases e : intsOf ds with
    | none => rw [e] at p; exact p.elim
    | some ns =>
      rw [e] at p
      rw [intsOf_eq e] at t
      have ev := t.ints
      subst ev
      cases ns with
      | nil => exact p.elim
      | cons x r =>
        have p : GP X.K H A (some (.int (r.foldl minI x))) Q := p
        obtain ⟨h1, h2⟩ := foldl_minI r x
        refine ⟨a, x :: r, rfl, SqL.of h, by simp, fun m hm hle => ?_⟩
        have : m = r.foldl minI x := Int.le_antisymm (hle _ h1) (h2 m hm)
        subst this
        exact gp_scalar p (Rp.int.mpr rfl)
  · exact p.elim
/-- max and min of two ints, or of a list of ints -/
def gMax : List D → Option D := fun ds => match ds with
  | [_] => gMaxL ds
  | _ => gMax2 ds
def gMin : List D → Option D := fun ds => match ds with
  | [_] => gMinL ds
  | _ => gMin2 ds
theorem cd_or {r r' : List V → Hp → VK → Prop} {g h : List D → Option D} {k : List D → Option D} (hg : CallD X r g) (hh : CallD X r' h) (hk : ∀ ds, k ds = g ds ∨ k ds = h ds) : CallD X (fun xs H Q => r xs H Q ∨ r' xs H Q) k := by
  intro H A xs ds Q z rr p
  rcases hk ds with e | e
  · rw [e] at p; exact .inl (hg H A xs ds Q z rr p)
  · rw [e] at p; exact .inr (hh H A xs ds Q z rr p)
theorem cd_max : CallD X (fun xs H Q => rMax X.K xs H Q ∨ ∃ i j, xs = [.int i, .int j] ∧ Q (.int (if j > i then j else i)) H) gMax := cd_or cd_maxL cd_max2 fun ds => by
  unfold gMax
  split <;> simp
theorem cd_min : CallD X (fun xs H Q => rMin X.K xs H Q ∨ ∃ i j, xs = [.int i, .int j] ∧ Q (.int (if j < i then j else i)) H) gMin := cd_or cd_minL cd_min2 fun ds => by
  unfold gMin
  split <;> simp
theorem sc_maxL : ScalarN gMaxL := by
  intro ds d e
  unfold gMaxL at e
  split at e
  · next ds =>
    cases h : intsOf ds with
    | none => rw [h] at e; cases e
    | some ns => rw [h] at e; cases ns <;> cases e; rfl
  · cases e
theorem sc_minL : ScalarN gMinL := by
  intro ds d e
  unfold gMinL at e
  split at e
  · next ds =>
    cases h : intsOf ds with
    | none => rw [h] at e; cases e
    | some ns => rw [h] at e; cases ns <;> cases e; rfl
  · cases e
theorem sc_max : ScalarN gMax := by
  intro ds d e
  unfold gMax at e
  split at e
  · exact sc_maxL _ _ e
  · unfold gMax2 at e
    split at e <;> cases e
    rfl
theorem sc_min : ScalarN gMin := by
  intro ds d e
  unfold gMin at e
  split at e
  · exact sc_minL _ _ e
  · unfold gMin2 at e
    split at e <;> cases e
    rfl
def gAll : List D → Option D
  | [.lst ds] => (blsOf ds).map fun bs => .bl (bs.all id)
  | _ => none
def gAny : List D → Option D
  | [.lst ds] => (blsOf ds).map fun bs => .bl (bs.any id)
  | _ => none
def gSum : List D → Option D
  | [.lst ds] => (intsOf ds).map fun ns => .int ns.sum
  | _ => none
theorem cd_all : CallD X (rAll X.K) gAll := by
  intro H A xs ds Q _ r p
  unfold gAll at p
  split at p
  · next ds =>
    obtain ⟨v, rfl, q⟩ := r.one
    obtain ⟨a, vs, rfl, h, t⟩ := q.lst
    cases e : blsOf ds with
    | none => rw [e] at p; exact p.elim
    | some ns =>
      rw [e] at p
      rw [blsOf_eq e] at t
      have ev := t.bls
      subst ev
      exact ⟨a, ns, rfl, SqL.of h, gp_scalar p (Rp.bl.mpr rfl)⟩
  · exact p.elim
theorem cd_any : CallD X (rAny X.K) gAny := by
  intro H A xs ds Q _ r p
  unfold gAny at p
  split at p
  · next ds =>
    obtain ⟨v, rfl, q⟩ := r.one
    obtain ⟨a, vs, rfl, h, t⟩ := q.lst
    cases e : blsOf ds with
    | none => rw [e] at p; exact p.elim
    | some ns =>
      rw [e] at p
      rw [blsOf_eq e] at t
      have ev := t.bls
      subst ev
      exact ⟨a, ns, rfl, SqL.of h, gp_scalar p (Rp.bl.mpr rfl)⟩
  · exact p.elim
theorem cd_sum : CallD X (rSum X.K) gSum := by
  intro H A xs ds Q _ r p
  unfold gSum at p
  split at p
  · next ds =>
    obtain ⟨v, rfl, q⟩ := r.one
    obtain ⟨a, vs, rfl, h, t⟩ := q.lst
    cases e : intsOf ds with
    | none => rw [e] at p; exact p.elim
    | some ns =>
      rw [e] at p
      rw [intsOf_eq e] at t
      have ev := t.ints
      subst ev
      exact ⟨a, ns, rfl, SqL.of h, gp_scalar p (Rp.int.mpr rfl)⟩
  · exact p.elim
theorem sc_all : ScalarN gAll := by
  intro ds d e
  unfold gAll at e
  split at e
  · next ds => cases h : blsOf ds <;> rw [h] at e <;> cases e; rfl
  · cases e
theorem sc_any : ScalarN gAny := by
  intro ds d e
  unfold gAny at e
  split at e
  · next ds => cases h : blsOf ds <;> rw [h] at e <;> cases e; rfl
  · cases e
theorem sc_sum : ScalarN gSum := by
  intro ds d e
  unfold gSum at e
  split at e
  · next ds => cases h : intsOf ds <;> rw [h] at e <;> cases e; rfl
  · cases e
def gAbs : List D → Option D
  | [.int i] => some (.int (if i < 0 then -i else i))
  | _ => none
theorem cd_abs : CallD X (fun xs H Q => ∃ i, xs = [.int i] ∧ Q (.int (if i < 0 then -i else i)) H) gAbs := by
  intro H A xs ds Q _ r p
  unfold gAbs at p
  split at p
  · obtain ⟨v, rfl, q⟩ := r.one
    exact ⟨_, by rw [q.int], gp_scalar p (Rp.int.mpr rfl)⟩
  · exact p.elim
theorem sc_abs : ScalarN gAbs := by
  intro ds d e
  unfold gAbs at e
  split at e <;> cases e
  rfl
end
end Dl

/-! Dl5: +, <, in, isinstance, list, tuple, constants of the module. -/
namespace Dl
open PySem PySem.Spec PyProof.Rows L2
section
variable {X : Cx} {W : WX} {md : Mds} {st nw sa na sb nb : Bool} {e a b : Expr} {f fa fb : DX} {pos : Pos} {es : List Expr} {fs : DXs}

theorem op2_or {r r' : R2} {g h k : D → D → Option D} (hg : Op2 X r g) (hh : Op2 X r' h) (hk : ∀ x y, k x y = g x y ∨ k x y = h x y) : Op2 X (fun x y H Q => r x y H Q ∨ r' x y H Q) k := by
  intro H A x y dx dy Q z rx ry p
  rcases hk dx dy with e | e
  · rw [e] at p; exact .inl (hg H A x y dx dy Q z rx ry p)
  · rw [e] at p; exact .inr (hh H A x y dx dy Q z rx ry p)

/-! ### + -/
def gCatL : D → D → Option D
  | .lst xs, .lst ys => if xs.length + ys.length ≤ sizeLine then some (.lst (xs ++ ys)) else none
  | _, _ => none
def gCatT : D → D → Option D
  | .tup xs, .tup ys => if xs.length + ys.length ≤ sizeLine then some (.tup (xs ++ ys)) else none
  | _, _ => none
def gCatS : D → D → Option D
  | .str x, .str y => if x.length + y.length ≤ sizeLine then some (.str (x ++ y)) else none
  | _, _ => none
theorem newA {H : Hp} {A : Pred} {q : Addr} (hA : ∀ a, A a → ∃ o, H a = some o) (nq : H q = none) : ¬ A q := fun z => by
  obtain ⟨o, e⟩ := hA q z
  rw [nq] at e
  cases e
theorem op_gCatL : Op2 X rCat gCatL := by
  intro H A x y dx dy Q hA rx ry p
  unfold gCatL at p
  split at p
  · next xs ys =>
    split at p
    · next hz =>
      obtain ⟨a, vs, rfl, h, r⟩ := rx.lst
      obtain ⟨b, ws, rfl, h2, r2⟩ := ry.lst
      refine ⟨a, b, vs, ws, rfl, rfl, h, h2, by rw [r.length, r2.length]; exact hz, fun q nq => ?_⟩
      exact p _ _ (same_new nq) (Rp.lst.mpr ⟨q, _, rfl, newA hA nq, upd_same, (r.append r2).same (same_new nq)⟩)
    · exact p.elim
  · exact p.elim
theorem Rps.nil_len {K : PySem.W.Frag} {H : Hp} {A : Pred} {vs : List V} {ds : List D} (r : Rps K H A vs ds) (e : vs = []) : ds = [] := by
  have := r.length
  subst e
  cases ds with
  | nil => rfl
  | cons _ _ => cases this
theorem op_gCatT : Op2 X (rCatA X.K) gCatT := by
  intro H A x y dx dy Q hA rx ry p
  unfold gCatT at p
  split at p
  · next xs ys =>
    split at p
    · next hz =>
      obtain ⟨a, vs, rfl, h, r⟩ := rx.tup
      obtain ⟨b, ws, rfl, h2, r2⟩ := ry.tup
      refine ⟨a, b, vs, ws, rfl, rfl, SqT.of h, SqT.of h2, by rw [r.length, r2.length]; exact hz, fun e => ?_, fun _ e => ?_, fun _ _ q nq => ?_⟩
      · have := r.nil_len e
        subst this
        exact gp_scalar p (Rp.tup.mpr ⟨b, ws, rfl, h2, r2⟩)
      · have := r2.nil_len e
        subst this
        rw [List.append_nil] at p
        exact gp_scalar p (Rp.tup.mpr ⟨a, vs, rfl, h, r⟩)
      · exact p _ _ (same_new nq) (Rp.tup.mpr ⟨q, _, rfl, upd_same, (r.append r2).same (same_new nq)⟩)
    · exact p.elim
  · exact p.elim
theorem op_gCatS : Op2 X (fun x y H Q => ∃ i j, x = .str i ∧ y = .str j ∧ i.length + j.length ≤ sizeLine ∧ Q (.str (i ++ j)) H) gCatS := by
  intro H A x y dx dy Q hA rx ry p
  unfold gCatS at p
  split at p
  · next i j =>
    split at p
    · next hz => exact ⟨i, j, rx.str, ry.str, hz, gp_scalar p (Rp.str.mpr rfl)⟩
    · exact p.elim
  · exact p.elim
def gAdd : D → D → Option D := fun x y => match x with
  | .int _ => gAddI x y
  | .lst _ => gCatL x y
  | .tup _ => gCatT x y
  | _ => gCatS x y
def rAddAll (K : PySem.W.Frag) : R2 := fun x y H Q => ((rI0 (fun i j => .int (i + j)) x y H Q ∨ rCat x y H Q) ∨ rCatA K x y H Q) ∨ ∃ i j, x = .str i ∧ y = .str j ∧ i.length + j.length ≤ sizeLine ∧ Q (.str (i ++ j)) H
theorem opr_add : OpR X (binaryOp .Add) (rAddAll X.K) := ((op_add.or op_cat).or op_catA).or op_add_str
theorem op_gAdd : Op2 X (rAddAll X.K) gAdd := by
  intro H A x y dx dy Q hA rx ry p
  unfold gAdd at p
  split at p
  · exact .inl (.inl (.inl (op_gAddI H A x y _ _ Q hA rx ry p)))
  · exact .inl (.inl (.inr (op_gCatL H A x y _ _ Q hA rx ry p)))
  · exact .inl (.inr (op_gCatT H A x y _ _ Q hA rx ry p))
  · exact .inr (op_gCatS H A x y _ _ Q hA rx ry p)

/-! ### < -/
def gLtT : D → D → Option D
  | .tup xs, .tup ys => (intsOf xs).bind fun ns => (intsOf ys).map fun ms => .bl (HT.lexLt ns ms)
  | _, _ => none
theorem op_gLtT : Op2 X (rLtT X.K) gLtT := by
  intro H A x y dx dy Q hA rx ry p
  unfold gLtT at p
  split at p
  · next xs ys =>
    cases e1 : intsOf xs with
    | none => rw [e1] at p; exact p.elim
    | some ns =>
      cases e2 : intsOf ys with
      | none => rw [e1, e2] at p; exact p.elim
      | some ms =>
        rw [e1, e2] at p
        obtain ⟨a, vs, rfl, h, r⟩ := rx.tup
        obtain ⟨b, ws, rfl, h2, r2⟩ := ry.tup
        rw [intsOf_eq e1] at r
        rw [intsOf_eq e2] at r2
        have ev := r.ints
        have ew := r2.ints
        subst ev ew
        exact ⟨a, b, ns, ms, rfl, rfl, SqT.of h, SqT.of h2, gp_scalar p (Rp.bl.mpr rfl)⟩
  · exact p.elim
def gLt : D → D → Option D := fun x y => match x with
  | .int _ => gCmpI (fun i j => decide (i < j)) x y
  | _ => gLtT x y
def rLtAll (K : PySem.W.Frag) : R2 := fun x y H Q => rI0 (fun i j => .bl (decide (i < j))) x y H Q ∨ rLtT K x y H Q
theorem opr_lt (hu : X.A.units < cLine) : OpR X (compareOp .Lt) (rLtAll X.K) := op_lt.or (op_ltT hu)
theorem op_gLt : Op2 X (rLtAll X.K) gLt := by
  intro H A x y dx dy Q hA rx ry p
  unfold gLt at p
  split at p
  · exact .inl (op_gCmpI H A x y _ _ Q hA rx ry p)
  · exact .inr (op_gLtT H A x y _ _ Q hA rx ry p)
theorem sc_gLtT : Scalar2 gLtT := by
  intro x y d e
  unfold gLtT at e
  split at e
  · next xs ys =>
    cases e1 : intsOf xs with
    | none => rw [e1] at e; cases e
    | some ns =>
      cases e2 : intsOf ys with
      | none => rw [e1, e2] at e; exact absurd e (by simp)
      | some ms => rw [e1, e2] at e; have e : some (D.bl (HT.lexLt ns ms)) = some d := e; cases e; rfl
  · cases e
theorem sc_gLt : Scalar2 gLt := by
  intro x y d e
  unfold gLt at e
  split at e
  · exact sc_gCmpI _ _ _ e
  · exact sc_gLtT _ _ _ e

/-! ### in -/
def flatD : D → Bool
  | .non => true
  | .bl _ => true
  | .int _ => true
  | .str _ => true
  | _ => false
def toV : D → V
  | .non => .non
  | .bl b => .bl b
  | .int i => .int i
  | .str x => .str x
  | _ => .non
theorem Rp.flat {K : PySem.W.Frag} {H : Hp} {A : Pred} {v : V} {d : D} (h : Rp K H A v d) (f : flatD d = true) : v = toV d ∧ flatV v = true := by
  cases d with
  | non => rw [Rp.non.mp h]; exact ⟨rfl, rfl⟩
  | bl _ => rw [Rp.bl.mp h]; exact ⟨rfl, rfl⟩
  | int _ => rw [Rp.int.mp h]; exact ⟨rfl, rfl⟩
  | str _ => rw [Rp.str.mp h]; exact ⟨rfl, rfl⟩
  | _ => cases f
theorem Rps.flat {K : PySem.W.Frag} {H : Hp} {A : Pred} : ∀ {ds : List D} {vs : List V}, Rps K H A vs ds → ds.all flatD = true → vs = ds.map toV ∧ vs.all flatV = true
  | [], vs, h, _ => by rw [h.nil_eq]; exact ⟨rfl, rfl⟩
  | d :: ds, vs, h, f => by
    obtain ⟨v, r, rfl, q, t⟩ := h.uncons
    rw [List.all_cons, Bool.and_eq_true] at f
    obtain ⟨e1, f1⟩ := q.flat f.1
    obtain ⟨e2, f2⟩ := Rps.flat t f.2
    rw [e2] at f2 ⊢
    rw [e1] at f1 ⊢
    exact ⟨rfl, by rw [List.all_cons, f1, f2]; rfl⟩
def inFlat (x : D) (ys : List D) : Option D := if flatD x && ys.all flatD then some (.bl (inV (toV x) (ys.map toV))) else none
def inDeep (x : D) (ys : List D) : Option D := if eqOk x && eqOk (.lst ys) then some (.bl ((toPys ys).any fun z => PyData.eqv z (toPy x))) else none
def inDic (x : D) (t : Bool) (ks ws : List D) : Option D := if keyFits t x then some (.bl (lookD ks ws x).isSome) else none
def inStr (x : D) (z : Str) : Option D := match x with
  | .str c => if c.length = 1 then some (.bl (decide (c.cps.getD 0 0 ∈ z.cps.toList))) else none
  | _ => none
def gIn : D → D → Option D := fun x y => match y with
  | .lst ys => inDeep x ys
  | .tup ys => inFlat x ys
  | .ktp ys => inFlat x ys
  | .dic t ks ws => inDic x t ks ws
  | .str z => inStr x z
  | _ => none
def gNotIn : D → D → Option D := fun x y => match gIn x y with
  | some (.bl b) => some (.bl (!b))
  | _ => none
def rInDic : R2 := fun y x H Q => ∃ a o, x = .ref a ∧ DGet H a y o ∧ Q (.bl o.isSome) H
def rNotInDic : R2 := fun y x H Q => ∃ a o, x = .ref a ∧ DGet H a y o ∧ Q (.bl (!o.isSome)) H
theorem opr_inDic (hu : X.A.units + 1 < cLine) : OpR X (compareOp .In) rInDic := by
  intro pins s σ H y x iv u Q I ry rx h
  obtain ⟨a, ov, ex, g, q⟩ := h
  subst ex
  obtain rfl : u = Value.ref a := rx
  exact d_in hu I g ry fun s3 I3 => ⟨.bl ov.isSome, H, I3, rfl, q⟩
theorem opr_notInDic (hu : X.A.units + 1 < cLine) : OpR X (compareOp .NotIn) rNotInDic := by
  intro pins s σ H y x iv u Q I ry rx h
  obtain ⟨a, ov, ex, g, q⟩ := h
  subst ex
  obtain rfl : u = Value.ref a := rx
  exact d_notIn hu I g ry fun s3 I3 => ⟨.bl (!ov.isSome), H, I3, rfl, q⟩
def rInAll (K : PySem.W.Frag) : R2 := fun x y H Q => ((rInD K x y H Q ∨ rIn K false x y H Q) ∨ rInDic x y H Q) ∨ ∃ (c : Nat) (z : Str), x = .str ⟨#[c]⟩ ∧ y = .str z ∧ Q (.bl (decide (c ∈ z.cps.toList))) H
def rNotInAll (K : PySem.W.Frag) : R2 := fun x y H Q => ((rNotInD K x y H Q ∨ rIn K true x y H Q) ∨ rNotInDic x y H Q) ∨ ∃ (c : Nat) (z : Str), x = .str ⟨#[c]⟩ ∧ y = .str z ∧ Q (.bl (!decide (c ∈ z.cps.toList))) H
theorem opr_in (hu : X.A.units + 65 < cLine) : OpR X (compareOp .In) (rInAll X.K) := (((op_inD hu).or op_in_seq).or (opr_inDic (by omega))).or op_in_sign
theorem opr_notIn (hu : X.A.units + 65 < cLine) : OpR X (compareOp .NotIn) (rNotInAll X.K) := (((op_notInD hu).or op_notIn_seq).or (opr_notInDic (by omega))).or op_notIn_sign
theorem one_sign {c : Str} (h : c.length = 1) : c = ⟨#[c.cps.getD 0 0]⟩ := by
  obtain ⟨a⟩ := c
  have h : a.size = 1 := h
  congr 1
  apply Array.ext
  · rw [h]; rfl
  · intro i h1 h2
    have : i = 0 := by simp at h2; omega
    subst this
    simp [Array.getD, h]
/-- one reading for in and not in: n tells which -/
theorem in_reading {n : Bool} {K : PySem.W.Frag} {H : Hp} {A : Pred} {x y : V} {dx dy : D} {Q : VK} (rx : Rk false K H A x dx) (ry : Rk false K H A y dy) (p : GP K H A (match gIn dx dy with | some (.bl b) => some (.bl (if n then !b else b)) | _ => none) Q) :
    match n with
    | false => rInAll K x y H Q
    | true => rNotInAll K x y H Q := by
  have flat : ∀ {a vs ds}, (SqL K H a vs ∨ SqT K H a vs) → Rps K H A vs ds → y = .ref a → GP K H A (match inFlat dx ds with | some (.bl b) => some (.bl (if n then !b else b)) | _ => none) Q → rIn K n x y H Q := fun {a vs ds} h r ey p => by
    unfold inFlat at p
    by_cases hf : (flatD dx && ds.all flatD) = true
    · rw [if_pos hf] at p
      rw [Bool.and_eq_true] at hf
      obtain ⟨e1, f1⟩ := (Rk.free rx).flat hf.1
      obtain ⟨e2, f2⟩ := r.flat hf.2
      refine ⟨a, vs, ey, h, f1, f2, ?_⟩
      rw [e1, e2]
      exact gp_scalar p (Rp.bl.mpr rfl)
    · rw [if_neg hf] at p
      exact p.elim
  cases dy with
  | lst ys =>
    have p : GP K H A (match inDeep dx ys with | some (.bl b) => some (.bl (if n then !b else b)) | _ => none) Q := p
    unfold inDeep at p
    by_cases hz : (eqOk dx && eqOk (.lst ys)) = true
    · rw [if_pos hz] at p
      unfold eqOk at hz
      simp only [Bool.and_eq_true] at hz
      have dy' := dp_of _ y ry.free hz.2.1
      have dx' := dp_of _ x rx.free hz.1.1
      have sy := hz.2.2
      unfold toPy at dy' sy
      cases n with
      | false => exact .inl (.inl (.inl ⟨_, _, dx', dy', hz.1.2, sy, gp_scalar p (Rp.bl.mpr rfl)⟩))
      | true => exact .inl (.inl (.inl ⟨_, _, dx', dy', hz.1.2, sy, gp_scalar p (Rp.bl.mpr rfl)⟩))
    · rw [if_neg hz] at p
      exact p.elim
  | tup ys =>
    obtain ⟨a, vs, ey, h, r⟩ := ry.tup
    have q := flat (.inr (SqT.of h)) r ey p
    cases n with
    | false => exact .inl (.inl (.inr q))
    | true => exact .inl (.inl (.inr q))
  | ktp ys =>
    obtain ⟨a, vs, ey, h, r⟩ := ry.ktp
    have q := flat (.inr h) r ey p
    cases n with
    | false => exact .inl (.inl (.inr q))
    | true => exact .inl (.inl (.inr q))
  | dic t ks ws =>
    have p : GP K H A (match inDic dx t ks ws with | some (.bl b) => some (.bl (if n then !b else b)) | _ => none) Q := p
    unfold inDic at p
    by_cases hf : keyFits t dx = true
    · rw [if_pos hf] at p
      obtain ⟨a, vs, ey, h, r⟩ := ry.dic
      obtain ⟨o, g, q⟩ := h.dget r rx hf
      have eo : o.isSome = (lookD ks ws dx).isSome := by
        cases e : lookD ks ws dx with
        | none => rw [e] at q; rw [q]; rfl
        | some w => rw [e] at q; obtain ⟨v, rfl, _⟩ := q; rfl
      have p : GP K H A (some (.bl (if n then !(lookD ks ws dx).isSome else (lookD ks ws dx).isSome))) Q := p
      rw [← eo] at p
      cases n with
      | false => exact .inl (.inr ⟨a, o, ey, g, gp_scalar p (Rp.bl.mpr rfl)⟩)
      | true => exact .inl (.inr ⟨a, o, ey, g, gp_scalar p (Rp.bl.mpr rfl)⟩)
    · rw [if_neg hf] at p
      exact p.elim
  | str z =>
    have p : GP K H A (match inStr dx z with | some (.bl b) => some (.bl (if n then !b else b)) | _ => none) Q := p
    cases dx with
    | str c =>
      simp only [inStr] at p
      by_cases hc : c.length = 1
      · rw [if_pos hc] at p
        cases n with
        | false => exact .inr ⟨_, z, by rw [rx.str]; congr 1; exact one_sign hc, ry.str, gp_scalar p (Rp.bl.mpr rfl)⟩
        | true => exact .inr ⟨_, z, by rw [rx.str]; congr 1; exact one_sign hc, ry.str, gp_scalar p (Rp.bl.mpr rfl)⟩
      · rw [if_neg hc] at p
        exact p.elim
    | _ => exact p.elim
  | _ => exact p.elim
theorem gIn_bl {x y d : D} (h : gIn x y = some d) : ∃ b, d = .bl b := by
  unfold gIn at h
  split at h
  · unfold inDeep at h; split at h <;> cases h; exact ⟨_, rfl⟩
  · unfold inFlat at h; split at h <;> cases h; exact ⟨_, rfl⟩
  · unfold inFlat at h; split at h <;> cases h; exact ⟨_, rfl⟩
  · unfold inDic at h; split at h <;> cases h; exact ⟨_, rfl⟩
  · unfold inStr at h
    split at h
    · split at h <;> cases h; exact ⟨_, rfl⟩
    · cases h
  · cases h
theorem op_gIn : Op2 X (rInAll X.K) gIn := by
  intro H A x y dx dy Q _ rx ry p
  refine in_reading (n := false) rx ry ?_
  cases e : gIn dx dy with
  | none => rw [e] at p; exact p
  | some d =>
    obtain ⟨b, rfl⟩ := gIn_bl e
    rw [e] at p
    exact p
theorem op_gNotIn : Op2 X (rNotInAll X.K) gNotIn := by
  intro H A x y dx dy Q _ rx ry p
  refine in_reading (n := true) rx ry ?_
  unfold gNotIn at p
  cases e : gIn dx dy with
  | none => rw [e] at p; exact p
  | some d =>
    obtain ⟨b, rfl⟩ := gIn_bl e
    rw [e] at p
    exact p
theorem sc_gIn : Scalar2 gIn := fun x y d h => by obtain ⟨b, rfl⟩ := gIn_bl h; rfl
theorem sc_gNotIn : Scalar2 gNotIn := fun x y d h => by
  unfold gNotIn at h
  split at h <;> cases h
  rfl

/-! ### isinstance(x, T) -/
def tyName : D → String
  | .non => "NoneType"
  | .bl _ => "bool"
  | .int _ => "int"
  | .str _ => "str"
  | .tup _ => "tuple"
  | .ktp _ => "tuple"
  | .lst _ => "list"
  | .frl _ => "list"
  | .dic _ _ _ => "dict"
inductive TyN where
  | list | tuple | bool | int
def TyN.nm : TyN → String
  | .list => "list"
  | .tuple => "tuple"
  | .bool => "bool"
  | .int => "int"
def isTy (t : TyN) (d : D) : Bool := match t, d with
  | .list, .lst _ => true
  | .list, .frl _ => true
  | .tuple, .tup _ => true
  | .tuple, .ktp _ => true
  | .bool, .bl _ => true
  | .int, .bl _ => true
  | .int, .int _ => true
  | _, _ => false
def noDict : D → Bool
  | .dic _ _ _ => false
  | _ => true
theorem tyx_of {K : PySem.W.Frag} {H : Hp} {A : Pred} {v : V} {d : D} (r : Rk false K H A v d) (n : noDict d = true) : TyX K H v (.type (tyName d)) := by
  cases d with
  | non => rw [r.non]; exact .base .non
  | bl b => rw [r.bl]; exact .base (.bl b)
  | int b => rw [r.int]; exact .base (.int b)
  | str b => rw [r.str]; exact .base (.str b)
  | tup ds => obtain ⟨a, vs, rfl, h, _⟩ := r.tup; exact .base (.tup h)
  | lst ds => obtain ⟨a, vs, rfl, h, _⟩ := r.lst; exact .base (.lst h)
  | frl ds =>
    obtain ⟨a, vs, rfl, h, _⟩ := r.frl
    rcases h with ⟨o, h⟩ | ⟨o, its, n, h, hc, _⟩
    · exact .base (.frz h)
    · exact .kList h hc
  | ktp ds =>
    obtain ⟨a, vs, rfl, h, _⟩ := r.ktp
    rcases h with (h | ⟨o, h⟩) | ⟨o, its, n, h, hc, _⟩
    · exact .base (.tup h)
    · exact .fTuple h
    · exact .kTuple h hc
  | dic t ks ws => cases n
theorem kit_is (K : PySem.W.Frag) (t : TyN) (d : D) (n : noDict d = true) : PySem.W.kitOne K (.type (tyName d)) (.type t.nm) = some (isTy t d) := by
  refine kit_ty ?_
  cases d <;> (try cases n) <;> cases t <;> simp only [tyName, TyN.nm, isTy] <;> decide +kernel
def gIsT (t : TyN) : D → Option D := fun d => if noDict d then some (.bl (isTy t d)) else none
def dIsT (t : TyN) (f : DX) : DX := fun env => (f env).bind fun d => .ofO (gIsT t d)
theorem ve_isinst {t : TyN} {p p2 : Pos} (hb : BltAt X "isinstance" (.builtin "isinstance")) (ht : BltAt X (Str.ofString t.nm) (.type t.nm)) (he : VE X W md st nw e f) (hs : starless e = true) :
    VE X W md true true (.Call (.Name "isinstance" p) [e, .Name (Str.ofString t.nm) p2] [] pos) (dIsT t f) := by
  have h2 : PE X (.Name (Str.ofString t.nm) p2) (tC (.ty t.nm)) := pe_bltn ht.gl ht.mg ht.bt rfl ht.nm ht.db
  refine ⟨(pe_callB call_isi hb.gl hb.mg hb.bt (pa_cons he.run (pa_cons h2 pa_nil (notStar rfl)) (notStar hs)) hb.nm hb.db (notStar hs) (backTo_any rfl)).imp fun σ H Q ⟨T, H0, B, env, R, q⟩ => ⟨T, H0, B, env, R, q.bind.mono fun d v H1 s1 _ q1 r => ?_⟩⟩
  unfold gIsT at q1
  by_cases n : noDict d = true
  · rw [if_pos n] at q1
    exact ⟨v, _, _, _, isTy t d, rfl, .ty t.nm, tyx_of r.loose n, kit_is X.K t d n, q1 _ H1 (Same.refl _) (.of (Rp.bl.mpr rfl))⟩
  · rw [if_neg n] at q1
    exact q1.elim

/-! ### list(x), tuple(x) -/
def gList : D → Option (List D)
  | .lst ds => some ds
  | .tup ds => some ds
  | .frl ds => some ds
  | .ktp ds => some ds
  | .dic true ks _ => some ks
  | _ => none
def dListOf (fs : DXs) : DX := fun env => (fs env).bind fun ds => match ds with
  | [d] => match gList d with
    | some xs => .ok (.lst xs)
    | none => .bad
  | _ => .bad
def rListAll (K : PySem.W.Frag) : List V → Hp → VK → Prop := fun xs H Q => ((∃ p ys, xs = [.ref p] ∧ (SqL K H p ys ∨ SqT K H p ys) ∧ ∀ l, H l = none → Q (.ref l) (upd H l (.lst ys))) ∨ rListD xs H Q) ∨
  ∃ d kvs, xs = [V.ref d] ∧ Rd H d (.dT kvs) ∧ ∀ p bs, H p = none → IsKeys H kvs bs → Q (.ref p) (upd H p (.lst (bs.map V.ref)))
theorem cr_listAll (hc : X.calm = true) : CallR X (.type "list") (rListAll X.K) := (call_list_of.or (call_list_dK hc)).or (call_list_dT hc)
theorem keys_rp {K : PySem.W.Frag} {H : Hp} {A : Pred} : ∀ ks : List Key, Rps K H A (ks.map kV) (ks.map keyD)
  | [] => .nil
  | k :: ks => .cons (by cases k with
    | inl i => exact Rp.int.mpr rfl
    | inr x => exact Rp.str.mpr rfl) (keys_rp ks)
theorem isKeys_rp {K : PySem.W.Frag} {H : Hp} {A : Pred} : ∀ {kvs : List (List Key × V)} {bs : List Addr}, IsKeys H kvs bs → Rps K H A (bs.map V.ref) (kvs.map fun p => D.tup (p.1.map keyD))
  | [], _, .nil => .nil
  | p :: r, b :: bs, .cons h t => .cons (Rp.tup.mpr ⟨b, _, rfl, h, keys_rp p.1⟩) (isKeys_rp t)
theorem vf_list {p : Pos} (hc : X.calm = true) (hb : BltAt X "list" (.type "list")) (ha : VA X W md st nw (e :: es) fs) (hs : (e :: es).all starless = true) : VF X W md nw (.Call (.Name "list" p) (e :: es) [] pos) (dListOf fs) := by
  rw [List.all_cons, Bool.and_eq_true] at hs
  refine ⟨(pe_callTy (cr_listAll hc) hb.gl hb.mg hb.bt ha.run hb.nm hb.db (notStar hs.1) (backTo_any hs.2)).imp fun σ H Q ⟨T, H0, B, env, R, q⟩ => ⟨T, H0, B, env, R, q.bind.mono fun ds xs H1 s1 _ q1 r => ?_⟩⟩
  have fin : ∀ {vs : List V} {xs : List D} {l : Addr}, EP0 X.K X.mg W σ H1 (RG.ok (D.lst xs)) (fun d v H' => (∃ p, v = V.ref p ∧ H p = none ∧ Top X.K H' (fun a => Avd md σ env T H0 nw a ∨ a = p) p d) → Q v H') → Rps X.K H1 (Avd md σ env T H0 nw) vs xs → H1 l = none → Q (.ref l) (upd H1 l (.lst vs)) :=
    fun {vs xs l} q1 r nl => q1 _ _ (same_new nl) ⟨l, rfl, Same.free s1 nl, vs, upd_same, r.new nl⟩
  match ds, r, q1 with
  | [d], r, q1 =>
    obtain ⟨v, rfl, rd⟩ := r.one
    cases d with
    | lst ds => obtain ⟨a, vs, rfl, h, t⟩ := rd.lst; exact .inl (.inl ⟨a, vs, rfl, .inl (SqL.of h), fun l nl => fin q1 t nl⟩)
    | frl ds => obtain ⟨a, vs, rfl, h, t⟩ := rd.frl; exact .inl (.inl ⟨a, vs, rfl, .inl h.sq, fun l nl => fin q1 t nl⟩)
    | tup ds => obtain ⟨a, vs, rfl, h, t⟩ := rd.tup; exact .inl (.inl ⟨a, vs, rfl, .inr (SqT.of h), fun l nl => fin q1 t nl⟩)
    | ktp ds => obtain ⟨a, vs, rfl, h, t⟩ := rd.ktp; exact .inl (.inl ⟨a, vs, rfl, .inr h, fun l nl => fin q1 t nl⟩)
    | dic t ks ws =>
      obtain ⟨a, vs, rfl, h, t'⟩ := rd.dic
      cases t with
      | true =>
        obtain ⟨kvs, e, e1, _⟩ := h
        subst e1
        exact .inr ⟨a, kvs, rfl, e, fun l bs nl hk => fin q1 (isKeys_rp hk) nl⟩
      | false => exact q1.elim
    | _ => exact q1.elim
  | [], r, q1 => exact q1.elim
  | _ :: _ :: _, r, q1 => exact q1.elim
def gTuple : List D → Option D
  | [.lst ds] => some (.tup ds)
  | [.tup ds] => some (.tup ds)
  | [.frl ds] => some (.tup ds)
  | _ => none
theorem cd_tuple : CallD X (fun xs H Q => ∃ p ys, xs = [.ref p] ∧ ((SqL X.K H p ys ∧ ∀ l, H l = none → Q (.ref l) (upd H l (.tup ys))) ∨ (SqT X.K H p ys ∧ Q (.ref p) H))) gTuple := by
  intro H A xs ds Q hA r p
  unfold gTuple at p
  split at p
  · obtain ⟨v, rfl, q⟩ := r.one
    obtain ⟨a, vs, rfl, h, t⟩ := q.lst
    exact ⟨a, vs, rfl, .inl ⟨SqL.of h, fun l nl => p _ _ (same_new nl) (Rp.tup.mpr ⟨l, vs, rfl, upd_same, t.same (same_new nl)⟩)⟩⟩
  · obtain ⟨v, rfl, q⟩ := r.one
    obtain ⟨a, vs, rfl, h, t⟩ := q.tup
    exact ⟨a, vs, rfl, .inr ⟨SqT.of h, gp_scalar p (Rp.tup.mpr ⟨a, vs, rfl, h, t⟩)⟩⟩
  · obtain ⟨v, rfl, q⟩ := r.one
    obtain ⟨a, vs, rfl, h, t⟩ := q.frl
    exact ⟨a, vs, rfl, .inl ⟨h.sq, fun l nl => p _ _ (same_new nl) (Rp.tup.mpr ⟨l, vs, rfl, upd_same, t.same (same_new nl)⟩)⟩⟩
  · exact p.elim

/-! ### constants of the module -/
structure ConAt (X : Cx) (x : Str) (d : D) : Prop where
  ex : ∃ v u, X.mg x = some u ∧ RelV v u ∧ ∀ H A, Rp X.K H A v d
theorem ve_con {x : Str} {d : D} (h : ConAt X x d) (hg : Gl X x) (hd : (x == ("__debug__" : Str)) = false) : VE X W md true true (.Name x pos) (dC d) := by
  obtain ⟨v, u, hm, r, q⟩ := h.ex
  exact ⟨(pe_glob hg hm r hd).imp fun σ H Q ⟨T, H0, B, env, R, p⟩ => p v H (Same.refl _) (.of (q _ _))⟩
end
end Dl

/-! Dl5b: for i, x in enumerate(a tuple). -/
namespace PySem
open Sem (wp)
open AutoSeq1 (wpAny_loadPart')
theorem meets_enum_newB1 {v : Value} {o : Obj} {H : Heap → Prop} (B : Begins v o H) :
    Meets (Builtin.«enumerate.__new__» ⟨[.type "enumerate", v], []⟩) (fun _ R s => H s.heap ∧
      R (.ok (.ret (.ref (s.heap.push o).objs.size))) { s with heap := (s.heap.push o).push { cls := .type "enumerate", data := .fields #[.none, .bool false, .ref s.heap.objs.size, rawInt 0, .none, .none] } }) :=
  .of_wp fun prog w A R s h => by
    obtain ⟨hp, g, d, tk, os⟩ := s; obtain ⟨h1, h⟩ := h
    have hsub := sub_enumerate
    have q1 : ∀ {A' : Around} {E : Value → Shared → Prop} {Q : Value → Shared → Prop}, Q (.ref hp.objs.size) ⟨hp.push o, g, d, tk, os⟩ → wpAny (model prog w) A' (pyIter v) Q E ⟨hp, g, d, tk, os⟩ :=
      fun q => B.iter prog w _ _ ⟨hp, g, d, tk, os⟩ _ h1 q
    wp_walk using q1
    refine wpAny_stack_any fun st => wpAny_pure ?_
    split
    · rename_i c _ _ _ _ _
      cases (c == Value.type "enumerate")
      · wp_walk using q1
        exact ⟨_, rfl, h⟩
      · wp_walk using q1
        exact ⟨_, rfl, h⟩
    · wp_walk using q1
      exact ⟨_, rfl, h⟩
theorem enum_begins1 {prog : Program} {w : World} {A : Around} {E : Value → Shared → Prop} {s : Shared} {v : Value} {o : Obj} {H : Heap → Prop} {Q : Value → Shared → Prop} (B : Begins v o H) (h1 : H s.heap)
    (h : ∀ h', IsEnum h' (s.heap.objs.size + 1) s.heap.objs.size 0 .none → h'.get? s.heap.objs.size = some o → h'.objs.size = s.heap.objs.size + 2 →
      (∀ b o, s.heap.get? b = some o → h'.get? b = some o) → Q (.ref (s.heap.objs.size + 1)) { s with heap := h' }) :
    wpAny (model prog w) A (call (.type "enumerate") [v]) Q E s := by
  refine callType_new F.called_enumerate (by decide) (F.typeCall_enumerate_1 _) (F.newCall_enumerate_1 _) (fun obj => F.args_object_init_2 obj _) F.entry_enumerate_new
    (meets_enum_newB1 B) ⟨h1, ?_⟩
  have hz : (s.heap.push o).objs.size = s.heap.objs.size + 1 := Heap.size_push ..
  show _ ∧ _
  rw [hz]
  have he : IsEnum ((s.heap.push o).push { cls := .type "enumerate", data := .fields #[.none, .bool false, .ref s.heap.objs.size, rawInt 0, .none, .none] }) (s.heap.objs.size + 1) s.heap.objs.size 0 .none := by
    have := Heap.get?_push_size (s.heap.push o) (o := { cls := .type "enumerate", data := .fields #[.none, .bool false, .ref s.heap.objs.size, rawInt 0, .none, .none] }) rfl
    rw [hz] at this; exact this
  refine ⟨⟨_, he, rfl⟩, h _ he (Heap.get?_push_of_some _ (Heap.get?_push_size _ B.free)) (by rw [Heap.size_push, hz]) fun b o x => Heap.get?_push_of_some _ (Heap.get?_push_of_some _ x)⟩
theorem wpAny_pyNext_enum_endT {prog : Program} {w : World} {A : Around} {E : Value → Shared → Prop} {s : Shared} {e it l : Addr} {i : Nat} {items : Array Value} {old : Value} {Q : Option Value → Shared → Prop} (hh : A.handled = none)
    (he : IsEnum s.heap e it i old) (hit : s.heap.IsTupleIter it l i) (hl : s.heap.IsTuple l items) (hx : items[i]? = none)
    (hQ : ∀ h', Heap.ExtBut it s.heap h' → Q none { s with heap := h' }) : wpAny (model prog w) A (pyNext (.ref e)) Q E s := by
  have hT : s.TypeIs (.ref e) "enumerate" := ⟨_, he, rfl⟩
  unfold pyNext
  refine wpAny_bind (wpAny_attempt (wpAny_callSpecial?_slot (name := Str.ofString "__next__") hT F.slot_enumerate_next
    (wpAny_call_entry F.slot_enumerate_next hT F.entry_enumerate_next ?_ (F.args_enumerate_next_1 _))))
  show wpAny _ _ (field (.ref e) 2 >>= _) _ _ _
  refine wpAny_bind (wpAny_field he rfl (x := .ref it) rfl ?_)
  refine wpAny_bind (wpAny_nextOf_tuple_end hh hit hl hx fun h' x he' hx' => ?_)
  obtain ⟨o, ho, hc⟩ := hx'
  refine wpAny_bind (wpAny_isInstance (T := "StopIteration") (b := true) ⟨o, ho, hc⟩ isSubtype_stop ?_)
  exact wpAny_pure (hQ _ he')
end PySem
namespace L2
open PySem PySem.Spec PyProof.Rows
/-- the tuple at a, each item in a new pair -/
def IteT (K : PySem.W.Frag) (a : Addr) : It :=
  ⟨fun i H => ∃ (xs : List V) (x : V), SqT K H a xs ∧ xs[i]? = some x, fun i H v H' => ∃ T x, v = .ref T ∧ H T = none ∧ H' = upd H T (.tup [.int (i : Nat), x]) ∧ ∀ xs, SqT K H a xs → xs[i]? = some x, fun i H => ∃ xs : List V, SqT K H a xs ∧ xs.length ≤ i⟩
theorem turn_enumT {P : Program} {w : World} {K : PySem.W.Frag} {elts : List Expr} {kk : Nat} {tpos : Pos} (a e it : Addr) (hai : a ≠ it) :
    Turn P w K (.Tuple elts kk tpos) (IteT K a) [e, it] e (fun i h => (∃ old, IsEnum h e it ((i : Nat) : Int) old) ∧ h.IsTupleIter it a i ∧ e ≠ it) where
  mem := by simp
  obj := fun i h st b hb => by
    obtain ⟨⟨old, he⟩, ⟨o, ho, hc, hd⟩, _⟩ := st
    have e' : b = e ∨ b = it := by simpa using hb
    rcases e' with z | z
    · rw [z]; exact ⟨_, he, fun v q => nomatch q⟩
    · rw [z]; exact ⟨o, ho, fun v q => by rw [hd] at q; cases q⟩
  keep := fun i h h' st k => let ⟨⟨old, he⟩, hi, hne⟩ := st; ⟨⟨old, k e (by simp) _ he⟩, hi.at fun o q => k it (by simp) o q, hne⟩
  item := by
    intro X hP hw hK hc i pins s σ H E I hf st hg
    subst hP hw hK
    obtain ⟨⟨old, he⟩, hit, hne⟩ := st
    obtain ⟨xs, x, hq, hx⟩ := hg
    obtain ⟨its, rv, p, hz⟩ := I.tuple hq
    obtain ⟨u, hu, ru⟩ := rv.get hx
    have hel : e < s.heap.objs.size := Heap.lt_size he
    have hil : it < s.heap.objs.size := by obtain ⟨_, q, _⟩ := hit; exact Heap.lt_size q
    have pt : s.heap.IsTuple a its.toArray := p
    have hea : e ≠ a := fun z => by
      obtain ⟨o, q, hc, _⟩ := pt
      rw [← z] at q
      have q2 := he.symm.trans q
      have e3 := congrArg Obj.cls (Option.some.inj q2)
      rw [hc] at e3
      exact absurd (Value.type.inj e3) (by decide)
    have hil2 : i < its.toArray.size := by
      have := (List.getElem?_eq_some_iff.mp hu).1
      simpa using this
    refine PySem.wpAny_pyNext_enum_itemD (PySem.Draws.tuple (A := X.A.in1) (I.ok.hd hc) it a hai its.toArray) he ⟨hit, pt⟩ hil2 hne (by simp [hne, hea]) fun y h' tk hy ho st' hT hsz hk => ?_
    have ey : y = u := by
      rw [show its.toArray[i]? = some u by simpa using hu] at hy
      cases hy
      rfl
    subst ey
    obtain ⟨hit', _⟩ := st'
    refine ⟨_, rfl, wpAny_letOwnedTupleGo_enum (s := { s with heap := h', toks := tk + 1 }) ho fun h'' he' sb => ?_⟩
    have hT2 : h''.get? s.heap.objs.size = some { cls := .type "tuple", data := .seq #[.int i tk, y] } := (sb.2 _ (Nat.ne_of_gt hel)).trans hT
    have new : ObjOk X.prog X.w (upd H s.heap.objs.size (.tup [.int (i : Nat), x])) h'' s.heap.objs.size (.tup [.int (i : Nat), x]) :=
      ⟨by show 2 ≤ sizeLine; decide, [.int i tk, y], .cons ⟨_, rfl⟩ (.cons ru .nil), ⟨_, hT2, rfl, _, rfl⟩⟩
    have I1 : Inv X pins σ (upd H s.heap.objs.size (.tup [.int (i : Nat), x])) { s with heap := h'', toks := tk + 1 } :=
      I.turnedNew (ch := [e, it]) (fun b ob hb q => (sb.2 b (fun z => hb (by simp [z]))).trans (hk b ob (fun z => hb (by simp [z])) (fun z => hb (by simp [z])) q)) hf (Nat.le_refl _) new
    refine ⟨.ref s.heap.objs.size, _, I1, rfl, ⟨_, x, rfl, I.hok.fresh (Nat.le_refl _), rfl, fun ys hy => by rw [I.tuple_inj hy hq]; exact hx⟩, ⟨⟨y, ?_⟩, hit'.at fun o q => (sb.2 it (Ne.symm hne)).trans q, hne⟩, fun b hb => ?_⟩
    · have e1 : ((i + 1 : Nat) : Int) = (i : Int) + 1 := by omega
      rw [e1]; exact he'
    · have hb' : b < s.heap.objs.size := by
        have e' : b = e ∨ b = it := by simpa using hb
        rcases e' with z | z
        · rw [z]; exact hel
        · rw [z]; exact hil
      rw [upd_ne (Nat.ne_of_lt hb')]
      exact (hf b hb).1
  done := by
    intro X hP hw hK hc i pins s σ H E I hf st hg
    subst hP hw hK
    obtain ⟨⟨old, he⟩, hit, hne⟩ := st
    obtain ⟨xs, hq, hx⟩ := hg
    obtain ⟨its, rv, p, hz⟩ := I.tuple hq
    obtain ⟨f0, f1, f2, f3, f4, f5⟩ := hf it (by simp)
    have hl := rv.length
    have pt : s.heap.IsTuple a its.toArray := p
    exact PySem.wpAny_pyNext_enum_endT (I.ok.hd hc) he hit pt (by simp; omega) fun h' eb => ⟨rfl, I.turned (t' := s.toks) (fun b o hb q => eb b o hb q) f0 f1 f3 f4 f5⟩
  self := fun A i s Q E st h => let ⟨⟨_, he⟩, _⟩ := st; wpAny_pyIter_enum he h
def iEnumA (K : PySem.W.Frag) (ta : TA) : TI := fun σ H R => ta σ H fun vs H1 => ∃ a xs, vs = [.ref a] ∧ ((SqL K H1 a xs ∧ R (Ite K a) H1) ∨ (SqT K H1 a xs ∧ R (IteT K a) H1))
theorem pi_enumA {X : Cx} {e : Expr} {ta : TA} {p pos tpos : Pos} {elts : List Expr} {kk : Nat} (hg : Gl X "enumerate") (hm : X.mg "enumerate" = none) (ha : PA X [e] ta) (hs : starEach [e] X.env = [(false, eval e X.env)] := by rfl) :
    PI X (.Tuple elts kk tpos) (.Call (.Name "enumerate" p) [e] [] pos) (iEnumA X.K ta) := by
  refine ⟨fun pins s σ H R I h => ?_⟩
  refine Call_ (ld_blt I hg hm boot_enumerate (PyProof.Rows.callWith_type1 (thn (ha.run pos pins s σ H _ I h) fun us s1 ⟨vs, H1, I1, r1, q1⟩ => ?_) hs rfl))
  obtain ⟨a, xs, ex, q⟩ := q1
  subst ex
  cases r1 with
  | cons r rr =>
    cases rr
    cases r
    have fpk : ∀ {h' : Heap}, (∀ b o, s1.heap.get? b = some o → h'.get? b = some o) → Inv X pins σ H1 { s1 with heap := h' } := fun hk => I1.kept (t' := s1.toks) hk
    have fp : ∀ b, b ∈ [s1.heap.objs.size + 1, s1.heap.objs.size] → s1.heap.objs.size ≤ b := fun b hb => by
      have e' : b = s1.heap.objs.size + 1 ∨ b = s1.heap.objs.size := by simpa using hb
      rcases e' with z | z
      · rw [z]; exact Nat.le_add_right _ _
      · rw [z]; exact Nat.le_refl _
    rcases q with ⟨hq, q⟩ | ⟨hq, q⟩
    · obtain ⟨its, rv, p', hz⟩ := I1.list hq
      refine call_enumerate_list p'.isList fun h' he hit hsz hk => wpAny_pyIter_enum he ?_
      exact ⟨s1.heap.objs.size + 1, [s1.heap.objs.size + 1, s1.heap.objs.size], _, _, H1, rfl, fpk hk, turn_enum a (s1.heap.objs.size + 1) s1.heap.objs.size, ⟨⟨.none, he⟩, hit, Nat.succ_ne_self _⟩, fun b hb => I1.fpOk (fp b hb) (I1.hok.fresh (fp b hb)), q⟩
    · obtain ⟨its, rv, p', hz⟩ := I1.tuple hq
      have pt : s1.heap.IsTuple a its.toArray := p'
      have hlt : a < s1.heap.objs.size := by obtain ⟨o, q, _⟩ := pt; exact Heap.lt_size q
      refine PySem.enum_begins1 (PySem.begins_tuple a its.toArray) pt fun h' he hit hsz hk => wpAny_pyIter_enum he ?_
      exact ⟨s1.heap.objs.size + 1, [s1.heap.objs.size + 1, s1.heap.objs.size], _, _, H1, rfl, fpk hk, turn_enumT a (s1.heap.objs.size + 1) s1.heap.objs.size (Nat.ne_of_lt hlt), ⟨⟨.none, he⟩, ⟨_, hit, rfl, rfl⟩, Nat.succ_ne_self _⟩, fun b hb => I1.fpOk (fp b hb) (I1.hok.fresh (fp b hb)), q⟩
theorem walk_enumT {K : PySem.W.Frag} {a : Addr} {xs : List V} : Walk (IteT K a) xs.length (fun H => SqT K H a xs) (YPair (fun i => some (.int (i : Nat))) (fun i => xs[i]?)) := by
  refine ⟨fun i _ hi q => ⟨xs, xs[i], q, by simp [hi]⟩, fun _ q => ⟨xs, q, Nat.le_refl _⟩, fun i H v H' _ q y => ?_⟩
  obtain ⟨T, x, h1, h2, h3, h4⟩ := y
  exact ⟨T, .int (i : Nat), x, h1, h2, h3, rfl, h4 xs q⟩
end L2

/-! Dl6: what is walked; targets; list comprehensions. -/
namespace Dl
open PySem PySem.Spec PyProof.Rows L2 RZ RT

def Stay (O : Pred) (H H' : Hp) : Prop := ∀ a o, ¬ O a → H a = some o → H' a = some o
theorem Stay.of {O : Pred} {H H' : Hp} (s : Same H H') : Stay O H H' := fun a o _ e => s a o e
def OwnP (md : Mds) (σ : L2.St) (env : DEnv) : Pred := fun a => ∃ i, OwnAt md σ env i a
/-- what the frame may write -/
def WrP (md : Mds) (σ : L2.St) (env : DEnv) (T : Pred) (B : Hp) : Pred := fun a => OwnP md σ env a ∨ (T a ∧ B a = none)
theorem Carry.trans {K : PySem.W.Frag} {H H' H2 : Hp} {A A' A2 : Pred} (c : Carry K H H' A A') (c' : Carry K H' H2 A' A2) : Carry K H H2 A A2 :=
  ⟨fun a xs e => c'.tup a xs (c.tup a xs e), fun a xs e => c'.ktp a xs (c.ktp a xs e), fun a xs e => c'.frl a xs (c.frl a xs e), fun a xs n e => let ⟨n', e'⟩ := c.lst a xs n e; c'.lst a xs n' e', fun a u n e => let ⟨n', e'⟩ := c.obj a u n e; c'.obj a u n' e'⟩
section
variable {K : PySem.W.Frag} {md : Mds} {T : Pred} {H0 B H H' H1 : Hp} {σ : L2.St} {env : DEnv}
theorem Top.isMut {A : Pred} {a : Addr} {d : D} (h : Top K H A a d) : ∃ u, H a = some u ∧ isMutO u = true := by
  cases d with
  | lst ds => obtain ⟨vs, e, _⟩ := h; exact ⟨_, e, rfl⟩
  | dic t ks ws =>
    obtain ⟨vs, e, _⟩ := h
    cases t with
    | false => obtain ⟨kvs, e, _⟩ := e; exact ⟨_, e, rfl⟩
    | true => obtain ⟨kvs, e, _⟩ := e; exact ⟨_, e, rfl⟩
  | non => exact h.elim
  | bl _ => exact h.elim
  | int _ => exact h.elim
  | str _ => exact h.elim
  | tup _ => exact h.elim
  | frl _ => exact h.elim
  | ktp _ => exact h.elim
theorem Rel.ownMut (R : Rel K md T H0 B H σ env) {a : Addr} (o : OwnP md σ env a) : ∃ u, H a = some u ∧ isMutO u = true := by
  obtain ⟨i, h1, ⟨d, h2, hl⟩, h3⟩ := o
  obtain ⟨a', e, _, t⟩ := R.owned h2 h1 hl
  rw [h3] at e
  cases e
  exact t.isMut
theorem Rel.wrMut (R : Rel K md T H0 B H σ env) {a : Addr} (o : WrP md σ env T B a) : ∃ u, H a = some u ∧ isMutO u = true := by
  rcases o with o | ⟨h, n⟩
  · exact R.ownMut o
  · refine R.tM a h ?_
    cases e : H0 a with
    | none => rfl
    | some u =>
      obtain ⟨w, e⟩ := R.s0 _ _ e
      rw [n] at e
      cases e
theorem WrP.avd {a : Addr} {nw : Bool} (o : WrP md σ env T B a) : Avd md σ env T H0 nw a := o.elim .inl fun h => .inr (.inl h.1)
/-- values beyond the own things stay -/
theorem Carry.stay {O A : Pred} (hO : ∀ a, O a → ∃ u, H a = some u ∧ isMutO u = true) (hA : ∀ a, O a → A a) (s : Stay O H H') : Carry K H H' A A := by
  have ne : ∀ a u, H a = some u → isMutO u = false → ¬ O a := fun a u e m z => by
    obtain ⟨u', e', m'⟩ := hO a z
    rw [e] at e'
    cases e'
    rw [m] at m'
    cases m'
  refine ⟨fun a xs e => s a _ (ne a _ e rfl) e, fun a xs e => ?_, fun a xs e => ?_, fun a xs n e => ⟨n, s a _ (fun z => n (hA a z)) e⟩, fun a u n e => ⟨n, ?_⟩⟩
  · rcases e with (e | ⟨o, e⟩) | e
    · exact .inl (.inl (s a _ (ne a _ e rfl) e))
    · exact .inl (.inr ⟨o, s a _ (ne a _ e rfl) e⟩)
    · exact .inr e
  · rcases e with ⟨o, e⟩ | e
    · exact .inl ⟨o, s a _ (ne a _ e rfl) e⟩
    · exact .inr e
  · rcases e with e | ⟨o, e⟩
    · exact .inl (s a _ (fun z => n (hA a z)) e)
    · exact .inr ⟨o, s a _ (ne a _ e rfl) e⟩

/-! ### slots changed -/
theorem ownAt_set {i : Nat} {x : Option V} {y : Option D} (ho : (mdAt md i).own = false) {j : Nat} {a : Addr} : OwnAt md (σ.set i x) (env.set i y) j a ↔ OwnAt md σ env j a := by
  unfold OwnAt
  by_cases h : j = i
  · subst h
    rw [ho]
    exact ⟨fun z => (Bool.false_ne_true z.1).elim, fun z => (Bool.false_ne_true z.1).elim⟩
  · rw [List.getElem?_set_ne (Ne.symm h), List.getElem?_set_ne (Ne.symm h)]
theorem avd_set {i : Nat} {x : Option V} {y : Option D} (ho : (mdAt md i).own = false) {nw : Bool} : Avd md (σ.set i x) (env.set i y) T H0 nw = Avd md σ env T H0 nw := by
  funext a
  unfold Avd
  simp only [ownAt_set ho]
theorem Rel.setShared (R : Rel K md T H0 B H σ env) {i : Nat} {v : V} {d : D} (ho : (mdAt md i).own = false) (hp : (mdAt md i).dp = 0) (q : Rp K H (Avd md σ env T H0 (mdAt md i).nw) v d) : Rel K md T H0 B H (σ.set i (some v)) (env.set i (some d)) := by
  refine ⟨R.s0, R.sB, R.tB, by simp [R.len], fun j d' e hd => ?_, fun j a o => R.out j a ((ownAt_set ho).mp o), fun j k a o o' => R.sep j k a ((ownAt_set ho).mp o) ((ownAt_set ho).mp o'), fun j a o => R.tO j a ((ownAt_set ho).mp o), R.st, R.tM, fun j d' e hd => by
    have hj : j ≠ i := fun z => by subst z; exact hd hp
    rw [List.getElem?_set_ne (Ne.symm hj)] at e
    rw [List.getElem?_set_ne (Ne.symm hj)]
    exact R.deep j d' e hd⟩
  rw [avd_set ho]
  by_cases h : j = i
  · subst h
    by_cases hl : j < env.length
    · rw [List.getElem?_set_self hl] at e
      cases e
      refine ⟨v, List.getElem?_set_self (by rw [R.len]; exact hl), ?_⟩
      unfold SlotOk
      rw [if_neg (by rw [ho]; exact Bool.false_ne_true)]
      exact q
    · rw [List.getElem?_eq_none (by simpa using hl)] at e
      cases e
  · rw [List.getElem?_set_ne (Ne.symm h)] at e
    rw [List.getElem?_set_ne (Ne.symm h)]
    exact R.slot j d' e hd
/-- a slot that is not owned forgotten -/
theorem Rel.kill (R : Rel K md T H0 B H σ env) {i : Nat} {x : Option V} (ho : (mdAt md i).own = false) : Rel K md T H0 B H (σ.set i x) (env.set i none) := by
  refine ⟨R.s0, R.sB, R.tB, by simp [R.len], fun j d' e hd => ?_, fun j a o => R.out j a ((ownAt_set ho).mp o), fun j k a o o' => R.sep j k a ((ownAt_set ho).mp o) ((ownAt_set ho).mp o'), fun j a o => R.tO j a ((ownAt_set ho).mp o), R.st, R.tM, fun j d' e hd => by
    obtain ⟨hj, e⟩ := kill_lookup e
    rw [List.getElem?_set_ne (Ne.symm hj)]
    exact R.deep j d' e hd⟩
  rw [avd_set ho]
  obtain ⟨hj, e⟩ := kill_lookup e
  rw [List.getElem?_set_ne (Ne.symm hj)]
  exact R.slot j d' e hd
def wipeD (env : DEnv) : List Nat → DEnv
  | [] => env
  | v :: vs => (wipeD env vs).set v none
def shAll (md : Mds) (vs : List Nat) : Bool := vs.all fun v => !(mdAt md v).own
theorem Rel.wipe (R : Rel K md T H0 B H σ env) : ∀ {vs : List Nat}, shAll md vs = true → Rel K md T H0 B H (L2.wipe σ vs) (wipeD env vs) ∧ ∀ nw, Avd md (L2.wipe σ vs) (wipeD env vs) T H0 nw = Avd md σ env T H0 nw
  | [], _ => ⟨R, fun _ => rfl⟩
  | v :: vs, h => by
    unfold shAll at h
    rw [List.all_cons, Bool.and_eq_true] at h
    obtain ⟨r, e⟩ := Rel.wipe R (vs := vs) h.2
    have ho : (mdAt md v).own = false := by simpa using h.1
    exact ⟨r.kill ho, fun nw => by
      rw [← e nw]
      exact avd_set ho⟩
/-- beyond a new address too -/
theorem Rel.addT (R : Rel K md T H0 B H1 σ env) {p : Addr} (n : H1 p = none) (s : Same H1 H) (e : ∃ o, H p = some o ∧ isMutO o = true) : Rel K md (fun a => T a ∨ a = p) H0 B H σ env := by
  have c : ∀ nw, Carry K H1 H (Avd md σ env T H0 nw) (Avd md σ env (fun a => T a ∨ a = p) H0 nw) := fun nw => by
    have av : ∀ a, a ≠ p → ¬ Avd md σ env T H0 nw a → ¬ Avd md σ env (fun a => T a ∨ a = p) H0 nw a := fun a ne na z => by
      rcases z with z | (z | z) | z
      · exact na (.inl z)
      · exact na (.inr (.inl z))
      · exact ne z
      · exact na (.inr (.inr z))
    exact ⟨fun a xs h => s a _ h, fun a xs h => SqT.same s h, fun a xs h => SqF.same s h, fun a xs na h => ⟨av a (ne_of_none h n) na, s a _ h⟩, fun a u na h => ⟨av a (Rd.ne h n) na, Rd.same s h⟩⟩
  refine ⟨R.s0, R.sB.trans s, fun a h => ?_, R.len, fun i d ei hd => ?_, R.out, R.sep, fun i a o z => z.elim (R.tO i a o) fun e => by
    (obtain ⟨u, eu⟩ := R.ownThere o
     rw [e, n] at eu
     cases eu), R.st, fun a h hn => ?_, fun i d ei hd => ?_⟩
  · rcases h with h | h
    · obtain ⟨o, eo⟩ := R.tB a h
      exact ⟨o, s _ _ eo⟩
    · subst h; obtain ⟨o, e, _⟩ := e; exact ⟨o, e⟩
  rotate_left
  · rcases h with h | h
    · obtain ⟨o, eo, m⟩ := R.tM a h hn
      exact ⟨o, s _ _ eo, m⟩
    · subst h; exact e
  · obtain ⟨v, ev, q⟩ := R.deep i d ei hd
    exact ⟨v, ev, q.carry (Carry.trans (.same s) (.weak fun a na z => na ⟨.inl z.1, z.2⟩)) fun a u h e => ⟨s _ _ e, .inl h.1, h.2⟩⟩
  · obtain ⟨v, ev, q⟩ := R.slot i d ei hd
    refine ⟨v, ev, ?_⟩
    unfold SlotOk at *
    split at q
    · next h => rw [if_pos h]; exact q.carry (c _) fun a u _ _ => s a u
    · next h => rw [if_neg h]; exact Rp.carry (c _) d v q
end

theorem Carry.addN {K : PySem.W.Frag} {H H' : Hp} {A A' N : Pred} (c : Carry K H H' A A') (n : ∀ a, N a → H a = none) : Carry K H H' A (fun a => A' a ∨ N a) :=
  ⟨c.tup, c.ktp, c.frl, fun a xs na e => ⟨fun z => z.elim (c.lst a xs na e).1 (fun y => by rw [n a y] at e; cases e), (c.lst a xs na e).2⟩, fun a u na e => ⟨fun z => z.elim (c.obj a u na e).1 (fun y => Rd.ne e (n a y) rfl), (c.obj a u na e).2⟩⟩
/-! ### what is walked -/
structure ItD (K : PySem.W.Frag) (O A : Pred) (H : Hp) (J : It) (ds : List D) : Prop where
  ex : ∃ (G : Hp → Prop) (Y : Nat → Hp → V → Hp → Prop), Walk J ds.length G Y ∧ (∀ H2, Stay O H H2 → G H2) ∧ ∀ i H1 x H2 d, Stay O H H1 → Y i H1 x H2 → ds[i]? = some d → Same H1 H2 ∧ ∀ N : Pred, (∀ a, N a → H a = none) → Rp K H2 (fun a => A a ∨ N a) x d
def tDI (K : PySem.W.Frag) (mg : Str → Option Value) (W : WX) (md : Mds) (bo nw : Bool) (f : DXs) : TI := fun σ H R => ∃ (T : Pred) (H0 B : Hp) (env : DEnv), Rel K md T H0 B H σ env ∧
  EP0 (β := V) K mg W σ H (f env) fun ds _ H' => ∀ J, ItD K (fun a => bo = false ∧ WrP md σ env T B a) (Avd md σ env T H0 nw) H' J ds → R J H'
structure VI (X : Cx) (W : WX) (md : Mds) (bo nw : Bool) (tg iter : Expr) (f : DXs) : Prop where
  run : PI X tg iter (tDI X.K X.mg W md bo nw f)
theorem _root_.L2.PI.imp {X : Cx} {tg e : Expr} {t t' : TI} (h : PI X tg e t) (i : ∀ σ H R, t' σ H R → t σ H R) : PI X tg e t' := ⟨fun pins s σ H R I w => h.run pins s σ H R I (i σ H R w)⟩

section
variable {X : Cx} {W : WX} {md : Mds} {st nw sa na sb nb bo : Bool} {e a b tg : Expr} {f fa fb : DX} {pos : Pos} {es : List Expr} {fs : DXs}

/-- over a list, a tuple, a text -/
def iSeq (K : PySem.W.Frag) (tl : TE) : TI := fun σ H R => tl σ H fun x H1 => (∃ a, x = .ref a ∧ (∃ xs, SqL K H1 a xs) ∧ R (Itl K a) H1) ∨ ((∃ a, x = .ref a ∧ (∃ xs, SqT K H1 a xs) ∧ R (Itt K a) H1) ∨ ∃ z, x = .str z ∧ R (Its z) H1)
theorem pi_seq {l : Expr} {tl : TE} (hl : PE X l tl) : PI X tg l (iSeq X.K tl) := by
  refine ⟨fun pins s σ H R I h => ?_⟩
  refine thn (hl.run pins s σ H _ I h) fun v s1 ⟨x, H1, I1, r1, q1⟩ => ?_
  rcases q1 with ⟨a, e, ⟨xs, hq⟩, q⟩ | ⟨a, e, ⟨xs, hq⟩, q⟩ | ⟨z, e, q⟩
  · subst e
    cases r1
    obtain ⟨its, rv, p, hz⟩ := I1.list hq
    refine wpAny_pyIter_list p.isList ?_
    refine ⟨s1.heap.objs.size, [s1.heap.objs.size], _, _, H1, rfl, I1.kept (t' := s1.toks) fun b o e => Heap.get?_push_of_some _ e, turn_list a _, ⟨_, Heap.get?_push_size _ rfl, rfl, rfl⟩, fun b hb => ?_, q⟩
    have e : b = s1.heap.objs.size := by simpa using hb
    subst e
    exact I1.fpOk (Nat.le_refl _) (I1.hok.fresh (Nat.le_refl _))
  · subst e
    cases r1
    obtain ⟨its, rv, p, hz⟩ := I1.tuple hq
    refine wpAny_pyIter_tuple (show s1.heap.IsTuple a its.toArray from p) ?_
    refine ⟨s1.heap.objs.size, [s1.heap.objs.size], _, _, H1, rfl, I1.kept (t' := s1.toks) fun b o e => Heap.get?_push_of_some _ e, turn_tuple a _, ⟨_, Heap.get?_push_size _ rfl, rfl, rfl⟩, fun b hb => ?_, q⟩
    have e : b = s1.heap.objs.size := by simpa using hb
    subst e
    exact I1.fpOk (Nat.le_refl _) (I1.hok.fresh (Nat.le_refl _))
  · subst e
    obtain ⟨t, rfl⟩ := r1
    cases ha : z.cps.all (· < 128)
    · exact wpAny_pyIter_wide ha (pi_one (tk := s1.toks) I1 _ (turn_str _ z t "str_iterator" (.inr rfl)) ⟨_, Heap.get?_push_size _ rfl, rfl, rfl⟩ q)
    · exact wpAny_pyIter_ascii ha (pi_one (tk := s1.toks) I1 _ (turn_str _ z t "str_ascii_iterator" (.inl rfl)) ⟨_, Heap.get?_push_size _ rfl, rfl, rfl⟩ q)
def signsD (z : Str) : List D := z.cps.toList.map fun c => D.str ⟨#[c]⟩
def itemsD : D → Option (List D)
  | .lst ds => some ds
  | .tup ds => some ds
  | .frl ds => some ds
  | .ktp ds => some ds
  | .str z => some (signsD z)
  | _ => none
def dItems (f : DX) : DXs := fun env => (f env).bind fun d => .ofO (itemsD d)
theorem itd_at {K : PySem.W.Frag} {O A : Pred} {H : Hp} {J : It} {vs : List V} {ds : List D} {G : Hp → Prop} (w : Walk J vs.length G (YAt vs)) (hG : ∀ H2, Stay O H H2 → G H2) (r : Rps K H A vs ds) (c : ∀ H2, Stay O H H2 → Carry K H H2 A A) : ItD K O A H J ds := by
  refine ⟨G, YAt vs, by rw [← r.length]; exact w, hG, fun i H1 x H2 d s y e => ?_⟩
  obtain ⟨rfl, ex⟩ := y
  obtain ⟨v, ev, q⟩ := r.get e
  rw [ex] at ev
  cases ev
  exact ⟨Same.refl _, fun N hN => Rp.carry ((c _ s).addN hN) d x q⟩

theorem itd_str {K : PySem.W.Frag} {O A : Pred} {H : Hp} {z : Str} : ItD K O A H (Its z) (signsD z) := by
  refine ⟨fun _ => True, _, by rw [show (signsD z).length = z.cps.size by simp [signsD]]; exact walk_str, fun _ _ => trivial, fun i H1 x H2 d s y e => ?_⟩
  obtain ⟨rfl, c, ec, rfl⟩ := y
  have : d = .str ⟨#[c]⟩ := by
    unfold signsD at e
    rw [List.getElem?_map, Array.getElem?_toList, ec] at e
    cases e
    rfl
  subst this
  exact ⟨Same.refl _, fun _ _ => Rp.str.mpr rfl⟩
/-- what a loop's or a comprehension's source wants: the own things may change meanwhile (bo = false) or not -/
theorem own_stay {T : Pred} {H0 B H H' : Hp} {σ : L2.St} {env : DEnv} (R : Rel X.K md T H0 B H σ env) (s : Same H H') {nw : Bool} : ∀ H2, Stay (fun a => bo = false ∧ WrP md σ env T B a) H' H2 → Carry X.K H' H2 (Avd md σ env T H0 nw) (Avd md σ env T H0 nw) := fun H2 st =>
  Carry.stay (fun a z => (R.same s).wrMut z.2) (fun a z => z.2.avd) st
theorem vi_seq (h : VE X W md st nw e f) (hb : (!bo && !st) = false) : VI X W md bo nw tg e (dItems f) := by
  refine ⟨(pi_seq h.run).imp fun σ H R ⟨T, H0, B, env, r, p⟩ => ⟨T, H0, B, env, r, p.bind.mono fun d v H1 s1 _ p1 rv => ?_⟩⟩
  have car := fun H2 z => own_stay (bo := bo) r s1 (nw := nw) H2 z
  have lstNo : ∀ {a : Addr} {vs : List V} {ds : List D}, d = .lst ds → v = .ref a → H1 a = some (.lst vs) → ¬ (bo = false ∧ WrP md σ env T B a) := fun {a vs ds} ed ev ea z => by
    cases st with
    | true =>
      subst ed ev
      obtain ⟨a', vs', e1, n, _⟩ := Rp.lst.mp rv.strict
      cases e1
      exact n z.2.avd
    | false => rw [z.1] at hb; cases hb
  cases d with
  | lst ds =>
    obtain ⟨a, vs, rfl, ea, rs⟩ := rv.lst
    refine .inl ⟨a, rfl, ⟨vs, SqL.of ea⟩, p1 .non H1 (Same.refl _) _ (itd_at walk_list (fun H2 z => SqL.of (z a _ (lstNo rfl rfl ea) ea)) rs car)⟩
  | frl ds =>
    obtain ⟨a, vs, rfl, ea, rs⟩ := rv.frl
    exact .inl ⟨a, rfl, ⟨vs, ea.sq⟩, p1 .non H1 (Same.refl _) _ (itd_at walk_list (fun H2 z => ((car H2 z).frl a vs ea).sq) rs car)⟩
  | tup ds =>
    obtain ⟨a, vs, rfl, ea, rs⟩ := rv.tup
    exact .inr (.inl ⟨a, rfl, ⟨vs, SqT.of ea⟩, p1 .non H1 (Same.refl _) _ (itd_at walk_tup (fun H2 z => SqT.of ((car H2 z).tup a vs ea)) rs car)⟩)
  | ktp ds =>
    obtain ⟨a, vs, rfl, ea, rs⟩ := rv.ktp
    exact .inr (.inl ⟨a, rfl, ⟨vs, ea⟩, p1 .non H1 (Same.refl _) _ (itd_at walk_tup (fun H2 z => (car H2 z).ktp a vs ea) rs car)⟩)
  | str z => exact .inr (.inr ⟨z, rv.str, p1 .non H1 (Same.refl _) _ itd_str⟩)
  | _ => exact p1.elim

/-! ### range -/
def rangeD (lo c : Int) (n : Nat) : List D := (List.range n).map fun (i : Nat) => D.int (lo + (i : Int) * c)
theorem itd_range {K : PySem.W.Frag} {O A : Pred} {H : Hp} {lo : Int} {n : Nat} : ItD K O A H (Itr lo n) (rangeD lo 1 n) := by
  refine ⟨fun _ => True, _, by rw [show (rangeD lo 1 n).length = n by simp [rangeD]]; exact walk_range, fun _ _ => trivial, fun i H1 x H2 d s y e => ?_⟩
  obtain ⟨rfl, rfl⟩ := y
  have : d = .int (lo + i) := by
    unfold rangeD at e
    rw [List.getElem?_map] at e
    cases q : (List.range n)[i]? with
    | none => rw [q] at e; cases e
    | some j =>
      rw [q] at e
      cases e
      obtain ⟨h1, h2⟩ := List.getElem?_eq_some_iff.mp q
      rw [List.getElem_range] at h2
      subst h2
      simp
  subst this
  exact ⟨Same.refl _, fun _ _ => Rp.int.mpr rfl⟩
theorem itd_rangeC {K : PySem.W.Frag} {O A : Pred} {H : Hp} {lo c : Int} {n : Nat} : ItD K O A H (Itc lo c n) (rangeD lo c n) := by
  refine ⟨fun _ => True, _, by rw [show (rangeD lo c n).length = n by simp [rangeD]]; exact walk_rangeC, fun _ _ => trivial, fun i H1 x H2 d s y e => ?_⟩
  obtain ⟨rfl, rfl⟩ := y
  have : d = .int (lo + (i : Nat) * c) := by
    unfold rangeD at e
    rw [List.getElem?_map] at e
    cases q : (List.range n)[i]? with
    | none => rw [q] at e; cases e
    | some j =>
      rw [q] at e
      cases e
      obtain ⟨h1, h2⟩ := List.getElem?_eq_some_iff.mp q
      rw [List.getElem_range] at h2
      subst h2
      rfl
  subst this
  exact ⟨Same.refl _, fun _ _ => Rp.int.mpr rfl⟩
def lim62 (i : Int) : Bool := decide (-(2 ^ 62) ≤ i) && decide (i < 2 ^ 62)
theorem lim62_of {i : Int} (h : lim62 i = true) : -(2 ^ 62) ≤ i ∧ i < 2 ^ 62 := by
  unfold lim62 at h
  simpa using h
def dRange1 (fa : DX) : DXs := fun env => (fa env).bind fun x => match x with
  | .int j => if lim62 j then .ok (rangeD 0 1 j.toNat) else .bad
  | _ => .bad
def dRange2 (fa fb : DX) : DXs := fun env => (fa env).bind fun x => (fb env).bind fun y => match x, y with
  | .int i, .int j => if lim62 i && lim62 j then .ok (rangeD i 1 (j - i).toNat) else .bad
  | _, _ => .bad
theorem vi_range1 {p : Pos} (hg : Gl X "range") (hm : X.mg "range" = none) (ha : VE X W md sa na a fa) (hs : starless a = true) : VI X W md bo true tg (.Call (.Name "range" p) [a] [] pos) (dRange1 fa) := by
  refine ⟨(pi_range1 hg hm (pa_cons ha.run pa_nil (notStar hs)) (notStar hs)).imp fun σ H R ⟨T, H0, B, env, r, p⟩ => ⟨T, H0, B, env, r, p.bind.mono fun d v H1 s1 _ p1 rv => ?_⟩⟩
  cases d with
  | int j =>
    have p1 : EP0 X.K X.mg W σ H1 (if lim62 j then RG.ok (rangeD 0 1 j.toNat) else RG.bad) _ := p1
    by_cases hl : lim62 j = true
    · rw [if_pos hl] at p1
      obtain ⟨h1, h2⟩ := lim62_of hl
      exact ⟨j, by rw [rv.int], h1, h2, p1 .non H1 (Same.refl _) _ itd_range⟩
    · rw [if_neg hl] at p1
      exact p1.elim
  | _ => exact p1.elim
theorem vi_range2 {p : Pos} (hg : Gl X "range") (hm : X.mg "range" = none) (ha : VE X W md sa na a fa) (hb : VE X W md sb nb b fb) (hs : starless a = true) (hs2 : starless b = true) : VI X W md bo true tg (.Call (.Name "range" p) [a, b] [] pos) (dRange2 fa fb) := by
  refine ⟨(pi_range2 hg hm (pa_cons ha.run (pa_cons hb.run pa_nil (notStar hs2)) (notStar hs)) (by rw [notStar hs, notStar hs2]; rfl) (notStar hs2)).imp fun σ H R ⟨T, H0, B, env, r, p⟩ => ⟨T, H0, B, env, r, p.bind.mono fun d v H1 s1 _ p1 rv => ⟨T, H0, B, env, r.same s1, p1.bind.mono fun d2 v2 H2 s2 _ p2 rv2 => ?_⟩⟩⟩
  cases d with
  | int i =>
    cases d2 with
    | int j =>
      have p2 : EP0 X.K X.mg W σ H2 (if lim62 i && lim62 j then RG.ok (rangeD i 1 (j - i).toNat) else RG.bad) _ := p2
      by_cases hl : (lim62 i && lim62 j) = true
      · rw [if_pos hl] at p2
        rw [Bool.and_eq_true] at hl
        obtain ⟨h1, h2⟩ := lim62_of hl.1
        obtain ⟨h3, h4⟩ := lim62_of hl.2
        exact ⟨i, j, by rw [rv.int, rv2.int], ⟨h1, h2, h3, h4⟩, p2 .non H2 (Same.refl _) _ itd_range⟩
      · rw [if_neg hl] at p2
        exact p2.elim
    | _ => exact p2.elim
  | _ => exact p2.elim

/-! ### zip, enumerate, reversed -/
def listD : D → Option (List D)
  | .lst ds => some ds
  | .frl ds => some ds
  | _ => none
def tupD : D → Option (List D)
  | .tup ds => some ds
  | .ktp ds => some ds
  | _ => none
theorem list_of {T : Pred} {H0 B H H1 : Hp} {σ : L2.St} {env : DEnv} {v : V} {d : D} {ds : List D} (R : Rel X.K md T H0 B H σ env) (s1 : Same H H1) (hb : (!bo && !st) = false) (rv : Rk st X.K H1 (Avd md σ env T H0 nw) v d) (e : listD d = some ds) :
    ∃ a vs, v = .ref a ∧ Rps X.K H1 (Avd md σ env T H0 nw) vs ds ∧ ∀ H2, Stay (fun a => bo = false ∧ WrP md σ env T B a) H1 H2 → SqL X.K H2 a vs := by
  have car := fun H2 z => own_stay (bo := bo) R s1 (nw := nw) H2 z
  cases d with
  | lst ds' =>
    cases e
    obtain ⟨a, vs, rfl, ea, rs⟩ := rv.lst
    have no : ¬ (bo = false ∧ WrP md σ env T B a) := fun z => by
      cases st with
      | true =>
        obtain ⟨a', vs', e1, n, _⟩ := Rp.lst.mp rv.strict
        cases e1
        exact n z.2.avd
      | false => rw [z.1] at hb; cases hb
    exact ⟨a, vs, rfl, rs, fun H2 z => SqL.of (z a _ no ea)⟩
  | frl ds' =>
    cases e
    obtain ⟨a, vs, rfl, ea, rs⟩ := rv.frl
    exact ⟨a, vs, rfl, rs, fun H2 z => ((car H2 z).frl a vs ea).sq⟩
  | _ => cases e
theorem tup_of {T : Pred} {H0 B H H1 : Hp} {σ : L2.St} {env : DEnv} {v : V} {d : D} {ds : List D} (R : Rel X.K md T H0 B H σ env) (s1 : Same H H1) (rv : Rk st X.K H1 (Avd md σ env T H0 nw) v d) (e : tupD d = some ds) :
    ∃ a vs, v = .ref a ∧ Rps X.K H1 (Avd md σ env T H0 nw) vs ds ∧ ∀ H2, Stay (fun a => bo = false ∧ WrP md σ env T B a) H1 H2 → SqT X.K H2 a vs := by
  have car := fun H2 z => own_stay (bo := bo) R s1 (nw := nw) H2 z
  cases d with
  | tup ds' =>
    cases e
    obtain ⟨a, vs, rfl, ea, rs⟩ := rv.tup
    exact ⟨a, vs, rfl, rs, fun H2 z => SqT.of ((car H2 z).tup a vs ea)⟩
  | ktp ds' =>
    cases e
    obtain ⟨a, vs, rfl, ea, rs⟩ := rv.ktp
    exact ⟨a, vs, rfl, rs, fun H2 z => (car H2 z).ktp a vs ea⟩
  | _ => cases e
def zipD (xs ys : List D) : List D := (xs.zip ys).map fun p => D.tup [p.1, p.2]
theorem pair_rp {K : PySem.W.Frag} {O A : Pred} {H H1 H2 : Hp} {v x y : V} {dx dy : D} {q : Addr} (s : Stay O H H1) (c : ∀ H2, Stay O H H2 → Carry K H H2 A A) (hx : Rp K H A x dx) (hy : Rp K H A y dy) (e : v = .ref q) (n : H1 q = none) (e2 : H2 = upd H1 q (.tup [x, y])) :
    Same H1 H2 ∧ ∀ N : Pred, (∀ a, N a → H a = none) → Rp K H2 (fun a => A a ∨ N a) v (.tup [dx, dy]) := by
  subst e e2
  have sm : Same H1 (upd H1 q (.tup [x, y])) := same_new n
  exact ⟨sm, fun N hN => Rp.tup.mpr ⟨q, _, rfl, upd_same, .cons ((Rp.carry ((c _ s).addN hN) _ _ hx).same sm) (.one ((Rp.carry ((c _ s).addN hN) _ _ hy).same sm))⟩⟩
theorem itd_zip {K : PySem.W.Frag} {O A : Pred} {H : Hp} {J : It} {vs ws : List V} {xs ys : List D} {G : Hp → Prop} {n : Nat} (hn : n = min vs.length ws.length) (w : Walk J n G (YPair (fun i => vs[i]?) (fun i => ws[i]?))) (hG : ∀ H2, Stay O H H2 → G H2) (r : Rps K H A vs xs) (r2 : Rps K H A ws ys) (c : ∀ H2, Stay O H H2 → Carry K H H2 A A) :
    ItD K O A H J (zipD xs ys) := by
  refine ⟨G, YPair (fun i => vs[i]?) (fun i => ws[i]?), ?_, hG, fun i H1 x H2 d s y e => ?_⟩
  · have : (zipD xs ys).length = n := by
      unfold zipD
      rw [List.length_map, List.length_zip, hn, r.length, r2.length]
    rw [this]
    exact w
  · obtain ⟨q, a, b, e1, n1, e2, ha, hb⟩ := y
    unfold zipD at e
    rw [List.getElem?_map] at e
    cases hz : (xs.zip ys)[i]? with
    | none => rw [hz] at e; cases e
    | some p =>
      rw [hz] at e
      cases e
      rw [List.getElem?_zip_eq_some] at hz
      obtain ⟨v1, ev1, q1⟩ := r.get hz.1
      obtain ⟨v2, ev2, q2⟩ := r2.get hz.2
      have ha' : vs[i]? = some a := ha
      have hb' : ws[i]? = some b := hb
      rw [ha'] at ev1
      rw [hb'] at ev2
      cases ev1
      cases ev2
      exact pair_rp s c q1 q2 e1 n1 e2
def gZip (x y : D) : Option (List D) := match listD x, listD y with
  | some xs, some ys => some (zipD xs ys)
  | _, _ => match tupD x, tupD y with
    | some xs, some ys => some (zipD xs ys)
    | _, _ => none
def dZip (fa fb : DX) : DXs := fun env => (fa env).bind fun x => (fb env).bind fun y => .ofO (gZip x y)
theorem walk_zipT {K : PySem.W.Frag} {a b : Addr} {xs ys : List V} {n : Nat} (hn : n = min xs.length ys.length) : Walk (ItzT K a b) n (fun H => SqT K H a xs ∧ SqT K H b ys) (YPair (fun i => xs[i]?) (fun i => ys[i]?)) := by
  subst hn
  refine ⟨fun i _ hi q => ?_, fun _ q => ⟨xs, ys, q.1, q.2, by omega⟩, fun i H v H' _ q y => ?_⟩
  · have h1 : i < xs.length := by omega
    have h2 : i < ys.length := by omega
    exact ⟨xs, ys, xs[i], ys[i], q.1, q.2, by simp [h1], by simp [h2]⟩
  · obtain ⟨T, x, z, h1, h2, h3, h4, h5⟩ := y
    exact ⟨T, x, z, h1, h2, h3, h4 xs q.1, h5 ys q.2⟩
theorem vi_zip {p tpos : Pos} {elts : List Expr} {kk : Nat} (hg : Gl X "zip") (hm : X.mg "zip" = none) (ha : VE X W md sa na a fa) (hb : VE X W md sb nb b fb) (h1 : (!bo && !sa) = false) (h2 : (!bo && !sb) = false) (hs : starless a = true) (hs2 : starless b = true) :
    VI X W md bo (na && nb) (.Tuple elts kk tpos) (.Call (.Name "zip" p) [a, b] [] pos) (dZip fa fb) := by
  refine ⟨(pi_zipA hg hm (pa_cons ha.run (pa_cons hb.run pa_nil (notStar hs2)) (notStar hs)) (notStar hs) (backTo_any (by rw [List.all_cons, hs2]; rfl))).imp fun σ H R ⟨T, H0, B, env, r, p⟩ => ⟨T, H0, B, env, r, p.bind.mono fun d v H1 s1 _ p1 rv => ⟨T, H0, B, env, r.same s1, p1.bind.mono fun d2 v2 H2 s2 _ p2 rv2 => ?_⟩⟩⟩
  have rv' := (rv.same s2).weak fun a z => Avd.mono (nw := na && nb) (fun e => (Bool.and_eq_true_iff.mp e).1) z
  have rv2' := rv2.weak fun a z => Avd.mono (nw := na && nb) (fun e => (Bool.and_eq_true_iff.mp e).2) z
  have car := fun H3 z => own_stay (bo := bo) (r.same s1) s2 (nw := na && nb) H3 z
  unfold gZip at p2
  split at p2
  · next xs ys e1 e2 =>
    obtain ⟨a1, vs, rfl, r1, q1⟩ := list_of (bo := bo) r (s1.trans s2) h1 rv' e1
    obtain ⟨a2, ws, rfl, r2, q2⟩ := list_of (bo := bo) (r.same s1) s2 h2 rv2' e2
    exact ⟨a1, a2, vs, ws, rfl, .inl ⟨q1 _ (Stay.of (Same.refl _)), q2 _ (Stay.of (Same.refl _)), p2 .non H2 (Same.refl _) _ (itd_zip rfl (walk_zip rfl) (fun H3 z => ⟨q1 H3 z, q2 H3 z⟩) r1 r2 car)⟩⟩
  · split at p2
    · next xs ys e1 e2 =>
      obtain ⟨a1, vs, rfl, r1, q1⟩ := tup_of (bo := bo) r (s1.trans s2) rv' e1
      obtain ⟨a2, ws, rfl, r2, q2⟩ := tup_of (bo := bo) (r.same s1) s2 rv2' e2
      exact ⟨a1, a2, vs, ws, rfl, .inr ⟨q1 _ (Stay.of (Same.refl _)), q2 _ (Stay.of (Same.refl _)), p2 .non H2 (Same.refl _) _ (itd_zip rfl (walk_zipT rfl) (fun H3 z => ⟨q1 H3 z, q2 H3 z⟩) r1 r2 car)⟩⟩
    · exact p2.elim
def enumD (n : Nat) : List D → List D
  | [] => []
  | d :: ds => .tup [.int (n : Nat), d] :: enumD (n + 1) ds
theorem enumD_get : ∀ (ds : List D) (n i : Nat), (enumD n ds)[i]? = ds[i]?.map fun d => D.tup [.int ((n + i : Nat)), d]
  | [], n, i => by simp [enumD]
  | d :: ds, n, 0 => by simp [enumD]
  | d :: ds, n, i + 1 => by
    simp only [enumD, List.getElem?_cons_succ]
    rw [enumD_get ds (n + 1) i, show n + 1 + i = n + (i + 1) by omega]
theorem enumD_len : ∀ (ds : List D) (n : Nat), (enumD n ds).length = ds.length
  | [], n => rfl
  | d :: ds, n => by simp [enumD, enumD_len ds (n + 1)]
def lsD (d : D) : Option (List D) := match listD d with
  | some ds => some ds
  | none => tupD d
def dEnum (fa : DX) : DXs := fun env => (fa env).bind fun x => .ofO ((lsD x).map (enumD 0))
theorem vi_enum {p tpos : Pos} {elts : List Expr} {kk : Nat} (hg : Gl X "enumerate") (hm : X.mg "enumerate" = none) (ha : VE X W md sa na a fa) (h1 : (!bo && !sa) = false) (hs : starless a = true) :
    VI X W md bo na (.Tuple elts kk tpos) (.Call (.Name "enumerate" p) [a] [] pos) (dEnum fa) := by
  refine ⟨(pi_enumA hg hm (pa_cons ha.run pa_nil (notStar hs)) (notStar hs)).imp fun σ H R ⟨T, H0, B, env, r, p⟩ => ⟨T, H0, B, env, r, p.bind.mono fun d v H1 s1 _ p1 rv => ?_⟩⟩
  have car := fun H3 z => own_stay (bo := bo) r s1 (nw := na) H3 z
  have fin : ∀ {a1 : Addr} {vs : List V} {xs : List D} {J : It} {G : Hp → Prop}, Rps X.K H1 (Avd md σ env T H0 na) vs xs → Walk J vs.length G (YPair (fun i => some (.int (i : Nat))) (fun i => vs[i]?)) → (∀ H2, Stay (fun a => bo = false ∧ WrP md σ env T B a) H1 H2 → G H2) →
      ItD X.K (fun a => bo = false ∧ WrP md σ env T B a) (Avd md σ env T H0 na) H1 J (enumD 0 xs) := fun {a1 vs xs J G} r1 w hG => by
    refine ⟨_, _, by rw [enumD_len, ← r1.length]; exact w, hG, fun i H2 x H3 d s y e => ?_⟩
    obtain ⟨q, a, b, e3, n1, e2, ha, hb⟩ := y
    rw [enumD_get] at e
    cases hx : xs[i]? with
    | none => rw [hx] at e; cases e
    | some w =>
      rw [hx] at e
      cases e
      obtain ⟨v2, ev2, q2⟩ := r1.get hx
      have hb' : vs[i]? = some b := hb
      rw [hb'] at ev2
      cases ev2
      cases ha
      exact pair_rp s car (Rp.int.mpr (by simp)) q2 e3 n1 e2
  unfold lsD at p1
  cases e1 : listD d with
  | none =>
    rw [e1] at p1
    cases e2 : tupD d with
    | none => rw [e2] at p1; exact p1.elim
    | some xs =>
      rw [e2] at p1
      obtain ⟨a1, vs, rfl, r1, q1⟩ := tup_of (bo := bo) r s1 rv e2
      exact ⟨a1, vs, rfl, .inr ⟨q1 _ (Stay.of (Same.refl _)), p1 .non H1 (Same.refl _) _ (fin (a1 := a1) r1 walk_enumT fun H2 z => q1 H2 z)⟩⟩
  | some xs =>
    rw [e1] at p1
    obtain ⟨a1, vs, rfl, r1, q1⟩ := list_of (bo := bo) r s1 h1 rv e1
    exact ⟨a1, vs, rfl, .inl ⟨q1 _ (Stay.of (Same.refl _)), p1 .non H1 (Same.refl _) _ (fin (a1 := a1) r1 walk_enum fun H2 z => q1 H2 z)⟩⟩
def revD (d : D) : Option (List D) := (match listD d with
  | some ds => some ds
  | none => tupD d).map List.reverse
def dRev (fa : DX) : DXs := fun env => (fa env).bind fun x => .ofO (revD x)
theorem walk_revT {K : PySem.W.Frag} {a : Addr} {xs : List V} : Walk (ItvT K a xs.length) xs.length (fun H => SqT K H a xs) (fun i H x H' => H' = H ∧ xs[xs.length - 1 - i]? = some x) :=
  ⟨fun i _ hi q => ⟨hi, xs, xs[xs.length - 1 - i]'(by omega), q, by simp [show xs.length - 1 - i < xs.length by omega]⟩, fun _ _ => Nat.le_refl _, fun _ _ _ _ _ q y => ⟨y.1, y.2 xs q⟩⟩
theorem itd_rev {K : PySem.W.Frag} {O A : Pred} {H : Hp} {J : It} {vs : List V} {ds : List D} {G : Hp → Prop} (w : Walk J vs.length G (fun i H x H' => H' = H ∧ vs[vs.length - 1 - i]? = some x)) (hG : ∀ H2, Stay O H H2 → G H2) (r : Rps K H A vs ds) (c : ∀ H2, Stay O H H2 → Carry K H H2 A A) : ItD K O A H J ds.reverse := by
  refine ⟨G, _, by rw [List.length_reverse, ← r.length]; exact w, hG, fun i H1 x H2 d s y e => ?_⟩
  obtain ⟨rfl, ex⟩ := y
  have hi : i < ds.length := by
    obtain ⟨h, _⟩ := List.getElem?_eq_some_iff.mp e
    simpa using h
  rw [List.getElem?_reverse hi] at e
  obtain ⟨v, ev, q⟩ := r.get e
  rw [← r.length] at ev
  rw [ex] at ev
  cases ev
  exact ⟨Same.refl _, fun N hN => Rp.carry ((c _ s).addN hN) d x q⟩
theorem vi_rev {p : Pos} (hg : Gl X "reversed") (hm : X.mg "reversed" = none) (ha : VE X W md sa na a fa) (h1 : (!bo && !sa) = false) (hs : starless a = true) :
    VI X W md bo na tg (.Call (.Name "reversed" p) [a] [] pos) (dRev fa) := by
  refine ⟨(pi_revA hg hm ha.run (notStar hs)).imp fun σ H R ⟨T, H0, B, env, r, p⟩ => ⟨T, H0, B, env, r, p.bind.mono fun d v H1 s1 _ p1 rv => ?_⟩⟩
  have car := fun H3 z => own_stay (bo := bo) r s1 (nw := na) H3 z
  unfold revD at p1
  cases e1 : listD d with
  | some xs =>
    rw [e1] at p1
    obtain ⟨a1, vs, rfl, r1, q1⟩ := list_of (bo := bo) r s1 h1 rv e1
    exact ⟨a1, vs, rfl, .inl ⟨q1 _ (Stay.of (Same.refl _)), p1 .non H1 (Same.refl _) _ (itd_rev walk_rev (fun H2 z => q1 H2 z) r1 car)⟩⟩
  | none =>
    rw [e1] at p1
    cases e2 : tupD d with
    | none => rw [e2] at p1; exact p1.elim
    | some xs =>
      rw [e2] at p1
      obtain ⟨a1, vs, rfl, r1, q1⟩ := tup_of (bo := bo) r s1 rv e2
      exact ⟨a1, vs, rfl, .inr ⟨q1 _ (Stay.of (Same.refl _)), p1 .non H1 (Same.refl _) _ (itd_rev walk_revT (fun H2 z => q1 H2 z) r1 car)⟩⟩
def dRevR (fa : DX) : DXs := fun env => (fa env).bind fun x => match x with
  | .int j => if lim62 j then .ok (rangeD ((j.toNat : Nat) - 1) (-1) j.toNat) else .bad
  | _ => .bad
theorem vi_revR {p p2 pos2 : Pos} (hg : Gl X "reversed") (hm : X.mg "reversed" = none) (hg2 : Gl X "range") (hm2 : X.mg "range" = none) (ha : VE X W md sa na a fa) (hs : starless a = true) :
    VI X W md bo true tg (.Call (.Name "reversed" p) [.Call (.Name "range" p2) [a] [] pos2] [] pos) (dRevR fa) := by
  refine ⟨(pi_revR hg hm (prg_1 hg2 hm2 ha.run (notStar hs)) (notStar rfl)).imp fun σ H R ⟨T, H0, B, env, r, p⟩ => ⟨T, H0, B, env, r, p.bind.mono fun d v H1 s1 _ p1 rv => ?_⟩⟩
  cases d with
  | int j =>
    have p1 : EP0 X.K X.mg W σ H1 (if lim62 j then RG.ok (rangeD ((j.toNat : Nat) - 1) (-1) j.toNat) else RG.bad) _ := p1
    by_cases hl : lim62 j = true
    · rw [if_pos hl] at p1
      obtain ⟨h1, h2⟩ := lim62_of hl
      have e1 : (0 : Int) + (((j - 0).toNat : Nat) : Int) - 1 = (j.toNat : Nat) - 1 := by simp
      refine ⟨j, rv.int, by decide, by decide, h1, h2, ?_⟩
      rw [e1, show (j - 0).toNat = j.toNat by simp]
      exact p1 .non H1 (Same.refl _) _ itd_rangeC
    · rw [if_neg hl] at p1
      exact p1.elim
  | _ => exact p1.elim
end

/-! ### targets -/
def Wp (sl : List Nat) (σ σ' : L2.St) : Prop := ∀ vs : List Nat, (∀ j ∈ sl, j ∈ vs) → L2.wipe σ' vs = L2.wipe σ vs
theorem wipe_comm (σ : L2.St) (i : Nat) (x : Option V) : ∀ vs : List Nat, i ∈ vs → L2.wipe (σ.set i x) vs = L2.wipe σ vs
  | [], h => nomatch h
  | v :: vs, h => by
    show (L2.wipe (σ.set i x) vs).set v none = (L2.wipe σ vs).set v none
    by_cases e : i ∈ vs
    · rw [wipe_comm σ i x vs e]
    · have hv : i = v := (List.mem_cons.mp h).resolve_right e
      subst hv
      have gen : ∀ (ws : List Nat), i ∉ ws → L2.wipe (σ.set i x) ws = (L2.wipe σ ws).set i x := by
        intro ws
        induction ws with
        | nil => intro _; rfl
        | cons w ws ih =>
          intro hn
          have h1 : i ≠ w := fun z => hn (by simp [z])
          have h2 : i ∉ ws := fun z => hn (by simp [z])
          show (L2.wipe (σ.set i x) ws).set w none = ((L2.wipe σ ws).set w none).set i x
          rw [ih h2, List.set_comm _ _ h1]
      rw [gen vs e, List.set_set]
def tDG (K : PySem.W.Frag) (md : Mds) (nw : Bool) (gd : D → DEnv → Option DEnv) (sl : List Nat) : TG := fun v σ H Q => ∃ (T : Pred) (H0 B : Hp) (env : DEnv) (d : D), Rel K md T H0 B H σ env ∧ Rp K H (Avd md σ env T H0 nw) v d ∧
  match gd d env with
  | some env' => ∀ σ', Rel K md T H0 B H σ' env' → (∀ n, Avd md σ' env' T H0 n = Avd md σ env T H0 n) → Wp sl σ σ' → Q σ' H
  | none => False
def tDGs (K : PySem.W.Frag) (md : Mds) (nw : Bool) (gd : List D → DEnv → Option DEnv) (sl : List Nat) : TGs := fun vs σ H Q => ∃ (T : Pred) (H0 B : Hp) (env : DEnv) (ds : List D), Rel K md T H0 B H σ env ∧ Rps K H (Avd md σ env T H0 nw) vs ds ∧
  match gd ds env with
  | some env' => ∀ σ', Rel K md T H0 B H σ' env' → (∀ n, Avd md σ' env' T H0 n = Avd md σ env T H0 n) → Wp sl σ σ' → Q σ' H
  | none => False
structure VG (X : Cx) (md : Mds) (nw : Bool) (tg : Expr) (gd : D → DEnv → Option DEnv) (sl : List Nat) : Prop where
  run : PG X tg (tDG X.K md nw gd sl)
structure VGs (X : Cx) (md : Mds) (nw : Bool) (tg : List Expr) (gd : List D → DEnv → Option DEnv) (sl : List Nat) : Prop where
  run : PGs X tg (tDGs X.K md nw gd sl)
theorem _root_.L2.PG.imp {X : Cx} {tg : Expr} {t t' : TG} (h : PG X tg t) (i : ∀ v σ H Q, t' v σ H Q → t v σ H Q) : PG X tg t' := ⟨fun pins s σ H v u Q I r w => h.run pins s σ H v u Q I r (i v σ H Q w)⟩
theorem _root_.L2.PGs.imp {X : Cx} {tg : List Expr} {t t' : TGs} (h : PGs X tg t) (i : ∀ v σ H Q, t' v σ H Q → t v σ H Q) : PGs X tg t' := ⟨fun pins s σ H v u Q I r w => h.run pins s σ H v u Q I r (i v σ H Q w)⟩
section
variable {X : Cx} {W : WX} {md : Mds} {st nw sa na sb nb bo : Bool} {e a b tg : Expr} {f fa fb : DX} {pos : Pos} {es : List Expr} {fs : DXs}
def gdName (i : Nat) : D → DEnv → Option DEnv := fun d env => some (env.set i (some d))
theorem vg_name {i : Nat} {x : Str} (hN : X.N.Nodup) (hi : X.N[i]? = some x) (hx : Loc X.env.scope x) (hf : X.fn x = true ∨ X.env.scope.names.lookup x = some .local) (ho : (mdAt md i).own = false) (hp : (mdAt md i).dp = 0) (hw : ((mdAt md i).nw && !nw) = false) :
    VG X md nw (.Name x pos) (gdName i) [i] := ⟨(pg_name hN hi hx hf).imp fun v σ H Q ⟨T, H0, B, env, d, R, r, q⟩ => by
  have q : ∀ σ', Rel X.K md T H0 B H σ' (env.set i (some d)) → _ := q
  refine q _ (R.setShared ho hp (r.weak fun a z => Avd.mono (fun e => ?_) z)) (fun n => avd_set ho) fun vs h => wipe_comm σ i _ vs (h i (by simp))
  rw [e] at hw
  simpa using hw⟩
def gdNil : List D → DEnv → Option DEnv := fun ds env => match ds with
  | [] => some env
  | _ => none
def gdCons (g : D → DEnv → Option DEnv) (gs : List D → DEnv → Option DEnv) : List D → DEnv → Option DEnv := fun ds env => match ds with
  | [] => none
  | d :: r => (g d env).bind (gs r)
theorem vgs_nil : VGs X md nw [] gdNil [] := ⟨pgs_nil.imp fun vs σ H Q ⟨T, H0, B, env, ds, R, r, q⟩ => by
  cases ds with
  | nil => exact ⟨r.nil_eq, q σ R (fun _ => rfl) fun _ _ => rfl⟩
  | cons d r => exact q.elim⟩
theorem vgs_cons {sl sl2 : List Nat} {g : D → DEnv → Option DEnv} {gs : List D → DEnv → Option DEnv} (h : VG X md nw e g sl) (hr : VGs X md nw es gs sl2) (hs : (assignEach (e :: es) X.env).map (·.2) = assign e X.env :: (assignEach es X.env).map (·.2)) :
    VGs X md nw (e :: es) (gdCons g gs) (sl ++ sl2) := ⟨(pgs_cons h.run hr.run hs).imp fun vs σ H Q ⟨T, H0, B, env, ds, R, r, q⟩ => by
  cases ds with
  | nil => exact q.elim
  | cons d ds =>
    obtain ⟨v, vr, rfl, rv, rr⟩ := r.uncons
    refine ⟨v, vr, rfl, T, H0, B, env, d, R, rv, ?_⟩
    have q : match (g d env).bind (gs ds) with
      | some env' => ∀ σ', Rel X.K md T H0 B H σ' env' → (∀ n, Avd md σ' env' T H0 n = Avd md σ env T H0 n) → Wp (sl ++ sl2) σ σ' → Q σ' H
      | none => False := q
    cases eg : g d env with
    | none => rw [eg] at q; exact q
    | some env1 =>
      rw [eg] at q
      have q : match gs ds env1 with
        | some env' => ∀ σ', Rel X.K md T H0 B H σ' env' → (∀ n, Avd md σ' env' T H0 n = Avd md σ env T H0 n) → Wp (sl ++ sl2) σ σ' → Q σ' H
        | none => False := q
      intro σ1 R1 a1 w1
      refine ⟨T, H0, B, env1, ds, R1, by rw [a1]; exact rr, ?_⟩
      cases e2 : gs ds env1 with
      | none => rw [e2] at q; exact q
      | some env2 =>
        rw [e2] at q
        intro σ2 R2 a2 w2
        exact q σ2 R2 (fun n => (a2 n).trans (a1 n)) fun vs hv => (w2 vs fun j hj => hv j (List.mem_append_right _ hj)).trans (w1 vs fun j hj => hv j (List.mem_append_left _ hj))⟩
def seqD : D → Option (List D)
  | .tup ds => some ds
  | .ktp ds => some ds
  | .lst ds => some ds
  | _ => none
def gdTup (n : Nat) (gs : List D → DEnv → Option DEnv) : D → DEnv → Option DEnv := fun d env => match seqD d with
  | some ds => if ds.length = n then gs ds env else none
  | none => none
theorem pg_or {e : Expr} {t u : TG} (h : PG X e t) (k : PG X e u) : PG X e (fun v σ H Q => t v σ H Q ∨ u v σ H Q) :=
  ⟨fun pins s σ H v w Q I r hw => hw.elim (h.run pins s σ H v w Q I r) (k.run pins s σ H v w Q I r)⟩
theorem vg_tup {n k : Nat} {sl : List Nat} {gs : List D → DEnv → Option DEnv} (hc : X.calm = true) (h : VGs X md nw es gs sl) (hn : (assignEach es X.env).length = n) (hst : (assignEach es X.env).findIdx? (·.1) = none) :
    VG X md nw (.Tuple es k pos) (gdTup n gs) sl := ⟨(pg_or (pg_tup hc h.run hn hst) (pg_lst hc h.run hn hst)).imp fun v σ H Q ⟨T, H0, B, env, d, R, r, q⟩ => by
  unfold gdTup at q
  have fin : ∀ {vs : List V} {ds : List D} {P : Prop}, (vs.length = n → tDGs X.K md nw gs sl vs σ H Q → P) → Rps X.K H (Avd md σ env T H0 nw) vs ds → (match (if ds.length = n then gs ds env else none) with
      | some env' => ∀ σ', Rel X.K md T H0 B H σ' env' → (∀ n, Avd md σ' env' T H0 n = Avd md σ env T H0 n) → Wp sl σ σ' → Q σ' H
      | none => False) → P := fun {vs ds P} c rs q => by
    by_cases hl : ds.length = n
    · rw [if_pos hl] at q
      exact c (rs.length.trans hl) ⟨T, H0, B, env, ds, R, rs, q⟩
    · rw [if_neg hl] at q
      exact q.elim
  cases d with
  | tup ds => obtain ⟨a, vs, ev, hs, rs⟩ := Rp.tup.mp r; exact .inl (fin (fun hl t => ⟨a, vs, ev, SqT.of hs, hl, t⟩) rs q)
  | ktp ds => obtain ⟨a, vs, ev, hs, rs⟩ := Rp.ktp.mp r; exact .inl (fin (fun hl t => ⟨a, vs, ev, hs, hl, t⟩) rs q)
  | lst ds => obtain ⟨a, vs, ev, _, hs, rs⟩ := Rp.lst.mp r; exact .inr (fin (fun hl t => ⟨a, vs, ev, SqL.of hs, hl, t⟩) rs q)
  | _ => exact q.elim⟩

/-! ### [e for x in s if t] -/
abbrev W0 : WX := fun _ _ _ _ => False
def compGo (gd : D → DEnv → Option DEnv) (tt fe : DX) (env : DEnv) : List D → Option (List D)
  | [] => some []
  | d :: r => match gd d env with
    | none => none
    | some env1 => match tt env1 with
      | .ok (.bl true) => (match fe env1 with
        | .ok y => (compGo gd tt fe env r).map (y :: ·)
        | _ => none)
      | .ok (.bl false) => compGo gd tt fe env r
      | _ => none
def dComp (src : DXs) (gd : D → DEnv → Option DEnv) (tt fe : DX) (vs : List Nat) : DX := fun env => (src env).bind fun ds => if ds.length ≤ sizeLine then (match compGo gd tt fe (wipeD env vs) ds with
  | some xs => .ok (.lst xs)
  | none => .bad) else .bad
structure VTs (X : Cx) (W : WX) (md : Mds) (ifs : List Expr) (f : DX) : Prop where
  run : PTs X ifs (tDT X.K X.mg W md f)
theorem vts_nil : VTs X W md [] (dC (.bl true)) := ⟨⟨fun pins s σ H Q I w => pts_nil.run pins s σ H Q I (by
  obtain ⟨T, H0, B, env, R, p⟩ := w
  obtain ⟨b, e, q⟩ := p .non H (Same.refl _)
  cases e
  exact q)⟩⟩
theorem vts_one (h : VT X W md e f) : VTs X W md [e] f := ⟨pts_one h.run⟩

theorem comp_reading {src : DXs} {gd : D → DEnv → Option DEnv} {tt fe : DX} {sl : List Nat} {own : List (Str × Nat)} {σ : L2.St} {H : Hp} {Q : VK} (hsh : shAll md (own.map (·.2)) = true) (hsl : ∀ j ∈ sl, j ∈ own.map (·.2))
    (h : tDF X.K X.mg W md nw (dComp src gd tt fe (own.map (·.2))) σ H Q) : tLc (tDI X.K X.mg W md bo na src) (tDG X.K md na gd sl) (tDT X.K X.mg W0 md tt) (tD X.K X.mg W0 md true nw fe) (own.map (·.2)) σ H Q := by
  obtain ⟨T, H0, B, env, R, p⟩ := h
  refine ⟨T, H0, B, env, R, p.bind.mono fun ds _ H1 s1 _ p1 => fun J it L nL => ?_⟩
  obtain ⟨G, Y, w, hG, hY⟩ := it.ex
  by_cases hz : ds.length ≤ sizeLine
  case neg => rw [if_neg hz] at p1; exact p1.elim
  rw [if_pos hz] at p1
  cases hx : compGo gd tt fe (wipeD env (own.map (·.2))) ds with
  | none => rw [hx] at p1; exact p1.elim
  | some xs =>
    rw [hx] at p1
    have R1 := R.same s1
    -- the frame at a later heap, the new list at L
    have at_ : ∀ {H' : Hp}, Same H1 H' → (∃ o, H' L = some o ∧ isMutO o = true) → Rel X.K md (fun a => T a ∨ a = L) H0 B H' σ env := fun s e => R1.addT nL s e
    have avT : ∀ n, Avd md σ env (fun a => T a ∨ a = L) H0 n = fun a => Avd md σ env T H0 n a ∨ a = L := fun n => by
      funext a
      unfold Avd
      apply propext
      constructor
      · rintro (z | (z | z) | z)
        · exact .inl (.inl z)
        · exact .inl (.inr (.inl z))
        · exact .inr z
        · exact .inl (.inr (.inr z))
      · rintro ((z | z | z) | z)
        · exact .inl z
        · exact .inr (.inl (.inl z))
        · exact .inr (.inr z)
        · exact .inr (.inl (.inr z))
    refine lc_it w (fun i H' => Same H1 H' ∧ ∃ accV accD rest, H' L = some (.lst accV) ∧ Rps X.K H' (Avd md σ env (fun a => T a ∨ a = L) H0 nw) accV accD ∧ compGo gd tt fe (wipeD env (own.map (·.2))) (ds.drop i) = some rest ∧ accD ++ rest = xs ∧ accD.length ≤ i) ?_ (fun i H' _ h => hG H' (Stay.of h.1)) ?_ ?_
    · exact ⟨same_new nL, [], [], xs, upd_same, .nil, hx, rfl, Nat.le_refl _⟩
    · rintro i x H2 H3 hi ⟨s2, accV, accD, rest, eL, rA, hr, hax, hlen⟩ y
      obtain ⟨d, hd⟩ : ∃ d, ds[i]? = some d := ⟨ds[i], List.getElem?_eq_getElem hi⟩
      obtain ⟨s3, rx⟩ := hY i H2 x H3 d (Stay.of s2) y hd
      have rx := rx (fun a => a = L) (fun a z => by subst z; exact nL)
      have eL3 : H3 L = some (.lst accV) := s3 _ _ eL
      have RT : Rel X.K md (fun a => T a ∨ a = L) H0 B H3 σ env := at_ (s2.trans s3) ⟨_, eL3, rfl⟩
      obtain ⟨Rw, aw⟩ := RT.wipe hsh
      have hdrop : ds.drop i = d :: ds.drop (i + 1) := by
        obtain ⟨h1, h2⟩ := List.getElem?_eq_some_iff.mp hd
        rw [List.drop_eq_getElem_cons h1, h2]
      rw [hdrop] at hr
      refine ⟨_, H0, B, wipeD env (own.map (·.2)), d, Rw, by rw [aw, avT]; exact rx, ?_⟩
      unfold compGo at hr
      cases eg : gd d (wipeD env (own.map (·.2))) with
      | none => rw [eg] at hr; cases hr
      | some env1 =>
        rw [eg] at hr
        intro σ1 R1' a1 w1
        refine ⟨(w1 _ hsl).trans ?_, _, H0, B, env1, R1', ?_⟩
        · have : ∀ vs : List Nat, L2.wipe (L2.wipe σ vs) vs = L2.wipe σ vs := by
            intro vs
            have : ∀ us vs : List Nat, (∀ j ∈ us, j ∈ vs) → L2.wipe (L2.wipe σ us) vs = L2.wipe σ vs := by
              intro us
              induction us with
              | nil => intro vs _; rfl
              | cons u us ih =>
                intro vs h
                show L2.wipe ((L2.wipe σ us).set u none) vs = _
                rw [wipe_comm _ u none vs (h u (by simp)), ih vs fun j hj => h j (by simp [hj])]
            exact this vs vs fun _ h => h
          exact this _
        · have hr : (match tt env1 with
            | .ok (.bl true) => (match fe env1 with
              | .ok y => (compGo gd tt fe (wipeD env (own.map (·.2))) (ds.drop (i + 1))).map (y :: ·)
              | _ => none)
            | .ok (.bl false) => compGo gd tt fe (wipeD env (own.map (·.2))) (ds.drop (i + 1))
            | _ => none) = some rest := hr
          cases et : tt env1 with
          | exc c fs => rw [et] at hr; cases hr
          | bad => rw [et] at hr; cases hr
          | ok dt =>
            rw [et] at hr
            intro _ H4 s4
            cases dt with
            | bl k =>
              refine ⟨k, rfl, ?_⟩
              cases k with
              | false =>
                rw [if_neg Bool.false_ne_true]
                exact ⟨(s2.trans s3).trans s4, accV, accD, rest, s4 _ _ eL3, (rA.same s3).same s4, hr, hax, by omega⟩
              | true =>
                rw [if_pos rfl]
                refine ⟨_, H0, B, env1, R1'.same s4, ?_⟩
                have hr : (match fe env1 with
                  | .ok y => (compGo gd tt fe (wipeD env (own.map (·.2))) (ds.drop (i + 1))).map (y :: ·)
                  | _ => none) = some rest := hr
                cases ef : fe env1 with
                | exc c fs => rw [ef] at hr; cases hr
                | bad => rw [ef] at hr; cases hr
                | ok dy =>
                  rw [ef] at hr
                  intro y H5 s5 ry
                  obtain ⟨rest', hr', er⟩ := Option.map_eq_some_iff.mp hr
                  subst er
                  have ry : Rp X.K H5 (Avd md σ env (fun a => T a ∨ a = L) H0 nw) y dy := by
                    have := ry.strict
                    rw [a1, aw] at this
                    exact this
                  have eL5 := s5 _ _ (s4 _ _ eL3)
                  have rA5 := ((rA.same s3).same s4).same s5
                  refine ⟨accV, eL5, ?_, ?_⟩
                  · rw [rA.length]
                    omega
                  · have sAll := ((s2.trans s3).trans s4).trans s5
                    have sU : Same H1 (upd H5 L (.lst (accV ++ [y]))) := fun b o eb => by
                      have nb : b ≠ L := fun z => by subst z; rw [nL] at eb; cases eb
                      rw [upd_ne nb]
                      exact sAll b o eb
                    have cU : Carry X.K H5 (upd H5 L (.lst (accV ++ [y]))) (Avd md σ env (fun a => T a ∨ a = L) H0 nw) (Avd md σ env (fun a => T a ∨ a = L) H0 nw) := by
                      refine Carry.stay (O := fun a => a = L) (fun a z => by subst z; exact ⟨_, eL5, rfl⟩) (fun a z => .inr (.inl (.inr z))) fun a o na ea => ?_
                      rw [upd_ne na]
                      exact ea
                    exact ⟨sU, accV ++ [y], accD ++ [dy], rest', upd_same, (Rps.carry cU _ _ rA5).append (.one (Rp.carry cU _ _ ry)), hr', by rw [List.append_assoc]; exact hax, by rw [List.length_append]; simp; omega⟩
            | _ => exact absurd hr (by simp)
    · rintro H2 ⟨s2, accV, accD, rest, eL, rA, hr, hax, _⟩
      rw [List.drop_length] at hr
      cases hr
      rw [List.append_nil] at hax
      subst hax
      refine p1 _ H2 s2 ⟨L, rfl, Same.free s1 nL, accV, eL, ?_⟩
      rw [avT] at rA
      exact rA
theorem vf_comp {elt iter : Expr} {ifs : List Expr} {scope : Scope} {own : List (Str × Nat)} {src : DXs} {gd : D → DEnv → Option DEnv} {tt fe : DX} {sl : List Nat} (hc : X.calm = true) (hN : X.N.Nodup) (hi : VI X W md bo na tg iter src) (ok : BlkOk X.N X.env.scope scope own)
    (hsh : shAll md (own.map (·.2)) = true) (hsl : ∀ j ∈ sl, j ∈ own.map (·.2))
    (hg : ∀ (s : Shared) (H : Hp) (C : Addr) (cl : List (Str × Addr)) (fp : List Addr), VG (X.blk s H scope (compEnvC scope cl C X.env) fp) md na tg gd sl)
    (ht : ∀ (s : Shared) (H : Hp) (C : Addr) (cl : List (Str × Addr)) (fp : List Addr), VTs (X.blk s H scope (compEnvC scope cl C X.env) fp) W0 md ifs tt)
    (he : ∀ (s : Shared) (H : Hp) (C : Addr) (cl : List (Str × Addr)) (fp : List Addr), VE (X.blk s H scope (compEnvC scope cl C X.env) fp) W0 md true nw elt fe) (hs : ∀ x, foldedSetIterable iter X.env x = pure x) :
    VF X W md nw (.ListComp elt [⟨tg, iter, ifs, 0⟩] scope pos) (dComp src gd tt fe (own.map (·.2))) :=
  ⟨(pe_lc (g := tDG X.K md na gd sl) (tt := tDT X.K X.mg W0 md tt) (te := tD X.K X.mg W0 md true nw fe) hc hN hi.run ok (fun s H C cl fp => (hg s H C cl fp).run) (fun s H C cl fp => (ht s H C cl fp).run) (fun s H C cl fp => (he s H C cl fp).run) hs).imp fun σ H Q h => comp_reading hsh hsl h⟩
end
end Dl

/-! Dl7: statements, loops. -/
namespace Dl
open PySem PySem.Spec PyProof.Rows L2 RZ RT

/-! ### slots changed -/
section
variable {K : PySem.W.Frag} {md : Mds} {T : Pred} {H0 B B' H H' H1 : Hp} {σ : L2.St} {env : DEnv}
theorem ownAt_kill {i j : Nat} {a : Addr} (o : OwnAt md σ (env.set i none) j a) : OwnAt md σ env j a := by
  obtain ⟨h1, ⟨d, h2, hl⟩, h3⟩ := o
  exact ⟨h1, ⟨d, (kill_lookup h2).2, hl⟩, h3⟩
theorem avd_kill {i : Nat} {nw : Bool} {a : Addr} (h : Avd md σ (env.set i none) T H0 nw a) : Avd md σ env T H0 nw a := by
  rcases h with ⟨j, o⟩ | h
  · exact .inl ⟨j, ownAt_kill o⟩
  · exact .inr h
/-- a slot forgotten, owned or not -/
theorem Rel.killAny (R : Rel K md T H0 B H σ env) (i : Nat) : Rel K md T H0 B H σ (env.set i none) := by
  refine ⟨R.s0, R.sB, R.tB, by simp [R.len], fun j d' e hd => ?_, fun j a o => R.out j a (ownAt_kill o), fun j k a o o' => R.sep j k a (ownAt_kill o) (ownAt_kill o'), fun j a o => R.tO j a (ownAt_kill o), R.st, R.tM, fun j d' e hd => R.deep j d' (kill_lookup e).2 hd⟩
  obtain ⟨hj, e⟩ := kill_lookup e
  obtain ⟨v, ev, q⟩ := R.slot j d' e hd
  refine ⟨v, ev, ?_⟩
  unfold SlotOk at *
  split at q
  · next h => rw [if_pos h]; exact q.carry (.weak fun _ => avd_kill) fun _ _ _ _ u => u
  · next h => rw [if_neg h]; exact q.weak fun _ => avd_kill
def killD (env : DEnv) (ks : List Nat) : DEnv := ks.foldl (fun e i => e.set i none) env
theorem Rel.killD (R : Rel K md T H0 B H σ env) (ks : List Nat) : Rel K md T H0 B H σ (Dl.killD env ks) := by
  induction ks generalizing env with
  | nil => exact R
  | cons k ks ih => exact ih (R.killAny k)
/-- an owned list or dict changed -/
theorem ownAt_some {i : Nat} {d' d : D} {j : Nat} {a : Addr} (hi : env[i]? = some (some d)) (hl0 : isLD d = true) (hl1 : isLD d' = true) : OwnAt md σ (env.set i (some d')) j a ↔ OwnAt md σ env j a := by
  unfold OwnAt
  by_cases h : j = i
  · subst h
    have hl : j < env.length := (List.getElem?_eq_some_iff.mp hi).1
    rw [List.getElem?_set_self hl, hi]
    constructor
    · rintro ⟨x, _, y⟩; exact ⟨x, ⟨d, rfl, hl0⟩, y⟩
    · rintro ⟨x, _, y⟩; exact ⟨x, ⟨d', rfl, hl1⟩, y⟩
  · rw [List.getElem?_set_ne (Ne.symm h)]
theorem avd_some {i : Nat} {d' d : D} (hi : env[i]? = some (some d)) (hl0 : isLD d = true) (hl1 : isLD d' = true) {nw : Bool} : Avd md σ (env.set i (some d')) T H0 nw = Avd md σ env T H0 nw := by
  funext a
  unfold Avd
  simp only [ownAt_some hi hl0 hl1]
theorem carry_upd {A : Pred} {a : Addr} {o u : HO} (e : H a = some u) (m : isMutO u = true) (hA : A a) : Carry K H (upd H a o) A A := by
  refine Carry.stay (O := fun b => b = a) (fun b z => by subst z; exact ⟨u, e, m⟩) (fun b z => by subst z; exact hA) fun b w n eb => ?_
  rw [upd_ne n]
  exact eb
theorem Rel.upd (R : Rel K md T H0 B H σ env) {i : Nat} {a : Addr} {d d' : D} (hi : env[i]? = some (some d)) (ho : OwnAt md σ env i a) {o : HO} (t : Top K (L2.upd H a o) (Avd md σ env T H0 (mdAt md i).nw) a d') : Rel K md T H0 B (L2.upd H a o) σ (env.set i (some d')) := by
  obtain ⟨u, eu, mu⟩ := R.ownMut ⟨i, ho⟩
  have av : ∀ nw, Avd md σ env T H0 nw a := fun nw => .inl ⟨i, ho⟩
  have hB : B a = none := R.out i a ho
  have hl1 : isLD d' = true := t.ld
  have hl0 : isLD d = true := by
    obtain ⟨_, ⟨d2, e2, hl⟩, _⟩ := ho
    rw [hi] at e2
    cases e2
    exact hl
  refine ⟨R.s0, fun b w eb => ?_, fun b h => ?_, by simp [R.len], fun j d2 e hd => ?_, fun j b o => R.out j b ((ownAt_some hi hl0 hl1).mp o), fun j k b o o' => R.sep j k b ((ownAt_some hi hl0 hl1).mp o) ((ownAt_some hi hl0 hl1).mp o'), fun j b o => R.tO j b ((ownAt_some hi hl0 hl1).mp o), R.st, fun b h hn => ?_, fun j d2 e hd => ?_⟩
  · have nb : b ≠ a := fun z => by subst z; rw [hB] at eb; cases eb
    rw [upd_ne nb]
    exact R.sB b w eb
  · by_cases z : b = a
    · subst z; exact ⟨o, upd_same⟩
    · rw [upd_ne z]; exact R.tB b h
  rotate_left
  · have z : b ≠ a := fun z => by subst z; exact R.tO i b ho h
    rw [upd_ne z]
    exact R.tM b h hn
  · have hj : j ≠ i := fun z => by subst z; exact hd (R.st.od j ho.1)
    rw [List.getElem?_set_ne (Ne.symm hj)] at e
    obtain ⟨v, ev, q⟩ := R.deep j d2 e hd
    have nA : ¬ T a := R.tO i a ho
    refine ⟨v, ev, q.carry (carry_upd eu mu fun z => nA z.1) fun b u h e => ⟨by rw [upd_ne fun z => by subst z; exact nA h.1]; exact e, h⟩⟩
  · rw [avd_some hi hl0 hl1]
    by_cases z : j = i
    · subst z
      have hl : j < env.length := (List.getElem?_eq_some_iff.mp hi).1
      rw [List.getElem?_set_self hl] at e
      cases e
      refine ⟨_, ho.2.2, ?_⟩
      unfold SlotOk
      rw [if_pos ho.1]
      exact .ofTop t
    · rw [List.getElem?_set_ne (Ne.symm z)] at e
      obtain ⟨v, ev, q⟩ := R.slot j d2 e hd
      refine ⟨v, ev, ?_⟩
      unfold SlotOk at *
      split at q
      · next h =>
        rw [if_pos h]
        refine q.carry (carry_upd eu mu (av _)) fun b w e1 hl eb => ?_
        subst e1
        have nb : b ≠ a := fun y => by
          subst y
          exact z (R.sep j i b ⟨h, ⟨d2, e, hl⟩, ev⟩ ho)
        rw [upd_ne nb]
        exact eb
      · next h => rw [if_neg h]; exact Rp.carry (carry_upd eu mu (av _)) d2 v q
/-- a new list or dict into a slot -/
theorem Rel.setOwn (R : Rel K md T H0 B H σ env) (s : Same H H') {i : Nat} {p : Addr} {d : D} {nw : Bool} (ho : (mdAt md i).own = true) (hw : ((mdAt md i).nw && !nw) = false) (n : H p = none) (t : Top K H' (fun a => Avd md σ env T H0 nw a ∨ a = p) p d) :
    Rel K md T H0 B H' (σ.set i (some (.ref p))) (env.set i (some d)) := by
  have R' := R.same s
  have own : ∀ {j a}, OwnAt md (σ.set i (some (.ref p))) (env.set i (some d)) j a → (j ≠ i ∧ OwnAt md σ env j a) ∨ (j = i ∧ a = p) := fun {j a} o => by
    obtain ⟨h1, ⟨d', h2, hl'⟩, h3⟩ := o
    by_cases z : j = i
    · subst z
      refine .inr ⟨rfl, ?_⟩
      by_cases hl : j < σ.length
      · rw [List.getElem?_set_self hl] at h3
        cases h3
        rfl
      · rw [List.getElem?_eq_none (by simpa using hl)] at h3
        cases h3
    · rw [List.getElem?_set_ne (Ne.symm z)] at h2 h3
      exact .inl ⟨z, h1, ⟨d', h2, hl'⟩, h3⟩
  have av : ∀ {m a}, Avd md (σ.set i (some (.ref p))) (env.set i (some d)) T H0 m a → Avd md σ env T H0 m a ∨ a = p := fun {m a} h => by
    rcases h with ⟨j, o⟩ | h
    · rcases own o with ⟨_, o⟩ | ⟨_, e⟩
      · exact .inl (.inl ⟨j, o⟩)
      · exact .inr e
    · exact .inl (.inr h)
  have nB : B p = none := by
    cases e : B p with
    | none => rfl
    | some u => rw [R.sB _ _ e] at n; cases n
  -- the values that stood
  have car : ∀ m, Carry K H H' (Avd md σ env T H0 m) (Avd md (σ.set i (some (.ref p))) (env.set i (some d)) T H0 m) := fun m =>
    ⟨fun a xs e => s _ _ e, fun a xs e => SqT.same s e, fun a xs e => SqF.same s e, fun a xs na e => ⟨fun z => (av z).elim na (fun y => ne_of_none e n y), s _ _ e⟩, fun a u na e => ⟨fun z => (av z).elim na fun y => Rd.ne e n y, Rd.same s e⟩⟩
  refine ⟨R.s0, R'.sB, R'.tB, by simp [R.len], fun j d2 e hd => ?_, fun j a o => ?_, fun j k a o o' => ?_, fun j a o => ?_, R.st, R'.tM, fun j d2 e hd => by
    have hj : j ≠ i := fun z => by subst z; exact hd (R.st.od j ho)
    rw [List.getElem?_set_ne (Ne.symm hj)] at e
    rw [List.getElem?_set_ne (Ne.symm hj)]
    exact R'.deep j d2 e hd⟩
  · by_cases z : j = i
    · subst z
      by_cases hl : j < env.length
      · rw [List.getElem?_set_self hl] at e
        cases e
        refine ⟨_, List.getElem?_set_self (by rw [R.len]; exact hl), ?_⟩
        unfold SlotOk
        rw [if_pos ho]
        refine .ofTop (t.carry (.weak fun a z => ?_) fun _ u => u)
        rcases av z with z | z
        · refine .inl (Avd.mono (fun e => ?_) z)
          rw [e] at hw
          simpa using hw
        · exact .inr z
      · rw [List.getElem?_eq_none (by simpa using hl)] at e
        cases e
    · rw [List.getElem?_set_ne (Ne.symm z)] at e
      obtain ⟨v, ev, q⟩ := R.slot j d2 e hd
      refine ⟨v, by rw [List.getElem?_set_ne (Ne.symm z)]; exact ev, ?_⟩
      unfold SlotOk at *
      split at q
      · next h => rw [if_pos h]; exact q.carry (car _) fun a u _ _ => s a u
      · next h => rw [if_neg h]; exact Rp.carry (car _) d2 v q
  · rcases own o with ⟨_, o⟩ | ⟨_, e⟩
    · exact R.out j a o
    · subst e; exact nB
  · rcases own o with ⟨hj, o1⟩ | ⟨hj, e⟩ <;> rcases own o' with ⟨hk, o2⟩ | ⟨hk, e'⟩
    · exact R.sep j k a o1 o2
    · obtain ⟨u, eu⟩ := R.ownThere o1
      rw [e', n] at eu
      cases eu
    · obtain ⟨u, eu⟩ := R.ownThere o2
      rw [e, n] at eu
      cases eu
    · rw [hj, hk]
  · rcases own o with ⟨_, o⟩ | ⟨_, e⟩
    · exact R.tO j a o
    · subst e
      intro z
      obtain ⟨u, eu⟩ := R.tB _ z
      rw [n] at eu
      cases eu
theorem imm_ld {d : D} (h : imm d = true) : isLD d = false := by cases d <;> first | rfl | (unfold imm at h; cases h)
/-- a value without lists into a slot, owned or not -/
theorem Rel.setI (R : Rel K md T H0 B H σ env) {i : Nat} {v : V} {d : D} (hp : (mdAt md i).dp = 0) (im : imm d = true) (q : ∀ A, Rp K H A v d) : Rel K md T H0 B H (σ.set i (some v)) (env.set i (some d)) := by
  cases ho : (mdAt md i).own with
  | false => exact R.setShared ho hp (q _)
  | true =>
    have hl := imm_ld im
    have own : ∀ {j a}, OwnAt md (σ.set i (some v)) (env.set i (some d)) j a → j ≠ i ∧ OwnAt md σ env j a := fun {j a} o => by
      obtain ⟨h1, ⟨d', h2, hl'⟩, h3⟩ := o
      by_cases z : j = i
      · subst z
        by_cases hlt : j < env.length
        · rw [List.getElem?_set_self hlt] at h2
          cases h2
          rw [hl] at hl'
          cases hl'
        · rw [List.getElem?_eq_none (by simpa using hlt)] at h2
          cases h2
      · rw [List.getElem?_set_ne (Ne.symm z)] at h2 h3
        exact ⟨z, h1, ⟨d', h2, hl'⟩, h3⟩
    have av : ∀ {m a}, Avd md (σ.set i (some v)) (env.set i (some d)) T H0 m a → Avd md σ env T H0 m a := fun {m a} h => by
      rcases h with ⟨j, o⟩ | h
      · exact .inl ⟨j, (own o).2⟩
      · exact .inr h
    refine ⟨R.s0, R.sB, R.tB, by simp [R.len], fun j d2 e hd => ?_, fun j a o => R.out j a (own o).2, fun j k a o o' => R.sep j k a (own o).2 (own o').2, fun j a o => R.tO j a (own o).2, R.st, R.tM, fun j d2 e hd => ?_⟩
    · by_cases z : j = i
      · subst z
        by_cases hlt : j < env.length
        · rw [List.getElem?_set_self hlt] at e
          cases e
          refine ⟨v, List.getElem?_set_self (by rw [R.len]; exact hlt), ?_⟩
          unfold SlotOk
          rw [if_pos ho]
          exact ⟨(fun z => by rw [hl] at z; cases z), fun _ => ⟨im, q _⟩⟩
        · rw [List.getElem?_eq_none (by simpa using hlt)] at e
          cases e
      · rw [List.getElem?_set_ne (Ne.symm z)] at e
        obtain ⟨w, ev, q2⟩ := R.slot j d2 e hd
        refine ⟨w, by rw [List.getElem?_set_ne (Ne.symm z)]; exact ev, ?_⟩
        unfold SlotOk at *
        split at q2
        · next h => rw [if_pos h]; exact q2.carry (.weak fun _ => av) fun _ _ _ _ u => u
        · next h => rw [if_neg h]; exact q2.weak fun _ => av
    · have hj : j ≠ i := fun z => by subst z; exact hd hp
      rw [List.getElem?_set_ne (Ne.symm hj)] at e
      rw [List.getElem?_set_ne (Ne.symm hj)]
      exact R.deep j d2 e hd
/-- another base -/
theorem Rel.unbase (R : Rel K md T H0 B' H σ env) (s0 : ∀ a o, H0 a = some o → ∃ u, B a = some u) (s : Same B B') : Rel K md T H0 B H σ env :=
  ⟨s0, s.trans R.sB, R.tB, R.len, R.slot, fun i a o => (by
    cases e : B a with
    | none => rfl
    | some u =>
      have := R.out i a o
      rw [s _ _ e] at this
      cases this), R.sep, R.tO, R.st, R.tM, fun i d e hd => (by
    obtain ⟨v, ev, q⟩ := R.deep i d e hd
    have w : ∀ a, B' a = none → B a = none := fun a n => by
      cases e : B a with
      | none => rfl
      | some u => rw [s _ _ e] at n; cases n
    exact ⟨v, ev, q.carry (.weak fun a na z => na ⟨z.1, w a z.2⟩) fun a u h e => ⟨e, h.1, w a h.2⟩⟩)⟩
open Classical in
noncomputable def baseOf (O : Pred) (H : Hp) : Hp := fun a => if O a then none else H a
theorem baseOf_none {O : Pred} {a : Addr} (h : O a) : baseOf O H a = none := by unfold baseOf; rw [if_pos h]
theorem baseOf_some {O : Pred} {a : Addr} (h : ¬ O a) : baseOf O H a = H a := by unfold baseOf; rw [if_neg h]
theorem Rel.rebase (R : Rel K md T H0 B H σ env) : Rel K md T H0 (baseOf (WrP md σ env T B) H) H σ env ∧ Same B (baseOf (WrP md σ env T B) H) := by
  have sB : Same B (baseOf (WrP md σ env T B) H) := fun a o e => by
    have no : ¬ WrP md σ env T B a := fun z => by
      rcases z with ⟨i, z⟩ | ⟨_, z⟩
      · have := R.out i a z
        rw [e] at this
        cases this
      · rw [e] at z
        cases z
    rw [baseOf_some no]
    exact R.sB _ _ e
  refine ⟨⟨fun a o e => ?_, fun a o e => ?_, R.tB, R.len, R.slot, fun i a o => baseOf_none (.inl ⟨i, o⟩), R.sep, R.tO, R.st, R.tM, fun i d e hd => ?_⟩, sB⟩
  · obtain ⟨u, e⟩ := R.s0 a o e
    exact ⟨u, sB _ _ e⟩
  · by_cases z : WrP md σ env T B a
    · rw [baseOf_none z] at e; cases e
    · rw [baseOf_some z] at e; exact e
  · obtain ⟨v, ev, q⟩ := R.deep i d e hd
    exact ⟨v, ev, q.carry (.weak fun a na z => na ⟨z.1, baseOf_none (.inr z)⟩) fun a u h e => ⟨e, h.1, baseOf_none (.inr h)⟩⟩
end

/-! ### statements -/
structure TIn (T0 : Pred) (B : Hp) (T : Pred) : Prop where
  le : ∀ a, T0 a → T a
  out : ∀ a, T a → T0 a ∨ B a = none
  old : ∀ a, T0 a → ∃ u, B a = some u
theorem TIn.refl {T : Pred} {B : Hp} (o : ∀ a, T a → ∃ u, B a = some u) : TIn T B T := ⟨fun _ z => z, fun _ z => .inl z, o⟩
theorem TIn.unbase {T0 T : Pred} {B B' : Hp} (t : TIn T0 B' T) (o : ∀ a, T0 a → ∃ u, B a = some u) (s : Same B B') : TIn T0 B T := ⟨t.le, fun a z => (t.out a z).imp id fun n => (by
  cases e : B a with
  | none => rfl
  | some u => rw [s _ _ e] at n; cases n), o⟩
theorem TIn.rebase {K : PySem.W.Frag} {T0 T : Pred} {H0 B H : Hp} {md : Mds} {σ : L2.St} {env : DEnv} (t : TIn T0 B T) (R : Rel K md T H0 B H σ env) : TIn T0 (baseOf (WrP md σ env T B) H) T := ⟨t.le, fun a z => (t.out a z).imp id fun n => baseOf_none (.inr ⟨z, n⟩), fun a z => by
  obtain ⟨u, e⟩ := t.old a z
  have no : ¬ WrP md σ env T B a := fun y => by
    rcases y with ⟨i, y⟩ | ⟨_, y⟩
    · exact R.tO i a y (t.le a z)
    · rw [e] at y; cases y
  exact ⟨u, by rw [baseOf_some no]; exact R.sB _ _ e⟩⟩
/-- T0: what a value handed back must be beyond (at the entry); T: the same now, with what has come -/
def SP0 (K : PySem.W.Frag) (mg : Str → Option Value) (W : WX) (md : Mds) (fr : Bool) (T0 : Pred) (H0 B : Hp) (o : Out) (D : Ends) : Prop := match o with
  | .nx env' => ∀ T σ' H', TIn T0 B T → Rel K md T H0 B H' σ' env' → D.nx σ' H'
  | .bk env' => ∀ T σ' H', TIn T0 B T → Rel K md T H0 B H' σ' env' → D.bk σ' H'
  | .ct env' => ∀ T σ' H', TIn T0 B T → Rel K md T H0 B H' σ' env' → D.ct σ' H'
  | .rt d => ∀ v H', Same B H' → FR fr K H0 H' T0 v d → D.rt v H'
  | .exc c fs env' => ∀ T cls dd σ' H', TIn T0 B T → Rel K md T H0 B H' σ' env' → ExcAt K mg H' c fs cls dd → W cls dd σ' H'
  | .bad => False
def tS (K : PySem.W.Frag) (mg : Str → Option Value) (W : WX) (md : Mds) (fr : Bool) (f : DS) : TS := fun D σ H => ∃ (T0 T : Pred) (H0 B : Hp) (env : DEnv), TIn T0 B T ∧ Rel K md T H0 B H σ env ∧ SP0 K mg W md fr T0 H0 B (f env) D
structure VS (X : Cx) (W : WX) (md : Mds) (fr : Bool) (st : Stmt) (f : DS) : Prop where
  run : PS X st (tS X.K X.mg W md fr f)
structure VSs (X : Cx) (W : WX) (md : Mds) (fr : Bool) (sts : List Stmt) (f : DS) : Prop where
  run : PSs X sts (tS X.K X.mg W md fr f)
theorem _root_.L2.PS.imp {X : Cx} {e : Stmt} {t t' : TS} (h : PS X e t) (i : ∀ D σ H, t' D σ H → t D σ H) : PS X e t' := ⟨fun pins s σ H D I w => h.run pins s σ H D I (i D σ H w)⟩
theorem _root_.L2.PSs.imp {X : Cx} {e : List Stmt} {t t' : TS} (h : PSs X e t) (i : ∀ D σ H, t' D σ H → t D σ H) : PSs X e t' := ⟨fun pins s σ H D I w => h.run pins s σ H D I (i D σ H w)⟩
def RG.out {α : Type} (r : RG α) (env : DEnv) (k : α → Out) : Out := match r with
  | .ok a => k a
  | .exc c fs => .exc c fs env
  | .bad => .bad
section
variable {X : Cx} {W : WX} {md : Mds} {fr st nw sa na sb nb bo : Bool} {e a b tg : Expr} {f fa fb : DX} {pos : Pos} {es : List Expr} {fs : DXs} {g h : DS} {s1 : Stmt} {ss : List Stmt}
variable {T0 T : Pred} {H0 B H H' : Hp} {σ : L2.St} {env : DEnv} {K : PySem.W.Frag} {mg : Str → Option Value}
/-- from a statement's outcome to the outcome of an expression in it -/
theorem out_of {α β : Type} {r : RG α} {k : α → Out} {D : Ends} (t0 : TIn T0 B T) (R : Rel K md T H0 B H σ env) (p : SP0 K mg W md fr T0 H0 B (r.out env k) D) : EP0 (β := β) K mg W σ H r fun a _ H' => SP0 K mg W md fr T0 H0 B (k a) D := by
  cases r with
  | ok a => exact fun _ _ _ => p
  | exc c fs => exact fun cls dd H' s x => p T cls dd σ H' t0 (R.same s) x
  | bad => exact p
def dNext : DS := fun env => .nx env
def dSeq (f g : DS) : DS := fun env => match f env with
  | .nx e => g e
  | o => o
theorem vs_nil : VSs X W md fr [] dNext := ⟨pss_nil.imp fun D σ H ⟨T0, T, H0, B, env, t0, R, p⟩ => p T σ H t0 R⟩
theorem vs_cons (h1 : VS X W md fr s1 g) (h2 : VSs X W md fr ss h) : VSs X W md fr (s1 :: ss) (dSeq g h) := ⟨(pss_cons h1.run h2.run).imp fun D σ H ⟨T0, T, H0, B, env, t0, R, p⟩ => ⟨T0, T, H0, B, env, t0, R, by
  unfold dSeq at p
  cases e : g env with
  | nx env' => rw [e] at p; exact fun T' σ' H' t' R' => ⟨T0, T', H0, B, env', t', R', p⟩
  | _ => rw [e] at p; exact p⟩⟩
theorem vs_pass : VS X W md fr (.Pass pos) dNext := ⟨ps_pass.imp fun D σ H ⟨T0, T, H0, B, env, t0, R, p⟩ => p T σ H t0 R⟩
def dBreak : DS := fun env => .bk env
def dCont : DS := fun env => .ct env
theorem vs_break : VS X W md fr (.Break pos) dBreak := ⟨ps_break.imp fun D σ H ⟨T0, T, H0, B, env, t0, R, p⟩ => p T σ H t0 R⟩
theorem vs_cont : VS X W md fr (.Continue pos) dCont := ⟨ps_continue.imp fun D σ H ⟨T0, T, H0, B, env, t0, R, p⟩ => p T σ H t0 R⟩
def dDrop (f : DX) : DS := fun env => (f env).out env fun _ => .nx env
theorem vs_expr (he : VE X W md st nw e f) (hs : swapsWith e none pos.line X.env = pure false) : VS X W md fr (.Expr e pos) (dDrop f) :=
  ⟨(ps_expr he.run hs).imp fun D σ H ⟨T0, T, H0, B, env, t0, R, p⟩ => ⟨T, H0, B, env, R, (out_of t0 R p).mono fun d v H' s _ q _ => q T σ H' t0 (R.same s)⟩⟩
def dSet (i : Nat) (f : DX) : DS := fun env => (f env).out env fun d => .nx (env.set i (some d))
theorem vs_set {i : Nat} {x : Str} {pos' : Pos} (hN : X.N.Nodup) (hi : X.N[i]? = some x) (hx : Loc X.env.scope x) (hf : X.fn x = true ∨ X.env.scope.names.lookup x = some .local) (he : VE X W md true nw e f) (hs : swapsWith e (some (.Name x pos')) pos.line X.env = pure false)
    (ho : (mdAt md i).own = false) (hp : (mdAt md i).dp = 0) (hw : ((mdAt md i).nw && !nw) = false) : VS X W md fr (.Assign [.Name x pos'] e pos) (dSet i f) :=
  ⟨(ps_set hN hi hx he.run hs hf).imp fun D σ H ⟨T0, T, H0, B, env, t0, R, p⟩ => ⟨T, H0, B, env, R, (out_of t0 R p).mono fun d v H' s _ q r => q T _ H' t0 ((R.same s).setShared ho hp (r.strict.weak fun a z => Avd.mono (fun e => by rw [e] at hw; simpa using hw) z))⟩⟩
theorem set_reading {i : Nat} {D : Ends} (ho : (mdAt md i).own = true) (hw : ((mdAt md i).nw && !nw) = false) (w : tS K mg W md fr (dSet i f) D σ H) : tDF K mg W md nw f σ H fun v H' => gName i v σ H' D.nx := by
  obtain ⟨T0, T, H0, B, env, t0, R, p⟩ := w
  exact ⟨T, H0, B, env, R, (out_of t0 R p).mono fun d v H' s _ q ⟨x, ex, nx, t⟩ => by subst ex; exact q T _ H' t0 (R.setOwn s ho hw nx t)⟩
theorem set_readingS {i : Nat} {D : Ends} (ho : (mdAt md i).own = false) (hp : (mdAt md i).dp = 0) (hw : ((mdAt md i).nw && !nw) = false) (w : tS K mg W md fr (dSet i f) D σ H) : tDF K mg W md nw f σ H fun v H' => gName i v σ H' D.nx := by
  obtain ⟨T0, T, H0, B, env, t0, R, p⟩ := w
  exact ⟨T, H0, B, env, R, (out_of t0 R p).mono fun d v H' s _ q ⟨x, ex, nx, t⟩ => by
    subst ex
    refine q T _ H' t0 ((R.same s).setShared ho hp ((t.rpA (newA (fun a z => R.avdThere z) nx)).weak fun a z => Avd.mono (fun e => ?_) z))
    rw [e] at hw
    simpa using hw⟩
theorem vs_setF {i : Nat} {x : Str} {pos' : Pos} (hN : X.N.Nodup) (hi : X.N[i]? = some x) (hx : Loc X.env.scope x) (hf : X.fn x = true ∨ X.env.scope.names.lookup x = some .local) (he : VF X W md nw e f) (hs : swapsWith e (some (.Name x pos')) pos.line X.env = pure false)
    (ho : (mdAt md i).own = true) (hw : ((mdAt md i).nw && !nw) = false) : VS X W md fr (.Assign [.Name x pos'] e pos) (dSet i f) :=
  ⟨(ps_set hN hi hx he.run hs hf).imp fun D σ H w => set_reading ho hw w⟩
/-- x = [..] on one line -/
theorem vs_setLc {i : Nat} {x : Str} {pos' : Pos} {elt iter : Expr} {ifs : List Expr} {scope : Scope} {own : List (Str × Nat)} {src : DXs} {gd : D → DEnv → Option DEnv} {tt fe : DX} {sl : List Nat} {spos : Pos} (hc : X.calm = true) (hN : X.N.Nodup) (hy : X.N[i]? = some x) (hyl : X.env.scope.names.lookup x = some .local)
    (hsw : swapsWith (.ListComp elt [⟨tg, iter, ifs, 0⟩] scope pos) (some (.Name x pos')) spos.line X.env = pure true) (hi : VI X W md bo na tg iter src) (ok : BlkOk X.N X.env.scope scope own)
    (hsh : shAll md (own.map (·.2)) = true) (hsl : ∀ j ∈ sl, j ∈ own.map (·.2))
    (hg : ∀ (s : Shared) (H : Hp) (C : Addr) (cl : List (Str × Addr)) (fp : List Addr), VG (X.blk s H scope (compEnvC scope cl C X.env) fp) md na tg gd sl)
    (ht : ∀ (s : Shared) (H : Hp) (C : Addr) (cl : List (Str × Addr)) (fp : List Addr), VTs (X.blk s H scope (compEnvC scope cl C X.env) fp) W0 md ifs tt)
    (he : ∀ (s : Shared) (H : Hp) (C : Addr) (cl : List (Str × Addr)) (fp : List Addr), VE (X.blk s H scope (compEnvC scope cl C X.env) fp) W0 md true nw elt fe) (hs : ∀ x, foldedSetIterable iter X.env x = pure x)
    (hp : (mdAt md i).dp = 0) (hw : ((mdAt md i).nw && !nw) = false) : VS X W md fr (.Assign [.Name x pos'] (.ListComp elt [⟨tg, iter, ifs, 0⟩] scope pos) spos) (dSet i (dComp src gd tt fe (own.map (·.2)))) :=
  ⟨(ps_setLc (g := tDG X.K md na gd sl) (tt := tDT X.K X.mg W0 md tt) (te := tD X.K X.mg W0 md true nw fe) hc hN hy hyl hsw hi.run ok (fun s H C cl fp => (hg s H C cl fp).run) (fun s H C cl fp => (ht s H C cl fp).run) (fun s H C cl fp => (he s H C cl fp).run) hs).imp fun D σ H w =>
    comp_reading (bo := bo) hsh hsl (by
      cases ho : (mdAt md i).own with
      | true => exact set_reading ho hw w
      | false => exact set_readingS ho hp hw w)⟩
/-- a value without lists -/
theorem vs_setI {i : Nat} {x : Str} {pos' : Pos} (hN : X.N.Nodup) (hi : X.N[i]? = some x) (hx : Loc X.env.scope x) (hf : X.fn x = true ∨ X.env.scope.names.lookup x = some .local) (he : VE X W md st nw e f) (hs : swapsWith e (some (.Name x pos')) pos.line X.env = pure false)
    (hp : (mdAt md i).dp = 0) : VS X W md fr (.Assign [.Name x pos'] e pos) (dSet i (dImm f)) :=
  ⟨(ps_set hN hi hx he.run hs hf).imp fun D σ H ⟨T0, T, H0, B, env, t0, R, p⟩ => ⟨T, H0, B, env, R, by
    unfold dSet dImm at p
    cases ef : f env with
    | bad => rw [ef] at p; exact p.elim
    | exc c fs => rw [ef] at p; exact fun cls dd H' s x => p T cls dd σ H' t0 (R.same s) x
    | ok d =>
      rw [ef] at p
      have p : SP0 X.K X.mg W md fr T0 H0 B ((if imm d then RG.ok d else RG.bad).out env fun d => .nx (env.set i (some d))) D := p
      by_cases im : imm d = true
      case neg => rw [if_neg im] at p; exact p.elim
      rw [if_pos im] at p
      exact fun v H' s r => p T _ H' t0 ((R.same s).setI hp im fun A => Rp.imm _ _ r.free im)⟩⟩
def dIfS (c : DX) (f g : DS) : DS := fun env => (c env).out env fun d => match d with
  | .bl true => f env
  | .bl false => g env
  | _ => .bad
theorem vs_if {c : Expr} {fc : DX} {b1 b2 : List Stmt} (hc : VT X W md c fc) (ha : VSs X W md fr b1 g) (hb : VSs X W md fr b2 h) : VS X W md fr (.If c b1 b2 pos) (dIfS fc g h) :=
  ⟨(ps_if hc.run ha.run hb.run).imp fun D σ H ⟨T0, T, H0, B, env, t0, R, p⟩ => ⟨T, H0, B, env, R, (out_of t0 R p).mono fun d v H' s _ q => by
    cases d with
    | bl k =>
      refine ⟨k, rfl, ?_⟩
      cases k with
      | true => exact ⟨T0, T, H0, B, env, t0, R.same s, q⟩
      | false => exact ⟨T0, T, H0, B, env, t0, R.same s, q⟩
    | _ => exact q.elim⟩⟩

/-! ### return -/
def dRet (f : DX) : DS := fun env => (f env).out env fun d => .rt d
theorem vs_ret (he : VE X W md true nw e f) : VS X W md false (.Return (some e) pos) (dRet f) :=
  ⟨(ps_ret he.run).imp fun D σ H ⟨T0, T, H0, B, env, t0, R, p⟩ => ⟨T, H0, B, env, R, (out_of t0 R p).mono fun d v H' s _ q r => q v H' (R.sB.trans s) (r.strict.weak fun a z => .inr (.inl (t0.le a z)))⟩⟩
theorem Rp.nonI {A : Pred} : Rp K H A .non .non := by unfold Rp; rfl
theorem FR.non : FR fr K H0 H T0 .non .non := by
  cases fr with
  | false => exact (Rp.nonI : Rp K H T0 .non .non)
  | true => exact (Rp.nonI : Rp K H (fun a => ∃ o, H0 a = some o) .non .non)
theorem vs_retN : VS X W md fr (.Return none pos) (fun _ => .rt .non) :=
  ⟨ps_retN.imp fun D σ H ⟨T0, T, H0, B, env, t0, R, p⟩ => p .non H R.sB FR.non⟩
theorem Rp.rpf {A : Pred} {v : V} {d : D} (r : Rp K H A v d) (n : isLD d = false) : Rpf K H A v d := by
  cases d with
  | lst _ => cases n
  | dic _ _ _ => cases n
  | _ => exact r
/-- a value that is no list or dict on top, nothing old within -/
def dRetV (f : DX) : DS := fun env => (f env).out env fun d => if isLD d then .bad else .rt d
theorem vs_retV (he : VE X W md true true e f) : VS X W md true (.Return (some e) pos) (dRetV f) :=
  ⟨(ps_ret he.run).imp fun D σ H ⟨T0, T, H0, B, env, t0, R, p⟩ => ⟨T, H0, B, env, R, (out_of t0 R p).mono fun d v H' s _ q r => by
    cases hl : isLD d with
    | true => rw [hl, if_pos rfl] at q; exact q.elim
    | false =>
      rw [hl, if_neg Bool.false_ne_true] at q
      exact q v H' (R.sB.trans s) (Rp.rpf (r.strict.weak fun a z => .inr (.inr ⟨rfl, z⟩)) hl)⟩⟩
/-- a value without lists and dicts -/
theorem vs_retI (he : VE X W md st nw e f) : VS X W md true (.Return (some e) pos) (dRet (dImm f)) :=
  ⟨(ps_ret he.imm.run).imp fun D σ H ⟨T0, T, H0, B, env, t0, R, p⟩ => ⟨T, H0, B, env, R, (out_of t0 R p).mono fun d v H' s eq q r => by
    have hi : imm d = true := by
      unfold dImm at eq
      cases e : f env with
      | ok d' =>
        rw [e] at eq
        have eq : (if imm d' then RG.ok d' else RG.bad) = RG.ok d := eq
        split at eq
        · next h => cases eq; exact h
        · cases eq
      | exc c fs => rw [e] at eq; cases eq
      | bad => rw [e] at eq; cases eq
    have hl : isLD d = false := by cases d <;> first | rfl | (unfold imm at hi; cases hi)
    exact q v H' (R.sB.trans s) (Rp.rpf (r.strict.weak fun a z => .inr (.inr ⟨rfl, z⟩)) hl)⟩⟩
theorem Top.rpf {A A' : Pred} {a : Addr} {d : D} (t : Top K H A a d) (m : ∀ b, A' b ∨ b = a → A b) (n : ¬ A' a) : Rpf K H A' (.ref a) d := by
  cases d with
  | lst ds => exact ⟨a, rfl, n, t.carry (.weak m) fun _ u => u⟩
  | dic b ks ws => exact ⟨a, rfl, n, t.carry (.weak m) fun _ u => u⟩
  | non => exact t.elim
  | bl _ => exact t.elim
  | int _ => exact t.elim
  | str _ => exact t.elim
  | tup _ => exact t.elim
  | frl _ => exact t.elim
  | ktp _ => exact t.elim
/-- a new list or dict -/
theorem vs_retF (he : VF X W md true e f) : VS X W md true (.Return (some e) pos) (dRet f) :=
  ⟨(ps_ret he.run).imp fun D σ H ⟨T0, T, H0, B, env, t0, R, p⟩ => ⟨T, H0, B, env, R, (out_of t0 R p).mono fun d v H' s _ q ⟨x, ex, nx, t⟩ => by
    subst ex
    refine q _ H' (R.sB.trans s) (t.rpf (fun b z => ?_) fun ⟨o, z⟩ => ?_)
    · rcases z with z | z
      · exact .inl (.inr (.inr ⟨rfl, z⟩))
      · exact .inr z
    · obtain ⟨u, z⟩ := R.s0 _ _ z
      rw [R.sB _ _ z] at nx
      cases nx⟩⟩
/-- an owned list or dict is handed back -/
theorem vs_retO {i : Nat} {x : Str} {p2 : Pos} (hN : X.N[i]? = some x) (hv : Vis X.env.scope x) (hd : (x == ("__debug__" : Str)) = false) (hcd : (x == ("__classdict__" : Str)) = false) (ho : (mdAt md i).own = true) (hw : (mdAt md i).nw = true) :
    VS X W md true (.Return (some (.Name x p2)) pos) (dRet (dVar i)) :=
  ⟨(ps_ret (pe_var hN hv hd hcd)).imp fun D σ H ⟨T0, T, H0, B, env, t0, R, p⟩ => by
    unfold dRet dVar at p
    cases e : env[i]? with
    | none => rw [e] at p; exact p.elim
    | some o =>
      cases o with
      | none => rw [e] at p; exact p.elim
      | some d =>
        rw [e] at p
        cases hl : isLD d with
        | false =>
          obtain ⟨v, ev, i, r⟩ := R.ownedI e ho hl
          exact ⟨_, ev, p _ H R.sB (Rp.rpf (Rp.imm _ _ r i) hl)⟩
        | true =>
        obtain ⟨a, ev, oa, t⟩ := R.owned e ho hl
        refine ⟨_, ev, p _ H R.sB (t.rpf (fun b z => ?_) fun ⟨o, z⟩ => ?_)⟩
        · rcases z with z | z
          · exact .inr (.inr ⟨hw, z⟩)
          · subst z; exact .inl ⟨i, oa⟩
        · obtain ⟨u, z⟩ := R.s0 _ _ z
          rw [R.out i a oa] at z
          cases z⟩
end
end Dl

/-! Dl8: loops, stores, defs. -/
namespace Dl
open PySem PySem.Spec PyProof.Rows L2 RZ RT
section
variable {X : Cx} {W : WX} {md : Mds} {fr st nw sa na sb nb bo : Bool} {e a b tg : Expr} {f fa fb : DX} {pos : Pos} {es : List Expr} {fs : DXs} {g h : DS} {s1 : Stmt} {ss : List Stmt}
variable {T0 T : Pred} {H0 B H H' : Hp} {σ : L2.St} {env : DEnv} {K : PySem.W.Frag} {mg : Str → Option Value}

/-! ### for -/
def forGo (gd : D → DEnv → Option DEnv) (body : DS) (ks : List Nat) : List D → DS
  | [], env => .nx env
  | d :: r, env => match gd d env with
    | none => .bad
    | some e1 => match body e1 with
      | .nx e2 => forGo gd body ks r (killD e2 ks)
      | .ct e2 => forGo gd body ks r (killD e2 ks)
      | .bk e2 => .nx e2
      | o => o
def dFor (src : DXs) (gd : D → DEnv → Option DEnv) (body : DS) (ks : List Nat) : DS := fun env => (src env).out env fun ds => forGo gd body ks ds env

theorem SP0.unbase {o : Out} {B' : Hp} {D : Ends} (s0 : ∀ a o, H0 a = some o → ∃ u, B a = some u) (o0 : ∀ a, T0 a → ∃ u, B a = some u) (s : Same B B') (p : SP0 K mg W md fr T0 H0 B o D) : SP0 K mg W md fr T0 H0 B' o D := by
  cases o with
  | nx e => exact fun T σ' H' t R => p T σ' H' (t.unbase o0 s) (R.unbase s0 s)
  | bk e => exact fun T σ' H' t R => p T σ' H' (t.unbase o0 s) (R.unbase s0 s)
  | ct e => exact fun T σ' H' t R => p T σ' H' (t.unbase o0 s) (R.unbase s0 s)
  | rt d => exact fun v H' s' q => p v H' (s.trans s') q
  | exc c fs e => exact fun T cls dd σ' H' t R x => p T cls dd σ' H' (t.unbase o0 s) (R.unbase s0 s) x
  | bad => exact p

theorem vs_for {iter : Expr} {body : List Stmt} {src : DXs} {gd : D → DEnv → Option DEnv} {sl ks : List Nat} (hp : PassesOwn (model X.prog X.w) X.A X.env X.xe) (hc : X.calm = true) (hi : VI X W md false na tg iter src) (hg : VG X md na tg gd sl) (hb : VSs X W md fr body g)
    (hs : ∀ x, foldedSetIterable iter X.env x = pure x) : VS X W md fr (.For tg iter body [] pos) (dFor src gd g ks) := by
  refine ⟨(ps_for hp hc hi.run hg.run hb.run hs).imp fun D σ H ⟨T0, T, H0, B, env, t0, R, p⟩ => ⟨T, H0, B, env, R, (out_of t0 R p).mono fun ds _ H1 s1 _ p1 => fun J it => ?_⟩⟩
  obtain ⟨G, Y, w, hG, hY⟩ := it.ex
  have R1 := R.same s1
  obtain ⟨Rb, sBB⟩ := R1.rebase
  have s0B := R.s0
  have nO : ∀ {a : Addr}, ¬ (False ∨ WrP md σ env T B a) → ¬ WrP md σ env T B a := fun z y => z (.inr y)
  have stay : ∀ {H2 : Hp}, Same (baseOf (WrP md σ env T B) H1) H2 → Stay (fun a => false = false ∧ WrP md σ env T B a) H1 H2 := fun s a o na e => s a o (by rw [baseOf_some (fun z => na ⟨rfl, z⟩)]; exact e)
  refine for_it w (fun i σ' H' => ∃ T' env', TIn T0 (baseOf (WrP md σ env T B) H1) T' ∧ Rel X.K md T' H0 (baseOf (WrP md σ env T B) H1) H' σ' env' ∧ SP0 X.K X.mg W md fr T0 H0 B (forGo gd g ks (ds.drop i) env') D) ⟨T, env, t0.rebase R1, Rb, p1⟩ (fun i σ' H' _ ⟨T', env', _, R', _⟩ => hG H' (stay R'.sB)) ?_ ?_
  · rintro i x σ2 H2 H3 hi ⟨T', env', t', R', q⟩ y
    obtain ⟨d, hd⟩ : ∃ d, ds[i]? = some d := ⟨ds[i], List.getElem?_eq_getElem hi⟩
    obtain ⟨s3, rx⟩ := hY i H2 x H3 d (stay R'.sB) y hd
    have rx := rx (fun a => H1 a = none) (fun a z => z)
    have hdrop : ds.drop i = d :: ds.drop (i + 1) := by
      obtain ⟨h1, h2⟩ := List.getElem?_eq_some_iff.mp hd
      rw [List.drop_eq_getElem_cons h1, h2]
    rw [hdrop] at q
    unfold forGo at q
    refine ⟨T', H0, _, env', d, R'.same s3, rx.weak fun a z => ?_, ?_⟩
    · have fin : baseOf (WrP md σ env T B) H1 a = none → Avd md σ env T H0 na a ∨ H1 a = none := fun this => by
        by_cases z : WrP md σ env T B a
        · exact .inl z.avd
        · rw [baseOf_some z] at this
          exact .inr this
      rcases z with ⟨j, o⟩ | z | z
      · exact fin (R'.out j a o)
      · rcases t'.out a z with z | z
        · exact .inl (.inr (.inl (t0.le a z)))
        · exact fin z
      · exact .inl (.inr (.inr z))
    · cases eg : gd d env' with
      | none => rw [eg] at q; exact q.elim
      | some e1 =>
        rw [eg] at q
        intro σ4 R4 a4 w4
        refine ⟨T0, T', H0, _, e1, t', R4, ?_⟩
        have q : SP0 X.K X.mg W md fr T0 H0 B (match g e1 with
          | .nx e2 => forGo gd g ks (ds.drop (i + 1)) (killD e2 ks)
          | .ct e2 => forGo gd g ks (ds.drop (i + 1)) (killD e2 ks)
          | .bk e2 => .nx e2
          | o => o) D := q
        cases eb : g e1 with
        | nx e2 => rw [eb] at q; exact fun T5 σ5 H5 t5 R5 => ⟨T5, killD e2 ks, t5, R5.killD ks, q⟩
        | ct e2 => rw [eb] at q; exact fun T5 σ5 H5 t5 R5 => ⟨T5, killD e2 ks, t5, R5.killD ks, q⟩
        | bk e2 => rw [eb] at q; exact fun T5 σ5 H5 t5 R5 => q T5 σ5 H5 (t5.unbase t0.old sBB) (R5.unbase s0B sBB)
        | rt d => rw [eb] at q; exact fun v H' s' z => q v H' (sBB.trans s') z
        | exc c fs e2 => rw [eb] at q; exact fun T5 cls dd σ' H' t5 R' x => q T5 cls dd σ' H' (t5.unbase t0.old sBB) (R'.unbase s0B sBB) x
        | bad => rw [eb] at q; exact q
  · rintro σ' H' ⟨T', env', t', R', q⟩
    rw [List.drop_length] at q
    exact q T' σ' H' (t'.unbase t0.old sBB) (R'.unbase s0B sBB)

/-- over an own list that is asked no more: it is gone behind the loop -/
def dForC (i : Nat) (gd : D → DEnv → Option DEnv) (body : DS) (ks : List Nat) : DS := fun env => match env[i]? with
  | some (some (.lst ds)) => forGo gd body ks ds (env.set i none)
  | _ => .bad
theorem vs_forC {i0 : Nat} {x0 : Str} {p0 : Pos} {body : List Stmt} {gd : D → DEnv → Option DEnv} {sl ks : List Nat} (hp : PassesOwn (model X.prog X.w) X.A X.env X.xe) (hc : X.calm = true) (hN : X.N[i0]? = some x0) (hv : Vis X.env.scope x0) (hd : (x0 == ("__debug__" : Str)) = false) (hcd : (x0 == ("__classdict__" : Str)) = false) (ho : (mdAt md i0).own = true)
    (hg : VG X md (mdAt md i0).nw tg gd sl) (hb : VSs X W md fr body g) (hs : ∀ x, foldedSetIterable (.Name x0 p0) X.env x = pure x) : VS X W md fr (.For tg (.Name x0 p0) body [] pos) (dForC i0 gd g ks) := by
  refine ⟨(ps_for hp hc (pi_list (tg := tg) (pe_var (pos := p0) hN hv hd hcd)) hg.run hb.run hs).imp fun D σ H1 ⟨T0, T, H0, B, env0, t0, R0, p⟩ => ?_⟩
  unfold dForC at p
  cases hl : env0[i0]? with
  | none => rw [hl] at p; exact p.elim
  | some o =>
  cases o with
  | none => rw [hl] at p; exact p.elim
  | some d0 =>
  cases d0 with
  | lst ds =>
    obtain ⟨a0, ev0, oa0, t00⟩ := R0.owned hl ho rfl
    rw [hl] at p
    have p1 : SP0 X.K X.mg W md fr T0 H0 B (forGo gd g ks ds (env0.set i0 none)) D := p
    obtain ⟨vs, ea, rs⟩ := t00
    have R1 := R0.killAny i0
    have av : ∀ {n b}, Avd md σ (env0.set i0 none) T H0 n b → Avd md σ env0 T H0 n b := fun {n b} h => by
      rcases h with ⟨k, o⟩ | h
      · exact .inl ⟨k, ownAt_kill o⟩
      · exact .inr h
    have nOwn : ¬ WrP md σ (env0.set i0 none) T B a0 := fun z => by
      rcases z with ⟨k, o⟩ | ⟨z, _⟩
      rotate_left
      · exact R0.tO _ _ oa0 z
      have e := R0.sep _ _ _ (ownAt_kill o) oa0
      subst e
      obtain ⟨_, ⟨d', h2, _⟩, _⟩ := o
      exact (kill_lookup h2).1 rfl
    have itd : ItD X.K (fun a => false = false ∧ WrP md σ (env0.set i0 none) T B a) (Avd md σ (env0.set i0 none) T H0 (mdAt md i0).nw) H1 (Itl X.K a0) ds :=
      itd_at walk_list (fun H2 z => SqL.of (z a0 _ (fun q => nOwn q.2) ea)) (rs.weak fun _ z => av z) (own_stay (bo := false) R1 (Same.refl _))
    refine ⟨_, ev0, a0, rfl, ⟨vs, SqL.of ea⟩, ?_⟩
    revert R1 p1 itd
    generalize env0.set i0 none = env
    intro p1 R1 it
    obtain ⟨G, Y, w, hG, hY⟩ := it.ex
    obtain ⟨Rb, sBB⟩ := R1.rebase
    have s0B := R1.s0
    have nO : ∀ {a : Addr}, ¬ (False ∨ WrP md σ env T B a) → ¬ WrP md σ env T B a := fun z y => z (.inr y)
    have stay : ∀ {H2 : Hp}, Same (baseOf (WrP md σ env T B) H1) H2 → Stay (fun a => false = false ∧ WrP md σ env T B a) H1 H2 := fun s a o na e => s a o (by rw [baseOf_some (fun z => na ⟨rfl, z⟩)]; exact e)
    refine for_it w (fun i σ' H' => ∃ T' env', TIn T0 (baseOf (WrP md σ env T B) H1) T' ∧ Rel X.K md T' H0 (baseOf (WrP md σ env T B) H1) H' σ' env' ∧ SP0 X.K X.mg W md fr T0 H0 B (forGo gd g ks (ds.drop i) env') D) ⟨T, env, t0.rebase R1, Rb, p1⟩ (fun i σ' H' _ ⟨T', env', _, R', _⟩ => hG H' (stay R'.sB)) ?_ ?_
    · rintro i x σ2 H2 H3 hi ⟨T', env', t', R', q⟩ y
      obtain ⟨d, hd⟩ : ∃ d, ds[i]? = some d := ⟨ds[i], List.getElem?_eq_getElem hi⟩
      obtain ⟨s3, rx⟩ := hY i H2 x H3 d (stay R'.sB) y hd
      have rx := rx (fun a => H1 a = none) (fun a z => z)
      have hdrop : ds.drop i = d :: ds.drop (i + 1) := by
        obtain ⟨h1, h2⟩ := List.getElem?_eq_some_iff.mp hd
        rw [List.drop_eq_getElem_cons h1, h2]
      rw [hdrop] at q
      unfold forGo at q
      refine ⟨T', H0, _, env', d, R'.same s3, rx.weak fun a z => ?_, ?_⟩
      · have fin : baseOf (WrP md σ env T B) H1 a = none → Avd md σ env T H0 (mdAt md i0).nw a ∨ H1 a = none := fun this => by
          by_cases z : WrP md σ env T B a
          · exact .inl z.avd
          · rw [baseOf_some z] at this
            exact .inr this
        rcases z with ⟨j, o⟩ | z | z
        · exact fin (R'.out j a o)
        · rcases t'.out a z with z | z
          · exact .inl (.inr (.inl (t0.le a z)))
          · exact fin z
        · exact .inl (.inr (.inr z))
      · cases eg : gd d env' with
        | none => rw [eg] at q; exact q.elim
        | some e1 =>
          rw [eg] at q
          intro σ4 R4 a4 w4
          refine ⟨T0, T', H0, _, e1, t', R4, ?_⟩
          have q : SP0 X.K X.mg W md fr T0 H0 B (match g e1 with
            | .nx e2 => forGo gd g ks (ds.drop (i + 1)) (killD e2 ks)
            | .ct e2 => forGo gd g ks (ds.drop (i + 1)) (killD e2 ks)
            | .bk e2 => .nx e2
            | o => o) D := q
          cases eb : g e1 with
          | nx e2 => rw [eb] at q; exact fun T5 σ5 H5 t5 R5 => ⟨T5, killD e2 ks, t5, R5.killD ks, q⟩
          | ct e2 => rw [eb] at q; exact fun T5 σ5 H5 t5 R5 => ⟨T5, killD e2 ks, t5, R5.killD ks, q⟩
          | bk e2 => rw [eb] at q; exact fun T5 σ5 H5 t5 R5 => q T5 σ5 H5 (t5.unbase t0.old sBB) (R5.unbase s0B sBB)
          | rt d => rw [eb] at q; exact fun v H' s' z => q v H' (sBB.trans s') z
          | exc c fs e2 => rw [eb] at q; exact fun T5 cls dd σ' H' t5 R' x => q T5 cls dd σ' H' (t5.unbase t0.old sBB) (R'.unbase s0B sBB) x
          | bad => rw [eb] at q; exact q
    · rintro σ' H' ⟨T', env', t', R', q⟩
      rw [List.drop_length] at q
      exact q T' σ' H' (t'.unbase t0.old sBB) (R'.unbase s0B sBB)

  | _ => rw [hl] at p; exact p.elim

/-! ### while: at most n turns -/
def whileGo (c : DX) (body : DS) (ks : List Nat) : Nat → DS
  | 0, _ => .bad
  | n + 1, env => (c env).out env fun d => match d with
    | .bl true => (match body env with
      | .nx e2 => whileGo c body ks n (killD e2 ks)
      | .ct e2 => whileGo c body ks n (killD e2 ks)
      | .bk e2 => .nx e2
      | o => o)
    | .bl false => .nx env
    | _ => .bad
theorem vs_while {c : Expr} {fc : DX} {body : List Stmt} {ks : List Nat} (n : Nat) (hp : PassesOwn (model X.prog X.w) X.A X.env X.xe) (hc : VT X W md c fc) (hb : VSs X W md fr body g) : VS X W md fr (.While c body [] pos) (whileGo fc g ks n) := by
  refine ⟨(ps_while hp hc.run hb.run).imp fun D σ H ⟨T0, T, H0, B, env, t0, R, p⟩ => ?_⟩
  refine ⟨fun m σ' H' => ∃ T' env', TIn T0 B T' ∧ Rel X.K md T' H0 B H' σ' env' ∧ SP0 X.K X.mg W md fr T0 H0 B (whileGo fc g ks m env') D, ⟨n, T, env, t0, R, p⟩, ?_⟩
  rintro m σ2 H2 ⟨T', env', t', R', q⟩
  cases m with
  | zero => exact q.elim
  | succ m =>
    refine ⟨T', H0, B, env', R', (out_of t' R' q).mono fun d v H3 s _ q => ?_⟩
    cases d with
    | bl k =>
      refine ⟨k, rfl, ?_⟩
      cases k with
      | false => exact q T' σ2 H3 t' (R'.same s)
      | true =>
        rw [if_pos rfl]
        refine ⟨fun σ' H' => ∃ T' env', TIn T0 B T' ∧ Rel X.K md T' H0 B H' σ' env' ∧ SP0 X.K X.mg W md fr T0 H0 B (whileGo fc g ks m env') D, fun σ' H' z => ⟨m, Nat.lt_succ_self _, z⟩, T0, T', H0, B, env', t', R'.same s, ?_⟩
        have q : SP0 X.K X.mg W md fr T0 H0 B (match g env' with
          | .nx e2 => whileGo fc g ks m (killD e2 ks)
          | .ct e2 => whileGo fc g ks m (killD e2 ks)
          | .bk e2 => .nx e2
          | o => o) D := q
        cases eb : g env' with
        | nx e2 => rw [eb] at q; exact fun T5 σ5 H5 t5 R5 => ⟨T5, killD e2 ks, t5, R5.killD ks, q⟩
        | ct e2 => rw [eb] at q; exact fun T5 σ5 H5 t5 R5 => ⟨T5, killD e2 ks, t5, R5.killD ks, q⟩
        | bk e2 => rw [eb] at q; exact q
        | rt d => rw [eb] at q; exact q
        | exc c fs e2 => rw [eb] at q; exact q
        | bad => rw [eb] at q; exact q
    | _ => exact q.elim

/-! ### a, b = e -/
def dUnp (gd : D → DEnv → Option DEnv) (f : DX) : DS := fun env => (f env).out env fun d => match gd d env with
  | some e => .nx e
  | none => .bad
theorem vs_unp {gd : D → DEnv → Option DEnv} {sl : List Nat} (he : VE X W md true nw e f) (hg : VG X md nw tg gd sl) (hs : swapsWithSole [tg] e pos.line X.env = pure false) (hw : swappedStores [tg] e X.env = pure none)
    (h1 : (assignEach [tg] X.env).map (·.2) = [assign tg X.env]) : VS X W md fr (.Assign [tg] e pos) (dUnp gd f) :=
  ⟨(ps_asg he.run hg.run hs hw h1).imp fun D σ H ⟨T0, T, H0, B, env, t0, R, p⟩ => ⟨T, H0, B, env, R, (out_of t0 R p).mono fun d v H' s _ q r => by
    refine ⟨T, H0, B, env, d, R.same s, r.strict, ?_⟩
    cases eg : gd d env with
    | none => rw [eg] at q; exact q.elim
    | some e1 => rw [eg] at q; exact fun σ' R' _ _ => q T σ' H' t0 R'⟩⟩
/-- a, b, .. = an own list that is asked no more -/
def dUnpC (i : Nat) (gd : D → DEnv → Option DEnv) : DS := fun env => match env[i]? with
  | some (some (.lst ds)) => (match gd (.lst ds) (env.set i none) with
    | some e => .nx e
    | none => .bad)
  | _ => .bad
theorem vs_unpC {i0 : Nat} {x0 : Str} {p0 : Pos} {gd : D → DEnv → Option DEnv} {sl : List Nat} (hN : X.N[i0]? = some x0) (hv : Vis X.env.scope x0) (hd : (x0 == ("__debug__" : Str)) = false) (hcd : (x0 == ("__classdict__" : Str)) = false) (ho : (mdAt md i0).own = true)
    (hg : VG X md (mdAt md i0).nw tg gd sl) (hs : swapsWithSole [tg] (.Name x0 p0) pos.line X.env = pure false) (hw : swappedStores [tg] (.Name x0 p0) X.env = pure none)
    (h1 : (assignEach [tg] X.env).map (·.2) = [assign tg X.env]) : VS X W md fr (.Assign [tg] (.Name x0 p0) pos) (dUnpC i0 gd) :=
  ⟨(ps_asg (pe_var (pos := p0) hN hv hd hcd) hg.run hs hw h1).imp fun D σ H ⟨T0, T, H0, B, env, t0, R, p⟩ => by
    unfold dUnpC at p
    cases hl : env[i0]? with
    | none => rw [hl] at p; exact p.elim
    | some o =>
    cases o with
    | none => rw [hl] at p; exact p.elim
    | some d0 =>
    cases d0 with
    | lst ds =>
      obtain ⟨a0, ev0, oa0, t00⟩ := R.owned hl ho rfl
      rw [hl] at p
      have p : SP0 X.K X.mg W md fr T0 H0 B (match gd (.lst ds) (env.set i0 none) with
        | some e => Out.nx e
        | none => Out.bad) D := p
      obtain ⟨vs, ea, rs⟩ := t00
      have av : ∀ {n b}, Avd md σ (env.set i0 none) T H0 n b → Avd md σ env T H0 n b := fun {n b} h => by
        rcases h with ⟨k, o⟩ | h
        · exact .inl ⟨k, ownAt_kill o⟩
        · exact .inr h
      have nA : ¬ Avd md σ (env.set i0 none) T H0 (mdAt md i0).nw a0 := fun h => by
        rcases h with ⟨k, o⟩ | h | ⟨_, u, z⟩
        · have e := R.sep _ _ _ (ownAt_kill o) oa0
          subst e
          obtain ⟨_, ⟨d', h2, _⟩, _⟩ := o
          exact (kill_lookup h2).1 rfl
        · exact R.tO _ _ oa0 h
        · obtain ⟨u', z⟩ := R.s0 _ _ z
          rw [R.out _ _ oa0] at z
          cases z
      refine ⟨_, ev0, T, H0, B, env.set i0 none, .lst ds, R.killAny i0, Rp.lst.mpr ⟨a0, vs, rfl, nA, ea, rs.weak fun _ z => av z⟩, ?_⟩
      cases eg : gd (.lst ds) (env.set i0 none) with
      | none => rw [eg] at p; exact p.elim
      | some e1 => rw [eg] at p; exact fun σ' R' _ _ => p T σ' H t0 R'
    | _ => rw [hl] at p; exact p.elim⟩

/-! ### x.append(e), x[k] = e of an owned x -/
def dApp (i : Nat) (f : DX) : DS := fun env => match env[i]? with
  | some (some (.lst ds)) => (f env).out env fun d => if ds.length < sizeLine then .nx (env.set i (some (.lst (ds ++ [d])))) else .bad
  | _ => .bad
theorem vs_app {i : Nat} {x : Str} {p2 apos cpos : Pos} (hN : X.N[i]? = some x) (hv : Vis X.env.scope x) (hd : (x == ("__debug__" : Str)) = false) (hcd : (x == ("__classdict__" : Str)) = false) (ho : (mdAt md i).own = true) (hw : ((mdAt md i).nw && !nw) = false)
    (ha : VE X W md true nw a f) (hs : starless a = true) (hbase : attributeBase (.Name x p2) "append" X.env (eval (.Name x p2) X.env) = eval (.Name x p2) X.env) (hline : (apos.endLine == cpos.line) = true) :
    VS X W md fr (.Expr (.Call (.Attribute (.Name x p2) "append" apos) [a] [] cpos) pos) (dApp i f) := by
  refine ⟨(ps_expr (pe_bm PySem.F.plainAttrs_list PySem.F.slot_list_append PySem.F.type_list_append mt_append (pe_var hN hv hd hcd) (pa_cons ha.run pa_nil (notStar hs)) hbase (by rw [notStar hs]; rfl) hline (notStar hs) (backTo_any rfl)) rfl).imp fun D σ H ⟨T0, T, H0, B, env, t0, R, p⟩ => ?_⟩
  unfold dApp at p
  cases e : env[i]? with
  | none => rw [e] at p; exact p.elim
  | some o =>
    cases o with
    | none => rw [e] at p; exact p.elim
    | some d =>
      rw [e] at p
      cases d with
      | lst ds =>
        obtain ⟨l, ev, oa, vs, el, rs⟩ := R.owned e ho rfl
        refine ⟨_, ev, .inl ⟨rfl, vs, SqL.of el⟩, T, H0, B, env, R, (out_of t0 R p).mono fun dv v H1 s _ q r => ?_⟩
        by_cases hz : ds.length < sizeLine
        · rw [if_pos hz] at q
          have R1 := R.same s
          have el1 : H1 l = some (.lst vs) := s _ _ el
          refine ⟨l, vs, v, rfl, rfl, el1, by rw [rs.length]; exact hz, q T σ _ t0 (R1.upd e oa ⟨vs ++ [v], upd_same, ?_⟩)⟩
          have c := carry_upd (K := X.K) (o := .lst (vs ++ [v])) el1 rfl (show Avd md σ env T H0 (mdAt md i).nw l from .inl ⟨i, oa⟩)
          refine (Rps.carry c _ _ (rs.same s)).append (.one (Rp.carry c _ _ (r.strict.weak fun b z => Avd.mono (fun e => ?_) z)))
          rw [e] at hw
          simpa using hw
        · rw [if_neg hz] at q
          exact q.elim
      | _ => exact p.elim
def dSetIx (i : Nat) (fk f : DX) : DS := fun env => (f env).out env fun d => match env[i]? with
  | some (some (.lst ds)) => (fk env).out env fun k => match k with
    | .int j => (match ixN ds.length j with
      | some n => .nx (env.set i (some (.lst (ds.set n d))))
      | none => .bad)
    | _ => .bad
  | _ => .bad
theorem vs_setIx {i : Nat} {x : Str} {p2 spos : Pos} (hN : X.N[i]? = some x) (hv : Vis X.env.scope x) (hd : (x == ("__debug__" : Str)) = false) (hcd : (x == ("__classdict__" : Str)) = false) (ho : (mdAt md i).own = true) (hw : ((mdAt md i).nw && !nw) = false)
    (he : VE X W md true nw e f) (hb : VE X W md sb nb b fb) (hs : swapsWithSole [.Subscript (.Name x p2) b spos] e pos.line X.env = pure false) (hws : swappedStores [.Subscript (.Name x p2) b spos] e X.env = pure none)
    (h1 : (assignEach [.Subscript (.Name x p2) b spos] X.env).map (·.2) = [assign (.Subscript (.Name x p2) b spos) X.env])
    (has : ∀ v, assign (.Subscript (.Name x p2) b spos) X.env v = (do
      let ov ← holding [v] (eval (.Name x p2) X.env)
      let iv ← holding [v, ov] (eval b X.env)
      standAt spos
      holding [v, ov, iv] (setItem ov iv v)
      release [v, ov, iv] [])) : VS X W md fr (.Assign [.Subscript (.Name x p2) b spos] e pos) (dSetIx i fb f) := by
  refine ⟨(ps_asg he.run (pg_sub (pe_var hN hv hd hcd) hb.run set_list has) hs hws h1).imp fun D σ H ⟨T0, T, H0, B, env, t0, R, p⟩ => ⟨T, H0, B, env, R, (out_of t0 R p).mono fun dv v H1 s _ q r => ?_⟩⟩
  have R1 := R.same s
  cases ee : env[i]? with
  | none => rw [ee] at q; exact q.elim
  | some o =>
    cases o with
    | none => rw [ee] at q; exact q.elim
    | some d =>
      rw [ee] at q
      cases d with
      | lst ds =>
        obtain ⟨l, ev, oa, vs, el, rs⟩ := R1.owned ee ho rfl
        refine ⟨_, ev, T, H0, B, env, R1, (out_of t0 R1 q).mono fun dk k H2 s2 _ q2 rk => ?_⟩
        cases dk with
        | int j =>
          cases ej : ixN ds.length j with
          | none =>
            have q3 : SP0 X.K X.mg W md fr T0 H0 B Out.bad D := by simpa [ej] using q2
            exact False.elim q3
          | some n =>
            have q2 : SP0 X.K X.mg W md fr T0 H0 B (match ixN ds.length j with
              | some n => .nx (env.set i (some (.lst (ds.set n dv))))
              | none => .bad) D := q2
            rw [ej] at q2
            have el2 : H2 l = some (.lst vs) := s2 _ _ el
            refine ⟨l, vs, j, n, rfl, rk.int, el2, by rw [rs.length]; exact ej, q2 T σ _ t0 ((R1.same s2).upd ee oa ⟨vs.set n v, upd_same, ?_⟩)⟩
            have c := carry_upd (K := X.K) (o := .lst (vs.set n v)) el2 rfl (show Avd md σ env T H0 (mdAt md i).nw l from .inl ⟨i, oa⟩)
            refine Rps.set (Rp.carry c _ _ ((r.strict.same s2).weak fun b z => Avd.mono (fun e => ?_) z)) n (Rps.carry c _ _ (rs.same s2))
            rw [e] at hw
            simpa using hw
        | _ => exact q2.elim
      | _ => exact q.elim

/-! ### x[k] = e of an owned list or dict -/
def putKs (ks : List D) (k : D) : List D := if ks.any (fun x => keyEq x k) then ks else ks ++ [k]
def putWs (ks ws : List D) (k w : D) : List D := if ks.any (fun x => keyEq x k) then List.zipWith (fun x y => if keyEq x k then w else y) ks ws else ws ++ [w]
theorem any_put {κ : Type} [DecidableEq κ] {g : κ → D} {k : κ} {y : D} (he : ∀ j, keyEq (g j) y = decide (j = k)) (kvs : List (κ × V)) : (kvs.map fun p => g p.1).any (fun x => keyEq x y) = kvs.any fun kv => decide (kv.1 = k) := by
  rw [List.any_map]
  congr 1
  funext p
  exact he p.1
theorem putKs_of {κ : Type} [DecidableEq κ] {g : κ → D} {k : κ} {y : D} (he : ∀ j, keyEq (g j) y = decide (j = k)) (hy : y = g k) (kvs : List (κ × V)) (v : V) : (putK kvs k v).map (fun p => g p.1) = putKs (kvs.map fun p => g p.1) y := by
  unfold putK putKs
  rw [any_put he]
  split
  · rw [List.map_map]
    apply List.map_congr_left
    intro p _
    show g (if p.1 = k then (p.1, v) else p).1 = g p.1
    split <;> rfl
  · rw [List.map_append, hy]
    rfl
theorem putWs_of {κ : Type} [DecidableEq κ] {K : PySem.W.Frag} {H : Hp} {A : Pred} {g : κ → D} {k : κ} {y : D} {v : V} {w : D} (he : ∀ j, keyEq (g j) y = decide (j = k)) (q : Rp K H A v w) {kvs : List (κ × V)} {ws : List D} (r : Rps K H A (kvs.map (·.2)) ws) :
    Rps K H A ((putK kvs k v).map (·.2)) (putWs (kvs.map fun p => g p.1) ws y w) := by
  unfold putK putWs
  rw [any_put he]
  split
  · have go : ∀ (kvs : List (κ × V)) (ws : List D), Rps K H A (kvs.map (·.2)) ws → Rps K H A ((kvs.map fun kv => if kv.1 = k then (kv.1, v) else kv).map (·.2)) (List.zipWith (fun x z => if keyEq x y then w else z) (kvs.map fun p => g p.1) ws) := by
      intro kvs
      induction kvs with
      | nil => intro ws _; exact .nil
      | cons p r ih =>
        intro ws h
        cases ws with
        | nil => have := h.length; cases this
        | cons z ws =>
          obtain ⟨u, r', e, q1, t⟩ := h.uncons
          cases e
          show Rps K H A ((if p.1 = k then (p.1, v) else p).2 :: _) ((if keyEq (g p.1) y then w else z) :: _)
          refine .cons ?_ (ih ws t)
          rw [he p.1]
          by_cases hk : p.1 = k
          · rw [if_pos hk, if_pos (decide_eq_true hk)]; exact q
          · rw [if_neg hk, if_neg (by rw [decide_eq_false hk]; exact Bool.false_ne_true)]; exact q1
    exact go kvs ws r
  · rw [List.map_append]
    exact r.append (.one q)
theorem DicH.len {rd : HO → Prop} {t : Bool} {ks : List D} {vs : List V} (h : DicH rd t ks vs) : vs.length = ks.length := by
  cases t with
  | false => obtain ⟨kvs, _, e1, e2⟩ := h; subst e1 e2; simp
  | true => obtain ⟨kvs, _, e1, e2⟩ := h; subst e1 e2; simp
/-- the dict behind a[y] = v -/
theorem DicH.dput {A : Pred} {a : Addr} {y v : V} {t : Bool} {ks ws : List D} {vs : List V} {dy w : D} (h : DicH (fun u => H a = some u) t ks vs) (r : Rps K H A vs ws) (ry : Rk st K H A y dy) (rw' : Rp K H A v w) (hf : keyFits t dy = true) (hz : ks.length < sizeLine) :
    ∃ o vs', DPut H a y v (upd H a o) ∧ DicH (fun u => o = u) t (putKs ks dy) vs' ∧ Rps K H A vs' (putWs ks ws dy w) := by
  cases t with
  | false =>
    obtain ⟨kvs, e, e1, e2⟩ := h
    subst e1 e2
    obtain ⟨k, rfl⟩ : ∃ k, dy = keyD k := by
      cases dy with
      | int i => exact ⟨.inl i, rfl⟩
      | str x => exact ⟨.inr x, rfl⟩
      | _ => cases hf
    have ey : y = kV k := kV_of ry.free
    have he : ∀ j, keyEq (keyD j) (keyD k) = decide (j = k) := fun j => keyEq_key j k
    refine ⟨_, _, .inl ⟨kvs, k, e, ey, by simpa using hz, rfl⟩, ⟨putK kvs k v, rfl, putKs_of (g := keyD) he rfl kvs v, rfl⟩, putWs_of (g := keyD) he rw' r⟩
  | true =>
    obtain ⟨kvs, e, e1, e2⟩ := h
    subst e1 e2
    obtain ⟨t, rfl, hk⟩ : ∃ t, dy = .tup t ∧ (keysOf t).isSome = true := by
      cases dy with
      | tup t => exact ⟨t, rfl, hf⟩
      | _ => cases hf
    obtain ⟨k, hk⟩ := Option.isSome_iff_exists.mp hk
    have et := keysOf_eq hk
    subst et
    obtain ⟨b, us, rfl, sq, rt⟩ := ry.tup
    have ev := kVs_of rt
    subst ev
    have he : ∀ j : List Key, keyEq (.tup (j.map keyD)) (.tup (k.map keyD)) = decide (j = k) := fun j => keyEq_keys j k
    refine ⟨_, _, .inr ⟨kvs, k, b, e, rfl, sq, by simpa using hz, rfl⟩, ⟨putK kvs k v, rfl, putKs_of (g := fun k : List Key => D.tup (k.map keyD)) he rfl kvs v, rfl⟩, putWs_of (g := fun k : List Key => D.tup (k.map keyD)) he rw' r⟩
def rSetAny : TSet := fun o i v H Q => rSetL o i v H Q ∨ rSetD o i v H Q
theorem set_any (hu : X.A.units + 1 < cLine) : PSet X rSetAny := by
  intro pins s σ H o i v ov iv u Q I ro ri rv h
  rcases h with h | h
  · exact set_list pins s σ H o i v ov iv u Q I ro ri rv h
  · exact set_dict hu pins s σ H o i v ov iv u Q I ro ri rv h
def putD (d k w : D) : Option D := match d with
  | .lst ds => (match k with
    | .int j => (ixN ds.length j).map fun n => .lst (ds.set n w)
    | _ => none)
  | .dic t ks ws => if keyFits t k && decide (ks.length < sizeLine) then some (.dic t (putKs ks k) (putWs ks ws k w)) else none
  | _ => none
def dPut (i : Nat) (fk f : DX) : DS := fun env => (f env).out env fun w => match env[i]? with
  | some (some d) => (fk env).out env fun k => match putD d k w with
    | some d' => .nx (env.set i (some d'))
    | none => .bad
  | _ => .bad
theorem vs_put {i : Nat} {x : Str} {p2 spos : Pos} (hu : X.A.units + 1 < cLine) (hN : X.N[i]? = some x) (hv : Vis X.env.scope x) (hd : (x == ("__debug__" : Str)) = false) (hcd : (x == ("__classdict__" : Str)) = false) (ho : (mdAt md i).own = true) (hw : ((mdAt md i).nw && !nw) = false)
    (he : VE X W md true nw e f) (hb : VE X W md sb nb b fb) (hs : swapsWithSole [.Subscript (.Name x p2) b spos] e pos.line X.env = pure false) (hws : swappedStores [.Subscript (.Name x p2) b spos] e X.env = pure none)
    (h1 : (assignEach [.Subscript (.Name x p2) b spos] X.env).map (·.2) = [assign (.Subscript (.Name x p2) b spos) X.env])
    (has : ∀ v, assign (.Subscript (.Name x p2) b spos) X.env v = (do
      let ov ← holding [v] (eval (.Name x p2) X.env)
      let iv ← holding [v, ov] (eval b X.env)
      standAt spos
      holding [v, ov, iv] (setItem ov iv v)
      release [v, ov, iv] [])) : VS X W md fr (.Assign [.Subscript (.Name x p2) b spos] e pos) (dPut i fb f) := by
  refine ⟨(ps_asg he.run (pg_sub (pe_var hN hv hd hcd) hb.run (set_any hu) has) hs hws h1).imp fun D σ H ⟨T0, T, H0, B, env, t0, R, p⟩ => ⟨T, H0, B, env, R, (out_of t0 R p).mono fun dv v H1 s _ q r => ?_⟩⟩
  have R1 := R.same s
  cases ee : env[i]? with
  | none => rw [ee] at q; exact q.elim
  | some o =>
    cases o with
    | none => rw [ee] at q; exact q.elim
    | some d =>
      rw [ee] at q
      cases hl : isLD d with
      | false =>
        obtain ⟨v0, ev, _, _⟩ := R1.ownedI ee ho hl
        refine ⟨_, ev, T, H0, B, env, R1, (out_of t0 R1 q).mono fun dk k H2 s2 _ q2 rk => ?_⟩
        cases d with
        | lst _ => cases hl
        | dic _ _ _ => cases hl
        | _ => exact q2.elim
      | true =>
      obtain ⟨l, ev, oa, tp⟩ := R1.owned ee ho hl
      refine ⟨_, ev, T, H0, B, env, R1, (out_of t0 R1 q).mono fun dk k H2 s2 _ q2 rk => ?_⟩
      have R2 := R1.same s2
      obtain ⟨l', ev', oa', tp⟩ := R2.owned ee ho hl
      rw [ev] at ev'
      cases ev'
      have rv : Rp X.K H2 (Avd md σ env T H0 (mdAt md i).nw) v dv := (r.strict.same s2).weak fun b z => Avd.mono (fun e => by rw [e] at hw; simpa using hw) z
      cases hp : putD d dk dv with
      | none =>
        rw [hp] at q2
        exact q2.elim
      | some d' =>
        rw [hp] at q2
        have q2 : ∀ T σ' H', TIn T0 B T → Rel X.K md T H0 B H' σ' (env.set i (some d')) → D.nx σ' H' := q2
        cases d with
        | lst ds =>
          obtain ⟨vs, el, rs⟩ := tp
          cases dk with
          | int j =>
            have hp : (ixN ds.length j).map (fun n => Dl.D.lst (ds.set n dv)) = some d' := hp
            obtain ⟨n, ej, e2⟩ := Option.map_eq_some_iff.mp hp
            subst e2
            refine .inl ⟨l, vs, j, n, rfl, rk.int, el, by rw [rs.length]; exact ej, q2 T σ _ t0 (R2.upd ee oa ⟨vs.set n v, upd_same, ?_⟩)⟩
            have c := carry_upd (K := X.K) (o := .lst (vs.set n v)) el rfl (show Avd md σ env T H0 (mdAt md i).nw l from .inl ⟨i, oa⟩)
            exact Rps.set (Rp.carry c _ _ rv) n (Rps.carry c _ _ rs)
          | _ => cases hp
        | dic t ks ws =>
          obtain ⟨vs, el, rs⟩ := tp
          have hp : (if keyFits t dk && decide (ks.length < sizeLine) then some (Dl.D.dic t (putKs ks dk) (putWs ks ws dk dv)) else none) = some d' := hp
          by_cases hc : (keyFits t dk && decide (ks.length < sizeLine)) = true
          case neg => rw [if_neg hc] at hp; cases hp
          rw [if_pos hc] at hp
          cases hp
          rw [Bool.and_eq_true, decide_eq_true_eq] at hc
          obtain ⟨u0, eu0⟩ := el.there
          have mu : isMutO u0 = true := by
            cases t with
            | false => obtain ⟨kvs, e1, _⟩ := el; rw [e1] at eu0; cases eu0; rfl
            | true => obtain ⟨kvs, e1, _⟩ := el; rw [e1] at eu0; cases eu0; rfl
          have two := el.dput (st := false) (A := Avd md σ env T H0 (mdAt md i).nw) rs (show Rk false X.K H2 (Avd md σ env T H0 (mdAt md i).nw) k dk from by
            cases dk with
            | tup xs => exact .of (Rp.imm _ _ rk.free (by
                have hk : (keysOf xs).isSome = true := by
                  cases t with
                  | true => exact hc.1
                  | false => cases hc.1
                obtain ⟨kk, hk⟩ := Option.isSome_iff_exists.mp hk
                rw [keysOf_eq hk]
                unfold imm
                have : ∀ l : List Key, imms (l.map keyD) = true := by
                  intro l
                  induction l with
                  | nil => rfl
                  | cons a r ih => unfold imms List.map; rw [Bool.and_eq_true]; exact ⟨by cases a <;> rfl, ih⟩
                exact this kk))
            | int _ => exact .of (Rp.int.mpr rk.int)
            | str _ => exact .of (Rp.str.mpr rk.str)
            | non => cases t <;> cases hc.1
            | bl _ => cases t <;> cases hc.1
            | lst _ => cases t <;> cases hc.1
            | frl _ => cases t <;> cases hc.1
            | ktp _ => cases t <;> cases hc.1
            | dic _ _ _ => cases t <;> cases hc.1) rv hc.1 hc.2
          obtain ⟨o2, vs2, dp2, dh2, rs2⟩ := two
          refine .inr ⟨l, upd H2 l o2, rfl, dp2, q2 T σ _ t0 (R2.upd ee oa ⟨vs2, ?_, ?_⟩)⟩
          · exact dh2.mono fun u z => by rw [upd_same, z]
          · exact Rps.carry (carry_upd eu0 mu (.inl ⟨i, oa⟩)) _ _ rs2
        | _ => cases hp
end

/-! ### a def -/
/-- the outcome of a def's body as a call's -/
def runF (n : Nat) (f : DS) : DF' := fun ds => match f (ds.map some ++ List.replicate (n - ds.length) none) with
  | .nx _ => .ok .non
  | .rt d => .ok d
  | .exc c fs _ => .exc c fs
  | _ => .bad
theorem start_get {N : List Str} {vs : List V} {ds : List D} {n : Nat} (hl : vs.length = ds.length) {i : Nat} {d : D} (e : (ds.map some ++ List.replicate (n - ds.length) none)[i]? = some (some d)) : ds[i]? = some d ∧ ∃ v, vs[i]? = some v ∧ (start N vs)[i]? = some (some v) := by
  by_cases h : i < ds.length
  · rw [List.getElem?_append_left (by simpa using h), List.getElem?_map, List.getElem?_eq_getElem h] at e
    cases e
    refine ⟨List.getElem?_eq_getElem h, vs[i], List.getElem?_eq_getElem (by omega), ?_⟩
    unfold L2.start
    rw [List.getElem?_append_left (by simp; omega), List.getElem?_map, List.getElem?_eq_getElem (by omega)]
    rfl
  · rw [List.getElem?_append_right (by simpa using h)] at e
    rw [List.getElem?_replicate] at e
    split at e <;> cases e
theorem Rps.at {K : PySem.W.Frag} {H : Hp} {A : Pred} {vs : List V} {ds : List D} {i : Nat} {d : D} {v : V} (r : Rps K H A vs ds) (e : ds[i]? = some d) (ev : vs[i]? = some v) : Rp K H A v d := by
  obtain ⟨u, eu, q⟩ := r.get e
  rw [ev] at eu
  cases eu
  exact q
theorem rel_start {K : PySem.W.Frag} {md : Mds} {T : Pred} {H : Hp} {N : List Str} {vs : List V} {ds : List D} (hT : ∀ a, T a → ∃ o, H a = some o) (r : Rps K H T vs ds) (hN : ds.length ≤ N.length) (hp : ∀ i, i < ds.length → mdAt md i = {}) (hmd : MdOk md) :
    Rel K md T H H H (start N vs) (ds.map some ++ List.replicate (N.length - ds.length) none) := by
  have no : ∀ i a, ¬ OwnAt md (start N vs) (ds.map some ++ List.replicate (N.length - ds.length) none) i a := fun i a ⟨h1, ⟨d, h2, _⟩, _⟩ => by
    obtain ⟨e, _⟩ := start_get (N := N) r.length h2
    have hi : i < ds.length := (List.getElem?_eq_some_iff.mp e).1
    rw [hp i hi] at h1
    cases h1
  refine ⟨fun a o e => ⟨o, e⟩, Same.refl _, hT, ?_, fun i d e hd => ?_, fun i a o => (no i a o).elim, fun i j a o => (no i a o).elim, fun i a o => (no i a o).elim, hmd, fun a h n => ?_, fun i d e hd => ?_⟩
  · unfold L2.start
    simp [r.length]
  rotate_left
  · obtain ⟨o, e⟩ := hT a h
    rw [n] at e
    cases e
  · obtain ⟨e1, v, ev, es⟩ := start_get (N := N) r.length e
    have hi : i < ds.length := (List.getElem?_eq_some_iff.mp e1).1
    rw [hp i hi] at hd
    exact absurd rfl hd
  · obtain ⟨e1, v, ev, es⟩ := start_get (N := N) r.length e
    have hi : i < ds.length := (List.getElem?_eq_some_iff.mp e1).1
    refine ⟨v, es, ?_⟩
    unfold SlotOk
    rw [hp i hi, if_neg Bool.false_ne_true]
    refine (r.at e1 ev).weak fun a z => ?_
    rcases z with ⟨j, o⟩ | z | ⟨z, _⟩
    · exact (no j a o).elim
    · exact z
    · cases z
/-- a def keeps its promise -/
theorem fn_ok {P : Program} {w : World} {K : PySem.W.Frag} {mg : Str → Option Value} {base : Heap} {x qual : Str} {st : Stmt} {f : Addr} {fd : FuncData} {N ps : List Str} {k ar : Nat} {md : Mds} {fr : Bool} {den : DS} (F : Fun K x qual st f fd) (S : FnScope N ps (defScope st)) (hps : ps.length = ar) (hNl : ar ≤ N.length) (hp : ∀ i, i < ar → mdAt md i = {}) (hmd : MdOk md)
    (hbody : ∀ (cdv : Value) (A : Around) (outer : List Env) (s : Shared) (H : Hp) (E : XK), Room k (A.deeper (envOfC qual (defScope st) s.heap.objs.size f cdv)) →
      VSs (cxOf (L2.CX P w) P w K mg base N qual (defScope st) f cdv A outer s H E) (fun cls d _ H' => E cls d H') md fr (defBody st) den) :
    FnOk P w K mg base (L2.CX P w) (k + 1) f fd ps (spD K mg ar fr (runF N.length den)) := by
  refine F.okX S (fun vs H Q E h => ?_) (fun cdv A outer s H vs Q E hr h => ?_)
  · obtain ⟨T, ds, _, r, hl, _⟩ := h
    rw [r.length, hl, hps]
  · obtain ⟨T, ds, hT, r, hl, q⟩ := h
    refine ⟨_, (hbody cdv A outer s H E hr).run, T, T, H, H, _, TIn.refl hT, rel_start hT r (by omega) (by rw [hl]; exact hp) hmd, ?_⟩
    unfold runF at q
    cases e : den (ds.map some ++ List.replicate (N.length - ds.length) none) with
    | nx env' => rw [e] at q; exact fun T' σ' H' t' R' => q _ H' R'.sB FR.non
    | rt d => rw [e] at q; exact fun v H' s z => q v H' s z
    | exc c fs env' => rw [e] at q; exact fun T' cls dd σ' H' t' R' x => q cls dd H' R'.sB x
    | bk _ => rw [e] at q; exact q.elim
    | ct _ => rw [e] at q; exact q.elim
    | bad => rw [e] at q; exact q.elim
end Dl

/-! Dl8b: own exceptions raised and caught. -/
namespace Dl
open PySem PySem.Spec PyProof.Rows L2
def smallV : V → Bool
  | .int i => decide (0 ≤ i) && decide (i < 1000)
  | .str x => decide (x.length ≤ 1000)
  | _ => false
/-- small texts and numbers: what an exception carries -/
def smallD : D → Bool
  | .int i => decide (0 ≤ i) && decide (i < 1000)
  | .str x => decide (x.length ≤ 1000)
  | _ => false
/-- an own exception class: its name, its fields, each a parameter of __init__ -/
structure ExEnt where
  name : Str
  ps : List Str
/-- the exception at a, of the class at C, gets its fields; the rest stays -/
def spI (K : PySem.W.Frag) (C : Addr) (ps : List Str) : Sp := fun vs H Q E => ∃ (a : Addr) (ws : List V), vs = V.ref a :: ws ∧ ws.length = ps.length ∧ (∀ w ∈ ws, smallV w = true) ∧ H a = some (exo a C none) ∧
  ∀ (d : Addr) (fs : List (Str × V)) (H2 : Hp), H2 a = some (exo a C (some d)) → H2 d = some (exd d fs) → H d = none → d ≠ a → (∀ b, b ≠ a → b ≠ d → H2 b = H b) → (∀ (i : Nat) (f : Str) (w : V), ps[i]? = some f → ws[i]? = some w → fs.lookup f = some w) → Q .non H2
structure HasX (P : Program) (w : World) (K : PySem.W.Frag) (mg : Str → Option Value) (base : Heap) (k : Nat) (E : ExEnt) : Prop where
  ex : ∃ (C fI : Addr) (fd : FuncData) (self : Str), mg E.name = some (.ref C) ∧ OexC K C ∧ PySem.W.findIn K (.ref C) "__init__" = some (some (.ref fI)) ∧ PySem.W.typeIn K (.ref fI) = some (.type "function") ∧
    FnOk P w K mg base (L2.CX P w) k fI fd (self :: E.ps) (spI K C E.ps) ∧ Binds K fd (self :: E.ps) [] ∧ XfC K C ∧ (∀ f ∈ E.ps, PySem.W.findIn K (.ref C) f = some none) ∧ PySem.W.exmOne K (.ref C) (.ref C) = some true
abbrev ExAt (X : Cx) (k : Nat) (E : ExEnt) : Prop := HasX X.prog X.w X.K X.mg X.base k E
section
variable {X : Cx} {W : WX} {md : Mds} {fr st nw : Bool} {e : Expr} {es : List Expr} {fs : DXs} {pos : Pos}
theorem Rks.get {K : PySem.W.Frag} {H : Hp} {A : Pred} {vs : List V} {ds : List D} (h : Rks st K H A vs ds) {i : Nat} {d : D} (e : ds[i]? = some d) : ∃ v, vs[i]? = some v ∧ Rk st K H A v d := by
  induction h generalizing i with
  | nil => simp at e
  | cons q _ ih =>
    cases i with
    | zero => simp at e; subst e; exact ⟨_, rfl, q⟩
    | succ i => exact ih (by simpa using e)
theorem Rk.small {K : PySem.W.Frag} {H : Hp} {A : Pred} {v : V} {d : D} (h : Rk st K H A v d) (s : smallD d = true) : smallV v = true ∧ imm d = true ∧ ∀ H' A', Rp K H' A' v d := by
  cases d with
  | int i => rw [h.int]; exact ⟨s, rfl, fun _ _ => Rp.int.mpr rfl⟩
  | str x => rw [h.str]; exact ⟨s, rfl, fun _ _ => Rp.str.mpr rfl⟩
  | _ => cases s
/-- raise E(..) -/
def dRaise (E : ExEnt) (fs : DXs) : DS := fun env => (fs env).out env fun ds => if decide (ds.length = E.ps.length) && ds.all smallD then .exc E.name (E.ps.zip ds) env else .bad
theorem vs_raise {E : ExEnt} {k : Nat} {p pos2 : Pos} (hc : X.calm = true) (tk : Takes X W) (hE : ExAt X k E) (hr : Room (k + 1) X.A) (hg : Gl X E.name) (hdb : (E.name == ("__debug__" : Str)) = false) (hl : E.ps.length ≤ 1000) (ha : VA X W md st nw (e :: es) fs) (hs : (e :: es).all starless = true) :
    VS X W md fr (.Raise (some (.Call (.Name E.name p) (e :: es) [] pos)) none pos2) (dRaise E fs) := by
  obtain ⟨C, fI, fd, self, hm, T, iC, tI, F1, hb, xf, hno, _⟩ := hE.ex
  rw [List.all_cons, Bool.and_eq_true] at hs
  refine ⟨(ps_raise hc tk (pmk_oex T iC tI F1 hr hb .nil passL hg hm ha.run hdb (notStar hs.1) (backTo_any hs.2))).imp fun D σ H ⟨T0, T', H0, B, env, t0, R, p⟩ => ⟨T', H0, B, env, R, (out_of t0 R p).mono fun ds vs H1 s1 _ q r => ?_⟩⟩
  by_cases ok : (decide (ds.length = E.ps.length) && ds.all smallD) = true
  case neg => rw [if_neg ok] at q; exact q.elim
  rw [if_pos ok] at q
  rw [Bool.and_eq_true, decide_eq_true_eq, List.all_eq_true] at ok
  have el : vs.length = E.ps.length := r.length.trans ok.1
  have sm : ∀ w ∈ vs, smallV w = true := fun w hw => by
    obtain ⟨i, hi⟩ := List.getElem?_of_mem hw
    have hil : i < ds.length := by rw [← r.length]; exact (List.getElem?_eq_some_iff.mp hi).1
    obtain ⟨v, e1, q1⟩ := r.get (List.getElem?_eq_getElem hil)
    rw [hi] at e1
    cases e1
    exact (q1.small (ok.2 _ (List.getElem_mem hil))).1
  refine ⟨by omega, fun a na => ⟨a, vs, by rw [List.append_nil], el, sm, upd_same, fun d fs' H2 ea ed nd hda hk hlk => ?_⟩⟩
  have nd1 : H1 d = none := by rw [upd_ne hda] at nd; exact nd
  refine ⟨rfl, d, fs', ea, ed, nd1, ?_⟩
  have sH : Same H (upd (del H2 a) d (.xd fs')) := fun b o eb => by
    have eb1 := s1 _ _ eb
    have hba : b ≠ a := ne_of_none eb1 na
    have hbd : b ≠ d := ne_of_none eb1 nd1
    rw [upd_ne hbd, del_ne hba, hk b hba hbd, upd_ne hba]
    exact eb1
  refine q T' (.ref C) (some d) σ _ t0 (R.same sH) ⟨hm, d, fs', rfl, upd_same, fun p hp => ?_⟩
  obtain ⟨i, hi⟩ := List.getElem?_of_mem hp
  rw [List.getElem?_zip_eq_some] at hi
  obtain ⟨v, e1, q1⟩ := r.get hi.2
  have := q1.small (ok.2 _ (List.mem_of_getElem? hi.2))
  exact ⟨this.2.1, v, hlk i p.1 v hi.1 e1, this.2.2 _ _⟩

/-! ### try .. except E as n: x = (n.f, ..) -/
def pickF (fs : Fields) : List Str → Option (List D)
  | [] => some []
  | f :: r => match fs.find? (fun p => decide (p.1 = f)), pickF fs r with
    | some p, some ds => some (p.2 :: ds)
    | _, _ => none
/-- what x gets: the tuple of the fields, or the one field -/
def mkF (tp : Bool) (ds : List D) : Option D := match tp, ds with
  | true, ds => if ds.length ≤ sizeLine then some (.tup ds) else none
  | false, [d] => some d
  | _, _ => none
def dTryE (E : ExEnt) (body : DS) (n i : Nat) (tp : Bool) (fl : List Str) : DS := fun env => match body env with
  | .exc c fs e => if c = E.name ∧ n < e.length then (match (pickF fs fl).bind (mkF tp) with
    | some d => .nx (((e.set n none).set i (some d)).set n none)
    | none => .bad) else .bad
  | o => o
def tXs (a : Addr) (cls : Value) (d : Option Addr) (C : Addr) (n : Nat) : List Str → TA
  | [] => tNil
  | f :: r => tCons (tXf a cls d C f (tVar n)) (tXs a cls d C n r)
theorem pick_ok {K : PySem.W.Frag} {H : Hp} {ffs : List (Str × V)} {fs : Fields} (h : ∀ p ∈ fs, imm p.2 = true ∧ ∃ v, ffs.lookup p.1 = some v ∧ Rp K H (fun _ => False) v p.2) : ∀ {fl : List Str} {ds : List D}, pickF fs fl = some ds →
    imms ds = true ∧ ∃ vs, (∀ (a : Addr) (cls : Value) (dd C : Addr) (n : Nat) (σ : L2.St) (Q : List V → Hp → Prop), cls = .ref C → σ[n]? = some (some (.ref a)) → H dd = some (.xd ffs) → Q vs H → tXs a cls (some dd) C n fl σ H Q) ∧ Rps K H (fun _ => False) vs ds
  | [], ds, e => by cases e; exact ⟨rfl, [], fun a cls dd C n σ Q _ _ _ q => q, .nil⟩
  | f :: r, ds, e => by
    unfold pickF at e
    cases e1 : fs.find? (fun p => decide (p.1 = f)) with
    | none => rw [e1] at e; cases e
    | some p =>
      cases e2 : pickF fs r with
      | none => rw [e1, e2] at e; cases e
      | some ds' =>
        rw [e1, e2] at e
        cases e
        obtain ⟨i1, vs, g, rp⟩ := pick_ok h e2
        have hp := h p (List.mem_of_find?_eq_some e1)
        have hn : p.1 = f := by simpa using List.find?_some e1
        obtain ⟨i2, v, lk, rv⟩ := hp
        refine ⟨by unfold imms; rw [i2, i1]; rfl, v :: vs, fun a cls dd C n σ Q hc hs hd q => ?_, .cons rv rp⟩
        exact ⟨_, hs, rfl, hc, dd, ffs, v, rfl, hd, by rw [← hn]; exact lk, g a cls dd C n σ _ hc hs hd q⟩
theorem vs_tryE {E : ExEnt} {k i n : Nat} {x nm : Str} {px np pos' spos : Pos} {body : List Stmt} {f : DS} {tp : Bool} {fl : List Str} {te : Addr → Addr → Value → Option Addr → TE} (hs : X.stack = X.env :: X.outer) (hf : X.env.frame = some X.env.locals) (hN : X.N.Nodup)
    (hn : X.N[n]? = some nm) (hln : X.env.scope.names.lookup nm = some .local) (hi : X.N[i]? = some x) (hxl : L2.Loc X.env.scope x) (hfx : X.fn x = true ∨ X.env.scope.names.lookup x = some .local) (hni : n ≠ i)
    (hE : ExAt X k E) (hg : Gl X E.name) (hdb : (E.name == ("__debug__" : Str)) = false) (tk : Takes X W)
    (hb : ∀ (W' : WX) (pn : List (Addr × Obj)) (xe : Value → Shared → Prop), Takes (X.tr pn xe) W' → PassesOwn (model X.prog X.w) X.A X.env xe → VSs (X.tr pn xe) W' md fr body f)
    (hpe : ∀ (C a : Addr) (oe : Obj) (cls : Value) (d : Option Addr) (pn : List (Addr × Obj)), XfC X.K C → (∀ f ∈ E.ps, PySem.W.findIn X.K (.ref C) f = some none) → Zc cls d oe → (∃ vs, oe.data = .fields vs) → PE (X.suite a ((a, oe) :: pn)) e (te C a cls d))
    (hrd : ∀ (C a : Addr) (cls : Value) (dd : Addr) (σ : L2.St) (H : Hp) (ffs : List (Str × V)) (fs : Fields) (d : D) (Q : VK), cls = .ref C → σ[n]? = some (some (.ref a)) → H dd = some (.xd ffs) → (∀ p ∈ fs, imm p.2 = true ∧ ∃ v, ffs.lookup p.1 = some v ∧ Rp X.K H (fun _ => False) v p.2) →
      (pickF fs fl).bind (mkF tp) = some d → (∀ v H', Same H H' → imm d = true → (∀ A, Rp X.K H' A v d) → Q v H') → te C a cls (some dd) σ H Q)
    (hsw : ∀ env, swapsWith e (some (.Name x px)) spos.line env = pure false)
    (on : (mdAt md n).own = false) (pi : (mdAt md i).dp = 0) :
    VS X W md fr (.Try body [.ExceptHandler (some (.Name E.name np)) (some nm) [.Assign [.Name x px] e spos] pos'] [] [] pos) (dTryE E f n i tp fl) := by
  obtain ⟨C, fI, fd, self, hm, T, iC, tI, F1, hbb, xf, hno, hex⟩ := hE.ex
  refine ⟨(ps_try_as (i := n) (c := .ref C) (tb := fun W' => tS X.K X.mg W' md fr f) (ts := fun a cls d D σ H => te C a cls d σ H fun v H' => D.nx (σ.set i (some v)) H') (Wout := W) hs hf hN hn hln ⟨hg, hdb, .inl hm⟩ tk (fun W' pn xe tk' po => (hb W' pn xe tk' po).run)
    (fun a oe cls d pn hz hfd => pss_one (ps_set hN hi hxl (hpe C a oe cls d pn xf hno hz hfd) (hsw _) hfx))).imp fun D σ H ⟨T0, T', H0, B, env, t0, R, p⟩ => ⟨T0, T', H0, B, env, t0, R, ?_⟩⟩
  unfold dTryE at p
  cases ef : f env with
  | nx e => rw [ef] at p; exact p
  | rt d => rw [ef] at p; exact p
  | bk e => rw [ef] at p; exact p
  | ct e => rw [ef] at p; exact p
  | bad => rw [ef] at p; exact p
  | exc c fs env1 =>
    rw [ef] at p
    have p2 : SP0 X.K X.mg W md fr T0 H0 B (if c = E.name ∧ n < env1.length then (match (pickF fs fl).bind (mkF tp) with
      | some d => Out.nx (((env1.set n none).set i (some d)).set n none)
      | none => .bad) else .bad) D := p
    clear p
    by_cases hc : c = E.name ∧ n < env1.length
    case neg => rw [if_neg hc] at p2; exact p2.elim
    rw [if_pos hc] at p2
    obtain ⟨hc, hnl⟩ := hc
    subst hc
    cases hk : (pickF fs fl).bind (mkF tp) with
    | none => rw [hk] at p2; exact p2.elim
    | some d =>
      rw [hk] at p2
      intro T1 cls dd σ1 H1 t1 R1 xa
      obtain ⟨hm1, d1, ffs, rfl, ed, hfs⟩ := xa
      rw [hm] at hm1
      cases hm1
      refine ⟨true, hex, fun _ a na => ?_, fun z => Bool.noConfusion z⟩
      have R2 : Rel X.K md T1 H0 B H1 (σ1.set n (some (.ref a))) (env1.set n none) := R1.kill on
      have ln : n < σ1.length := by
        rw [R1.len]
        exact hnl
      refine hrd C a _ d1 _ H1 ffs fs d _ rfl (List.getElem?_set_self ln) ed hfs hk fun v H' s im rv => ?_
      exact p2 T1 _ H' t1 (((R2.same s).setI pi im rv).kill on)
end
end Dl

/-! Dl9: a def's text read off into its meaning, with the proof that it keeps it. -/
namespace Dl
open PySem PySem.Spec PyProof.Rows L2 RZ RT

structure Cfg where
  N : List Str
  sc : Scope
  fn : Str → Bool
  dt : Bool
  pl : Nat → Bool
  kl : Nat → List Nat
  k : Nat
  blts : List Str
  fns : List FEnt
  cons : List (Str × D)
  md : Mds
  exs : List ExEnt := []
  tr : Bool := false
structure COk (C : Cfg) (X : Cx) (W : WX) : Prop where
  n : X.N = C.N
  nd : C.N.Nodup
  sc : X.env.scope = C.sc
  calm : X.calm = true
  room : Room C.k X.A
  blt : ∀ x, x ∈ C.blts → X.mg x = none
  fns : ∀ F, F ∈ C.fns → FnAt X C.k F
  cons : ∀ p, p ∈ C.cons → ConAt X p.1 p.2
  tk : Takes X W
  po : PassesOwn (model X.prog X.w) X.A X.env X.xe
  fn : ∀ x, C.fn x = true → X.fn x = true
  kd : C.sc.kind = .function
  exs : ∀ E, E ∈ C.exs → ∃ j, j + 1 ≤ C.k ∧ ExAt X j E
  tr : C.tr = true → X.stack = X.env :: X.outer ∧ X.env.frame = some X.env.locals

/-! ### looks -/
def slotGo (x : Str) : List Str → Nat → Option Nat
  | [], _ => none
  | y :: r, n => if y = x then some n else slotGo x r (n + 1)
theorem slotGo_ok {x : Str} : ∀ {l : List Str} {n i : Nat}, slotGo x l n = some i → n ≤ i ∧ l[i - n]? = some x
  | [], n, i, h => by cases h
  | y :: r, n, i, h => by
    unfold slotGo at h
    split at h
    · next e => cases h; subst e; exact ⟨Nat.le_refl _, by simp⟩
    · obtain ⟨h1, h2⟩ := slotGo_ok h
      refine ⟨by omega, ?_⟩
      rw [show i - n = (i - (n + 1)) + 1 by omega]
      simpa using h2
def slot (C : Cfg) (x : Str) : Option Nat := slotGo x C.N 0
theorem slot_ok {C : Cfg} {x : Str} {i : Nat} (h : slot C x = some i) : C.N[i]? = some x := by simpa using (slotGo_ok h).2
def lk (C : Cfg) (x : Str) : Option NameKind := C.sc.names.lookup x
def isVis : Option NameKind → Bool
  | some .local => true
  | some .cell => true
  | some .free => true
  | _ => false
def isLoc : Option NameKind → Bool
  | some .local => true
  | some .cell => true
  | _ => false
def isGl : Option NameKind → Bool
  | some .globalImplicit => true
  | _ => false
def isLocal : Option NameKind → Bool
  | some .local => true
  | _ => false
def okNm (x : Str) : Bool := !(x == ("__debug__" : Str)) && !(x == ("__classdict__" : Str))
section
variable {C : Cfg} {X : Cx} {W : WX} {x : Str} {i : Nat}
theorem COk.vis (h : COk C X W) (v : isVis (lk C x) = true) : Vis X.env.scope x := by
  unfold Vis
  rw [h.sc]
  unfold lk at v
  revert v
  cases C.sc.names.lookup x with
  | none => intro v; cases v
  | some k => cases k <;> intro v <;> first | exact .inl rfl | exact .inr (.inl rfl) | exact .inr (.inr rfl) | cases v
theorem COk.loc (h : COk C X W) (v : isLoc (lk C x) = true) : L2.Loc X.env.scope x := by
  unfold L2.Loc
  rw [h.sc]
  unfold lk at v
  revert v
  cases C.sc.names.lookup x with
  | none => intro v; cases v
  | some k => cases k <;> intro v <;> first | exact .inl rfl | exact .inr rfl | cases v
theorem COk.local (h : COk C X W) (v : isLocal (lk C x) = true) : X.env.scope.names.lookup x = some .local := by
  rw [h.sc]
  unfold lk at v
  revert v
  cases C.sc.names.lookup x with
  | none => intro v; cases v
  | some k => cases k <;> intro v <;> first | rfl | cases v
theorem COk.gl (h : COk C X W) (v : isGl (lk C x) = true) : Gl X x := by
  show X.env.scope.names.lookup x = _
  rw [h.sc]
  unfold lk at v
  revert v
  cases C.sc.names.lookup x with
  | none => intro v; cases v
  | some k => cases k <;> intro v <;> first | rfl | cases v
theorem COk.slot (h : COk C X W) (e : slot C x = some i) : X.N[i]? = some x := by rw [h.n]; exact slot_ok e
theorem COk.nodup (h : COk C X W) : X.N.Nodup := by rw [h.n]; exact h.nd
theorem COk.stores (h : COk C X W) (v : (C.fn x || isLocal (lk C x)) = true) : X.fn x = true ∨ X.env.scope.names.lookup x = some .local := by
  rw [Bool.or_eq_true] at v
  rcases v with v | v
  · exact .inl (h.fn x v)
  · exact .inr (h.local v)
theorem okNm1 (h : okNm x = true) : (x == ("__debug__" : Str)) = false := by
  unfold okNm at h
  rw [Bool.and_eq_true] at h
  simpa using h.1
theorem okNm2 (h : okNm x = true) : (x == ("__classdict__" : Str)) = false := by
  unfold okNm at h
  rw [Bool.and_eq_true] at h
  simpa using h.2
def bltOk (C : Cfg) (x : Str) : Bool := isGl (lk C x) && (C.blts.contains x && (okNm x && !(decide (x = ("__name__" : Str)))))
theorem COk.bltAt (h : COk C X W) {v : Value} (hb : bltOk C x = true) (ht : bootBuiltins x = some v) : BltAt X x v := by
  unfold bltOk at hb
  simp only [Bool.and_eq_true] at hb
  obtain ⟨h1, h2, h3, h4⟩ := hb
  exact ⟨h.gl h1, h.blt x (by simpa using h2), ht, by simpa using h4, okNm1 h3⟩
end

/-! ### what stands in a text -/
def notComp : Expr → Bool
  | .ListComp _ _ _ _ => false
  | .SetComp _ _ _ _ => false
  | .DictComp _ _ _ _ _ => false
  | _ => true
theorem swap_none {e : Expr} {t : Option Expr} {l : Nat} {env : Env} (h : notComp e = true) : swapsWith e t l env = pure false := by
  cases e <;> first | rfl | cases h
def notSet : Expr → Bool
  | .Set _ _ _ => false
  | _ => true
theorem fold_none {e : Expr} {env : Env} (h : notSet e = true) : ∀ x, foldedSetIterable e env x = pure x := by
  intro x
  cases e <;> first | rfl | cases h
theorem marks_none {op : CmpOp} {e : Expr} (h : notSet e = true) : behindInMarks op e = false := by
  cases e <;> first | rfl | cases h
def plainIx : Expr → Bool
  | .Slice _ _ _ _ => false
  | _ => true
theorem plainIx_ok {e : Expr} (h : plainIx e = true) : PlainIx e := by
  intro o i
  cases e <;> first | rfl | cases h
/-- by its truth alone -/
def isVal : Expr → Bool
  | .UnaryOp .Not _ _ => false
  | .BoolOp _ _ _ => false
  | .IfExp _ _ _ _ => false
  | .Compare _ _ _ _ => false
  | _ => true
theorem isVal_ok {e : Expr} {env : Env} (h : isVal e = true) : ∀ whole, isTrue e env whole = (do let v ← whole; standAt e.pos; holding [v] (truthy v)) := by
  intro w
  cases e <;> try rfl
  · cases h
  · next op x p => cases op <;> first | rfl | cases h
  · cases h
  · cases h
def isTupE : Expr → Bool
  | .Tuple _ _ _ => true
  | _ => false
theorem sws_none {tg e : Expr} {env : Env} (h : (isTupE tg && isTupE e) = false) (hl : (match tg with | .List _ _ => false | _ => true) = true) : swappedStores [tg] e env = pure none := by
  cases tg <;> first | rfl | (cases hl; done) | (cases e <;> first | rfl | cases h)

/-! ### results -/
structure RE (C : Cfg) (e : Expr) where
  st : Bool
  nw : Bool
  f : DX
  ok : ∀ X W, COk C X W → VE X W C.md st nw e f
structure RF (C : Cfg) (e : Expr) where
  nw : Bool
  f : DX
  ok : ∀ X W, COk C X W → VF X W C.md nw e f
structure RT (C : Cfg) (e : Expr) where
  f : DX
  ok : ∀ X W, COk C X W → VT X W C.md e f
structure RA (C : Cfg) (es : List Expr) where
  st : Bool
  nw : Bool
  f : DXs
  len : ∀ env ds, f env = .ok ds → ds.length = es.length
  ok : ∀ X W, COk C X W → VA X W C.md st nw es f
structure RI (C : Cfg) (tg e : Expr) where
  bo : Bool
  nw : Bool
  f : DXs
  ok : ∀ X W, COk C X W → VI X W C.md bo nw tg e f
structure RGt (C : Cfg) (nw : Bool) (tg : Expr) where
  sl : List Nat
  gd : D → DEnv → Option DEnv
  ok : ∀ X W, COk C X W → VG X C.md nw tg gd sl
structure RGs (C : Cfg) (nw : Bool) (tg : List Expr) where
  sl : List Nat
  gd : List D → DEnv → Option DEnv
  ok : ∀ X W, COk C X W → VGs X C.md nw tg gd sl
def RF.re {C : Cfg} {e : Expr} (r : RF C e) : RE C e := ⟨true, r.nw, r.f, fun X W h => (r.ok X W h).ve⟩

theorem VA.to {X : Cx} {W : WX} {md : Mds} {st nw s2 n2 : Bool} {es : List Expr} {f : DXs} (h : VA X W md st nw es f) (h1 : (s2 && !st) = false) (h2 : (n2 && !nw) = false) : VA X W md s2 n2 es f :=
  ⟨h.run.imp fun σ H Q ⟨T, H0, B, env, R, p⟩ => ⟨T, H0, B, env, R, p.mono fun ds vs H' _ _ q r => q (by
    have : ∀ {vs ds}, Rks st X.K H' (Avd md σ env T H0 nw) vs ds → Rks s2 X.K H' (Avd md σ env T H0 n2) vs ds := by
      intro vs ds r
      induction r with
      | nil => exact .nil
      | cons qq _ ih =>
        refine .cons ?_ ih
        have q2 := qq.weak (A' := Avd md σ env T H0 n2) fun a z => Avd.mono (fun e => by rw [e] at h2; simpa using h2) z
        cases s2 with
        | false => exact q2.loose
        | true => cases st with
          | true => exact q2
          | false => cases h1
    exact this r)⟩⟩
theorem and_l {a b : Bool} : ((a && b) && !a) = false := by cases a <;> cases b <;> rfl
theorem and_r {a b : Bool} : ((a && b) && !b) = false := by cases a <;> cases b <;> rfl

/-- what the step before gives -/
structure Rec where
  e : ∀ (C : Cfg) (e : Expr), Option (RE C e)
  f : ∀ (C : Cfg) (n : Bool) (e : Expr), Option (RF C e)
  t : ∀ (C : Cfg) (e : Expr), Option (RT C e)
section
variable (r : Rec) (C : Cfg)

theorem dCons_len {f : DX} {fs : DXs} {n : Nat} (h : ∀ env ds, fs env = .ok ds → ds.length = n) : ∀ env ds, dCons f fs env = .ok ds → ds.length = n + 1 := fun env ds q => by
  unfold dCons at q
  cases h1 : f env with
  | exc c fs => rw [h1] at q; cases q
  | bad => rw [h1] at q; cases q
  | ok x =>
    rw [h1] at q
    have q : (fs env).bind (fun xs => RG.ok (x :: xs)) = .ok ds := q
    cases h2 : fs env with
    | exc c fs => rw [h2] at q; cases q
    | bad => rw [h2] at q; cases q
    | ok xs => rw [h2] at q; cases q; simp [h env xs h2]
theorem dNil_len : ∀ env ds, dNil env = .ok ds → ds.length = ([] : List Expr).length := fun env ds h => by
  cases h
  rfl
def cArgs : (es : List Expr) → Option (RA C es)
  | [] => some ⟨true, true, dNil, dNil_len, fun X W h => va_nil⟩
  | e :: es => match r.e C e, cArgs es with
    | some a, some b => if hs : starless e = true then some ⟨a.st && b.st, a.nw && b.nw, dCons a.f b.f, dCons_len b.len, fun X W h => va_cons ((a.ok X W h).to and_l and_l) ((b.ok X W h).to and_r and_r) (notStar hs)⟩ else none
    | _, _ => none
theorem find_con {x : Str} {p : Str × D} (hc : C.cons.find? (fun p => decide (p.1 = x)) = some p) {X : Cx} {W : WX} (h : COk C X W) : ConAt X x p.2 := by
  have hm := List.mem_of_find?_eq_some hc
  have he : p.1 = x := by simpa using List.find?_some hc
  have := h.cons p hm
  rw [he] at this
  exact this

def cName (x : Str) (pos : Pos) : Option (RE C (.Name x pos)) :=
  match hs : slot C x with
  | some i => if hv : isVis (lk C x) = true ∧ okNm x = true then
      (if ho : (mdAt C.md i).own = true then some ⟨false, (mdAt C.md i).nw, dVar i, fun X W h => ve_varOwn (h.slot hs) (h.vis hv.1) (okNm1 hv.2) (okNm2 hv.2) ho⟩
      else if hp : (mdAt C.md i).dp = 0 then some ⟨true, (mdAt C.md i).nw, dVar i, fun X W h => ve_var (h.slot hs) (h.vis hv.1) (okNm1 hv.2) (okNm2 hv.2) (by simpa using ho) hp⟩ else none)
    else none
  | none => match hc : C.cons.find? (fun p => decide (p.1 = x)) with
    | some p => if hg : isGl (lk C x) = true ∧ okNm x = true then some ⟨true, true, dC p.2, fun X W h => ve_con (find_con C hc h) (h.gl hg.1) (okNm1 hg.2)⟩ else none
    | none => none
def cConst (c : Const) (j : Nat) (pos : Pos) : Option (RE C (.Constant c j pos)) := match c with
  | .int i => some ⟨true, true, dC (.int i), fun X W h => ve_int⟩
  | .bool i => some ⟨true, true, dC (.bl i), fun X W h => ve_bl⟩
  | .str i => some ⟨true, true, dC (.str i), fun X W h => ve_str⟩
  | .none => some ⟨true, true, dC .non, fun X W h => ve_non⟩
  | _ => none
theorem hu65 {X : Cx} {k : Nat} (h : Room k X.A) : X.A.units + 65 < cLine := by have := h.un; omega
def cBin (a : Expr) (op : Operator) (b : Expr) (pos : Pos) : Option (RE C (.BinOp a op b pos)) := match r.e C a, r.e C b with
  | some x, some y => match op with
    | .Add => some ⟨true, x.nw && y.nw, dBin gAdd x.f y.f, fun X W h => ve_bin opr_add op_gAdd (x.ok X W h) (y.ok X W h)⟩
    | .Sub => some ⟨true, true, dBin gSubI x.f y.f, fun X W h => ve_binS op_sub op_gSubI sc_gSubI (x.ok X W h) (y.ok X W h)⟩
    | .Mult => some ⟨true, true, dBin gMulI x.f y.f, fun X W h => ve_binS op_mul op_gMulI sc_gMulI (x.ok X W h) (y.ok X W h)⟩
    | .FloorDiv => some ⟨true, true, dBin gFdivI x.f y.f, fun X W h => ve_binS op_fdiv op_gFdivI sc_gFdivI (x.ok X W h) (y.ok X W h)⟩
    | .Mod => some ⟨true, true, dBin gModI x.f y.f, fun X W h => ve_binS op_mod op_gModI sc_gModI (x.ok X W h) (y.ok X W h)⟩
    | .Pow => some ⟨true, true, dBin gPowI x.f y.f, fun X W h => ve_binS op_pow op_gPowI sc_gPowI (x.ok X W h) (y.ok X W h)⟩
    | _ => none
  | _, _ => none
def cUn (op : UnaryOp) (a : Expr) (pos : Pos) : Option (RE C (.UnaryOp op a pos)) := match r.e C a with
  | some x => match op with
    | .USub => some ⟨true, true, dUn gNeg x.f, fun X W h => ve_un un_neg op_gNeg sc_gNeg (x.ok X W h)⟩
    | .Not => some ⟨true, true, dNot x.f, fun X W h => ve_not (x.ok X W h)⟩
    | _ => none
  | _ => none
def cCmp (a : Expr) (op : CmpOp) (b : Expr) (pos : Pos) : Option (RE C (.Compare a [op] [b] pos)) := if hb : notSet b = true then (match r.e C a, r.e C b with
  | some x, some y => match op with
    | .Eq => some ⟨true, true, dBin gEq x.f y.f, fun X W h => ve_cmp (op_eqD h.room.units) op_gEq sc_gEq (x.ok X W h) (y.ok X W h) (marks_none hb)⟩
    | .NotEq => some ⟨true, true, dBin gNe x.f y.f, fun X W h => ve_cmp (op_neD h.room.units) op_gNe sc_gNe (x.ok X W h) (y.ok X W h) (marks_none hb)⟩
    | .Lt => some ⟨true, true, dBin gLt x.f y.f, fun X W h => ve_cmp (opr_lt h.room.units0) op_gLt sc_gLt (x.ok X W h) (y.ok X W h) (marks_none hb)⟩
    | .LtE => some ⟨true, true, dBin (gCmpI fun i j => decide (i ≤ j)) x.f y.f, fun X W h => ve_cmp op_le op_gCmpI sc_gCmpI (x.ok X W h) (y.ok X W h) (marks_none hb)⟩
    | .Gt => some ⟨true, true, dBin (gCmpI fun i j => decide (j < i)) x.f y.f, fun X W h => ve_cmp op_gt op_gCmpI sc_gCmpI (x.ok X W h) (y.ok X W h) (marks_none hb)⟩
    | .GtE => some ⟨true, true, dBin (gCmpI fun i j => decide (j ≤ i)) x.f y.f, fun X W h => ve_cmp op_ge op_gCmpI sc_gCmpI (x.ok X W h) (y.ok X W h) (marks_none hb)⟩
    | .Is => some ⟨true, true, dBin gIsN x.f y.f, fun X W h => ve_cmp op_isN op_gIsN sc_gIsN (x.ok X W h) (y.ok X W h) (marks_none hb)⟩
    | .IsNot => some ⟨true, true, dBin gNotN x.f y.f, fun X W h => ve_cmp op_notN op_gNotN sc_gNotN (x.ok X W h) (y.ok X W h) (marks_none hb)⟩
    | .In => some ⟨true, true, dBin gIn x.f y.f, fun X W h => ve_cmp (opr_in (hu65 h.room)) op_gIn sc_gIn (x.ok X W h) (y.ok X W h) (marks_none hb)⟩
    | .NotIn => some ⟨true, true, dBin gNotIn x.f y.f, fun X W h => ve_cmp (opr_notIn (hu65 h.room)) op_gNotIn sc_gNotIn (x.ok X W h) (y.ok X W h) (marks_none hb)⟩
  | _, _ => none) else none
def tCmp' (a : Expr) (op : CmpOp) (b : Expr) (pos : Pos) : Option (RT C (.Compare a [op] [b] pos)) := if hb : notSet b = true then (match r.e C a, r.e C b with
  | some x, some y => match op with
    | .Eq => some ⟨dBin gEq x.f y.f, fun X W h => vt_cmp (op_eqD h.room.units) op_gEq sc_gEq (x.ok X W h) (y.ok X W h) (marks_none hb)⟩
    | .NotEq => some ⟨dBin gNe x.f y.f, fun X W h => vt_cmp (op_neD h.room.units) op_gNe sc_gNe (x.ok X W h) (y.ok X W h) (marks_none hb)⟩
    | .Lt => some ⟨dBin gLt x.f y.f, fun X W h => vt_cmp (opr_lt h.room.units0) op_gLt sc_gLt (x.ok X W h) (y.ok X W h) (marks_none hb)⟩
    | .LtE => some ⟨dBin (gCmpI fun i j => decide (i ≤ j)) x.f y.f, fun X W h => vt_cmp op_le op_gCmpI sc_gCmpI (x.ok X W h) (y.ok X W h) (marks_none hb)⟩
    | .Gt => some ⟨dBin (gCmpI fun i j => decide (j < i)) x.f y.f, fun X W h => vt_cmp op_gt op_gCmpI sc_gCmpI (x.ok X W h) (y.ok X W h) (marks_none hb)⟩
    | .GtE => some ⟨dBin (gCmpI fun i j => decide (j ≤ i)) x.f y.f, fun X W h => vt_cmp op_ge op_gCmpI sc_gCmpI (x.ok X W h) (y.ok X W h) (marks_none hb)⟩
    | .Is => some ⟨dBin gIsN x.f y.f, fun X W h => vt_cmp op_isN op_gIsN sc_gIsN (x.ok X W h) (y.ok X W h) (marks_none hb)⟩
    | .IsNot => some ⟨dBin gNotN x.f y.f, fun X W h => vt_cmp op_notN op_gNotN sc_gNotN (x.ok X W h) (y.ok X W h) (marks_none hb)⟩
    | .In => some ⟨dBin gIn x.f y.f, fun X W h => vt_cmp (opr_in (hu65 h.room)) op_gIn sc_gIn (x.ok X W h) (y.ok X W h) (marks_none hb)⟩
    | .NotIn => some ⟨dBin gNotIn x.f y.f, fun X W h => vt_cmp (opr_notIn (hu65 h.room)) op_gNotIn sc_gNotIn (x.ok X W h) (y.ok X W h) (marks_none hb)⟩
  | _, _ => none) else none
def cAnd (pos : Pos) : (es : List Expr) → Option (RE C (.BoolOp .And es pos))
  | [] => none
  | [a] => match r.e C a with
    | some x => some ⟨x.st, x.nw, x.f, fun X W h => ve_one (x.ok X W h)⟩
    | none => none
  | a :: b :: es => match r.e C a, cAnd pos (b :: es) with
    | some x, some y => some ⟨y.st, y.nw, dAnd x.f y.f, fun X W h => ve_and (x.ok X W h) (y.ok X W h)⟩
    | _, _ => none
def cOr (pos : Pos) : (es : List Expr) → Option (RE C (.BoolOp .Or es pos))
  | [] => none
  | [a] => match r.e C a with
    | some x => some ⟨x.st, x.nw, x.f, fun X W h => ve_one (x.ok X W h)⟩
    | none => none
  | a :: b :: es => match r.e C a, cOr pos (b :: es) with
    | some x, some y => some ⟨y.st, y.nw, dOr x.f y.f, fun X W h => ve_or (x.ok X W h) (y.ok X W h)⟩
    | _, _ => none
structure RW' (C : Cfg) (e : Expr) where
  f : DX
  ok : ∀ X W, COk C X W → VW X W C.md e f
def wAnd (pos : Pos) : (es : List Expr) → Option (RW' C (.BoolOp .And es pos))
  | [] => none
  | [a] => match r.t C a with
    | some x => some ⟨x.f, fun X W h => vw_and1 (x.ok X W h)⟩
    | none => none
  | a :: b :: es => match r.t C a, wAnd pos (b :: es) with
    | some x, some y => some ⟨dAnd x.f y.f, fun X W h => vw_and (x.ok X W h) (y.ok X W h)⟩
    | _, _ => none
def wOr (pos : Pos) : (es : List Expr) → Option (RW' C (.BoolOp .Or es pos))
  | [] => none
  | [a] => match r.t C a with
    | some x => some ⟨x.f, fun X W h => vw_or1 (x.ok X W h)⟩
    | none => none
  | a :: b :: es => match r.t C a, wOr pos (b :: es) with
    | some x, some y => some ⟨dOr x.f y.f, fun X W h => vw_or (x.ok X W h) (y.ok X W h)⟩
    | _, _ => none
/-- a test -/
def stepT (e : Expr) : Option (RT C e) := match e with
  | .UnaryOp .Not a pos => match r.t C a with
    | some x => some ⟨dNot x.f, fun X W h => vt_not (x.ok X W h)⟩
    | none => none
  | .BoolOp .And es pos => match wAnd r C pos es with
    | some x => some ⟨x.f, fun X W h => (x.ok X W h).vt⟩
    | none => none
  | .BoolOp .Or es pos => match wOr r C pos es with
    | some x => some ⟨x.f, fun X W h => (x.ok X W h).vt⟩
    | none => none
  | .Compare a [op] [b] pos => tCmp' r C a op b pos
  | e => if hv : isVal e = true then (match r.e C e with
    | some x => some ⟨x.f, fun X W h => vt_val' (x.ok X W h) (isVal_ok hv)⟩
    | none => none) else none
def cPart (o : Option Expr) : Option {f : DEnv → RG (Option Int) // ∀ X W, COk C X W → VO X W C.md o f} := match o with
  | none => some ⟨dNo, fun X W h => vo_none⟩
  | some e => match r.e C e with
    | some x => some ⟨dPart x.f, fun X W h => vo_some (x.ok X W h)⟩
    | none => none
def cSub (a b : Expr) (pos : Pos) : Option (RE C (.Subscript a b pos)) := match b with
  | .Slice lo hi none p2 => match r.e C a, cPart r C lo, cPart r C hi with
    | some x, some l, some h => some ⟨true, x.nw, dSl x.f l.1 h.1, fun X W k => ve_slice (x.ok X W k) (l.2 X W k) (h.2 X W k)⟩
    | _, _, _ => none
  | b => if hp : plainIx b = true then (match r.e C a, r.e C b with
    | some x, some y => some ⟨true, x.nw && y.nw, dBin gIx x.f y.f, fun X W h => ve_ix (by have := h.room.un; omega) (x.ok X W h) (y.ok X W h) (plainIx_ok hp)⟩
    | _, _ => none) else none
def findF (x : Str) : Option {F : FEnt // F ∈ C.fns ∧ F.name = x} := match h : C.fns.find? (fun F => decide (F.name = x)) with
  | some F => some ⟨F, List.mem_of_find?_eq_some h, by simpa using List.find?_some h⟩
  | none => none
/-- a call that is a value -/
def cCall (x : Str) (p : Pos) (es : List Expr) (pos : Pos) : Option (RE C (.Call (.Name x p) es [] pos)) := match es with
  | [] => none
  | e :: es => match cArgs r C (e :: es) with
    | none => none
    | some a => if hs : (e :: es).all starless = true then
      (match findF C x with
      | some ⟨F, hm, hn⟩ => if hg : isGl (lk C x) = true ∧ okNm x = true ∧ F.ar = (e :: es).length then
          (if hf : F.fresh = true then some ⟨true, true, dCall F.den a.f, fun X W h => by subst hn; exact ve_call hf (h.fns F hm) h.room (h.gl hg.1) h.tk (a.ok X W h) (fun env ds q => by rw [hg.2.2]; exact a.len env ds q) (okNm1 hg.2.1) hs⟩
          else if ha : a.st = true then some ⟨true, a.nw, dCall F.den a.f, fun X W h => by subst hn; exact ve_callA (by simpa using hf) (h.fns F hm) h.room (h.gl hg.1) h.tk (by have := a.ok X W h; rw [ha] at this; exact this) (fun env ds q => by rw [hg.2.2]; exact a.len env ds q) (okNm1 hg.2.1) hs⟩
          else none)
        else none
      | none => if hb : bltOk C x = true then
          (if h1 : x = ("len" : Str) then some ⟨true, true, dCallO gLen a.f, fun X W h => by subst h1; exact ve_bltS call_len cd_len sc_len (h.bltAt hb PySem.boot_len) (a.ok X W h) hs⟩
          else if h1 : x = ("max" : Str) then some ⟨true, true, dCallO gMax a.f, fun X W h => by subst h1; exact ve_bltS ((cr_max h.calm).or (call_max2 h.calm)) cd_max sc_max (h.bltAt hb (by decide +kernel)) (a.ok X W h) hs⟩
          else if h1 : x = ("min" : Str) then some ⟨true, true, dCallO gMin a.f, fun X W h => by subst h1; exact ve_bltS ((cr_min h.calm).or (call_min2 h.calm)) cd_min sc_min (h.bltAt hb (by decide +kernel)) (a.ok X W h) hs⟩
          else if h1 : x = ("all" : Str) then some ⟨true, true, dCallO gAll a.f, fun X W h => by subst h1; exact ve_bltS (cr_all h.calm) cd_all sc_all (h.bltAt hb (by decide +kernel)) (a.ok X W h) hs⟩
          else if h1 : x = ("any" : Str) then some ⟨true, true, dCallO gAny a.f, fun X W h => by subst h1; exact ve_bltS (cr_any h.calm) cd_any sc_any (h.bltAt hb (by decide +kernel)) (a.ok X W h) hs⟩
          else if h1 : x = ("sum" : Str) then some ⟨true, true, dCallO gSum a.f, fun X W h => by subst h1; exact ve_bltS (cr_sum h.calm) cd_sum sc_sum (h.bltAt hb (by decide +kernel)) (a.ok X W h) hs⟩
          else if h1 : x = ("abs" : Str) then some ⟨true, true, dCallO gAbs a.f, fun X W h => by subst h1; exact ve_bltS call_abs cd_abs sc_abs (h.bltAt hb (by decide +kernel)) (a.ok X W h) hs⟩
          else if h1 : x = ("tuple" : Str) then some ⟨true, a.nw, dCallO gTuple a.f, fun X W h => by subst h1; exact ve_bty call_tuple_of cd_tuple (h.bltAt hb (by decide +kernel)) (a.ok X W h) hs⟩
          else none) else none)
      else none
/-- isinstance(e, T) -/
def tyOf (x : Str) : Option {t : TyN // x = Str.ofString t.nm} :=
  if h : x = Str.ofString TyN.list.nm then some ⟨.list, h⟩
  else if h : x = Str.ofString TyN.tuple.nm then some ⟨.tuple, h⟩
  else if h : x = Str.ofString TyN.bool.nm then some ⟨.bool, h⟩
  else if h : x = Str.ofString TyN.int.nm then some ⟨.int, h⟩
  else none
theorem tyBoot (t : TyN) : bootBuiltins (Str.ofString t.nm) = some (.type t.nm) := by cases t <;> decide +kernel
def cInst (p : Pos) (e : Expr) (y : Str) (p2 : Pos) (pos : Pos) : Option (RE C (.Call (.Name "isinstance" p) [e, .Name y p2] [] pos)) := match tyOf y, r.e C e with
  | some ⟨t, ht⟩, some x => if hb : bltOk C "isinstance" = true ∧ bltOk C y = true ∧ starless e = true then some ⟨true, true, dIsT t x.f, fun X W h => by
      subst ht
      exact ve_isinst (h.bltAt hb.1 (by decide +kernel)) (h.bltAt hb.2.1 (tyBoot t)) (x.ok X W h) hb.2.2⟩ else none
  | _, _ => none
end
end Dl

/-! Dl10: new lists by + and slices, dicts made, what stands free of the entry, the reader's steps. -/
namespace Dl
open PySem PySem.Spec PyProof.Rows L2 RZ RT
section
variable {X : Cx} {W : WX} {md : Mds} {fr st nw sa na sb nb bo : Bool} {e a b tg : Expr} {f fa fb : DX} {pos : Pos} {es : List Expr} {fs : DXs} {g h : DS}

/-! ### new lists -/
theorem vf_cat (ha : VE X W md sa na a fa) (hb : VE X W md sb nb b fb) : VF X W md (na && nb) (.BinOp a .Add b pos) (dBin gCatL fa fb) :=
  ⟨(pe_op opr_add ha.run hb.run).imp fun σ H Q ⟨T, H0, B, env, R, p⟩ => ⟨T, H0, B, env, R, p.bind.mono fun dx x H1 s1 _ p1 rx => ⟨T, H0, B, env, R.same s1, p1.bind.mono fun dy y H2 s2 _ p2 ry => by
    have rx' := (rx.same s2).weak fun a z => Avd.mono (nw := na && nb) (fun e => (Bool.and_eq_true_iff.mp e).1) z
    have ry' := ry.weak fun a z => Avd.mono (nw := na && nb) (fun e => (Bool.and_eq_true_iff.mp e).2) z
    cases dx with
    | lst xs => cases dy with
      | lst ys =>
        have p2 : EP0 X.K X.mg W σ H2 (RG.ofO (if xs.length + ys.length ≤ sizeLine then some (D.lst (xs ++ ys)) else none)) _ := p2
        by_cases hz : xs.length + ys.length ≤ sizeLine
        · rw [if_pos hz] at p2
          obtain ⟨a, vs, rfl, h, r⟩ := rx'.lst
          obtain ⟨b, ws, rfl, h2, r2⟩ := ry'.lst
          refine .inl (.inl (.inr ⟨a, b, vs, ws, rfl, rfl, h, h2, by rw [r.length, r2.length]; exact hz, fun q nq => ?_⟩))
          exact p2 _ _ (same_new nq) ⟨q, rfl, Same.free (s1.trans s2) nq, vs ++ ws, upd_same, (r.append r2).new nq⟩
        · rw [if_neg hz] at p2
          exact p2.elim
      | _ => exact p2.elim
    | _ => exact p2.elim⟩⟩⟩
def gSlL : D → Option Int → Option Int → Option D
  | .lst ds, l, h => some (.lst (cutD ds l h))
  | .frl ds, l, h => some (.lst (cutD ds l h))
  | _, _, _ => none
def dSlL (f : DX) (l h : DEnv → RG (Option Int)) : DX := fun env => (f env).bind fun x => (l env).bind fun i => (h env).bind fun j => .ofO (gSlL x i j)
theorem vf_slice {lo hi : Option Expr} {fl fh : DEnv → RG (Option Int)} {p2 : Pos} (he : VE X W md st nw e f) (hl : VO X W md lo fl) (hh : VO X W md hi fh) : VF X W md nw (.Subscript e (.Slice lo hi none p2) pos) (dSlL f fl fh) :=
  ⟨(pe_slice sl_all he.run hl.run hh.run).imp fun σ H Q ⟨T, H0, B, env, R, p⟩ => ⟨T, H0, B, env, R, p.bind.mono fun dx x H1 s1 _ p1 r1 =>
    ⟨T, H0, B, env, R.same s1, p1.bind.mono fun l _ H2 s2 _ p2 =>
      ⟨T, H0, B, env, (R.same s1).same s2, p2.bind.mono fun h _ H3 s3 _ p3 => by
        have r3 := (r1.same s2).same s3
        have fin : ∀ {vs : List V} {ds : List D}, Rps X.K H3 (Avd md σ env T H0 nw) vs ds → EP0 X.K X.mg W σ H3 (RG.ok (D.lst (cutD ds l h))) (fun d v H' => (∃ p, v = V.ref p ∧ H p = none ∧ Top X.K H' (fun a => Avd md σ env T H0 nw a ∨ a = p) p d) → Q v H') → ∀ q, H3 q = none → Q (.ref q) (upd H3 q (.lst (cutV vs l h))) := fun r p q nq =>
          p _ _ (same_new nq) ⟨q, rfl, Same.free ((s1.trans s2).trans s3) nq, _, upd_same, (r.cut l h).new nq⟩
        cases dx with
        | lst ds =>
          obtain ⟨a, vs, rfl, hh, r⟩ := r3.lst
          exact .inl ⟨a, vs, rfl, SqL.of hh, fin r p3⟩
        | frl ds =>
          obtain ⟨a, vs, rfl, hh, r⟩ := r3.frl
          exact .inl ⟨a, vs, rfl, hh.sq, fin r p3⟩
        | _ => exact p3.elim⟩⟩⟩⟩
/-- {} -/
theorem vf_dnew (t : Bool) : VF X W md true (.Dict [] [] pos) (dC (.dic t [] [])) := by
  cases t with
  | false => exact ⟨pe_dnewK.imp fun σ H Q ⟨T, H0, B, env, R, p⟩ => fun q nq => p _ _ (same_new nq) ⟨q, rfl, nq, [], ⟨[], upd_same, rfl, rfl⟩, .nil⟩⟩
  | true => exact ⟨pe_dnewT.imp fun σ H Q ⟨T, H0, B, env, R, p⟩ => fun q nq => p _ _ (same_new nq) ⟨q, rfl, nq, [], ⟨[], upd_same, rfl, rfl⟩, .nil⟩⟩

/-! ### free of the entry -/
def tDQ (K : PySem.W.Frag) (mg : Str → Option Value) (W : WX) (md : Mds) (f : DX) : TE := fun σ H Q => ∃ (T : Pred) (H0 B : Hp) (env : DEnv), Rel K md T H0 B H σ env ∧
  EP0 K mg W σ H (f env) fun d v H' => Rp K H' (fun a => ∃ o, H0 a = some o) v d → Q v H'
def tDQs (K : PySem.W.Frag) (mg : Str → Option Value) (W : WX) (md : Mds) (f : DXs) : TA := fun σ H Q => ∃ (T : Pred) (H0 B : Hp) (env : DEnv), Rel K md T H0 B H σ env ∧
  EP0 K mg W σ H (f env) fun ds vs H' => Rps K H' (fun a => ∃ o, H0 a = some o) vs ds → Q vs H'
structure VQ (X : Cx) (W : WX) (md : Mds) (e : Expr) (f : DX) : Prop where
  run : PE X e (tDQ X.K X.mg W md f)
structure VQs (X : Cx) (W : WX) (md : Mds) (es : List Expr) (f : DXs) : Prop where
  run : PA X es (tDQs X.K X.mg W md f)
theorem VE.vq (h : VE X W md true true e f) : VQ X W md e f := ⟨h.run.imp fun σ H Q ⟨T, H0, B, env, R, p⟩ => ⟨T, H0, B, env, R, p.mono fun d v H' _ _ q r => q (r.strict.weak fun a z => .inr (.inr ⟨rfl, z⟩))⟩⟩
theorem vq_own {i : Nat} {x : Str} (hN : X.N[i]? = some x) (hv : Vis X.env.scope x) (hd : (x == ("__debug__" : Str)) = false) (hcd : (x == ("__classdict__" : Str)) = false) (ho : (mdAt md i).own = true) (hw : (mdAt md i).nw = true) :
    VQ X W md (.Name x pos) (dVar i) := ⟨(pe_var hN hv hd hcd).imp fun σ H Q ⟨T, H0, B, env, R, p⟩ => by
  unfold dVar at p
  split at p
  · next d e =>
    cases hl : isLD d with
    | false =>
      obtain ⟨v, ev, i, r⟩ := R.ownedI e ho hl
      exact ⟨_, ev, p _ H (Same.refl _) (Rp.imm _ _ r i)⟩
    | true =>
    obtain ⟨a, ev, oa, t⟩ := R.owned e ho hl
    have nA : ¬ ∃ o, H0 a = some o := fun ⟨o, z⟩ => by
      obtain ⟨u, z⟩ := R.s0 _ _ z
      rw [R.out i a oa] at z
      cases z
    refine ⟨_, ev, p _ H (Same.refl _) ?_⟩
    have w : ∀ b, (∃ o, H0 b = some o) → Avd md σ env T H0 (mdAt md i).nw b := fun b z => .inr (.inr ⟨hw, z⟩)
    cases d with
    | lst ds => obtain ⟨vs, e, r⟩ := t; exact Rp.lst.mpr ⟨a, vs, rfl, nA, e, r.weak w⟩
    | dic b ks ws => obtain ⟨vs, e, r⟩ := t; exact Rp.dic.mpr ⟨a, vs, rfl, nA, e.mono fun _ z => .inl z, r.weak w⟩
    | non => exact t.elim
    | bl _ => exact t.elim
    | int _ => exact t.elim
    | str _ => exact t.elim
    | tup _ => exact t.elim
    | frl _ => exact t.elim
    | ktp _ => exact t.elim
  · exact p.elim⟩
/-- a new list or dict whose items are free of lists -/
def immL : D → Bool
  | .lst ds => imms ds
  | .dic _ ks ws => imms ks && imms ws
  | _ => false
def dImmL (f : DX) : DX := fun env => (f env).bind fun d => if immL d then .ok d else .bad
theorem Top.imm {K : PySem.W.Frag} {H : Hp} {A A' : Pred} {p : Addr} {d : D} (t : Top K H A p d) (h : immL d = true) : Top K H A' p d := by
  cases d with
  | lst ds => obtain ⟨vs, e, r⟩ := t; exact ⟨vs, e, Rps.imm _ _ r h⟩
  | dic b ks ws =>
    have h : (imms ks && imms ws) = true := h
    rw [Bool.and_eq_true] at h
    obtain ⟨vs, e, r⟩ := t
    exact ⟨vs, e, Rps.imm _ _ r h.2⟩
  | non => exact t.elim
  | bl _ => exact t.elim
  | int _ => exact t.elim
  | str _ => exact t.elim
  | tup _ => exact t.elim
  | frl _ => exact t.elim
  | ktp _ => exact t.elim
theorem Top.weakA {K : PySem.W.Frag} {H : Hp} {A A' : Pred} {p : Addr} {d : D} (t : Top K H A p d) (w : ∀ b, A' b → A b) : Top K H A' p d := by
  cases d with
  | lst ds => obtain ⟨vs, e, r⟩ := t; exact ⟨vs, e, r.weak w⟩
  | dic b ks ws => obtain ⟨vs, e, r⟩ := t; exact ⟨vs, e, r.weak w⟩
  | non => exact t.elim
  | bl _ => exact t.elim
  | int _ => exact t.elim
  | str _ => exact t.elim
  | tup _ => exact t.elim
  | frl _ => exact t.elim
  | ktp _ => exact t.elim
theorem VF.immL (h : VF X W md nw e f) : VF X W md true e (dImmL f) := ⟨h.run.imp fun σ H Q ⟨T, H0, B, env, R, p⟩ => ⟨T, H0, B, env, R, by
  unfold dImmL at p
  exact p.bind.mono fun d v H' s _ q t => by
    obtain ⟨a, rfl, np, t⟩ := t
    by_cases ok : Dl.immL d = true
    · rw [if_pos ok] at q
      exact q _ _ (Same.refl _) ⟨a, rfl, np, t.imm ok⟩
    · rw [if_neg ok] at q
      exact q.elim⟩⟩
theorem VF.vq (h : VF X W md true e f) : VQ X W md e f := ⟨h.run.imp fun σ H Q ⟨T, H0, B, env, R, p⟩ => ⟨T, H0, B, env, R, p.mono fun d v H' s _ q t => by
    obtain ⟨a, rfl, np, t⟩ := t
    refine q (Top.rpA (A := fun a => ∃ o, H0 a = some o) ?_ ?_)
    · exact t.weakA fun b z => z.elim (fun z => .inl (.inr (.inr ⟨rfl, z⟩))) .inr
    · rintro ⟨o, z⟩
      obtain ⟨u, z⟩ := R.s0 _ _ z
      rw [R.sB _ _ z] at np
      cases np⟩⟩
theorem vqs_nil : VQs X W md [] dNil := ⟨pa_nil.imp fun σ H Q ⟨T, H0, B, env, R, p⟩ => p [] H (Same.refl _) .nil⟩
theorem vqs_cons (h : VQ X W md e f) (hr : VQs X W md es fs) (hs : starEach (e :: es) X.env = (false, eval e X.env) :: starEach es X.env) : VQs X W md (e :: es) (dCons f fs) :=
  ⟨(pa_cons h.run hr.run hs).imp fun σ H Q ⟨T, H0, B, env, R, p⟩ => ⟨T, H0, B, env, R, p.bind.mono fun d v H1 s1 _ p1 r1 =>
    ⟨T, H0, B, env, R.same s1, p1.bind.mono fun ds vs H2 s2 _ p2 r2 => p2 (v :: vs) H2 (Same.refl _) (.cons (r1.same s2) r2)⟩⟩⟩
theorem vq_tup {k : Nat} (h : VQs X W md es fs) : VQ X W md (.Tuple es k pos) (dTup fs) :=
  ⟨(pe_tup h.run).imp fun σ H Q ⟨T, H0, B, env, R, p⟩ => ⟨T, H0, B, env, R, p.bind.mono fun ds vs H1 s1 _ p1 r => by
    by_cases z : ds.length ≤ sizeLine
    · rw [if_pos z] at p1
      refine ⟨by rw [r.length]; exact z, fun q nq => ?_⟩
      exact p1 _ _ (same_new nq) (Rp.tup.mpr ⟨q, vs, rfl, upd_same, (r.same (same_new nq))⟩)
    · rw [if_neg z] at p1
      exact p1.elim⟩⟩
theorem vs_retQ (he : VQ X W md e f) : VS X W md true (.Return (some e) pos) (dRetV f) :=
  ⟨(ps_ret he.run).imp fun D σ H ⟨T0, T, H0, B, env, t0, R, p⟩ => ⟨T, H0, B, env, R, (out_of t0 R p).mono fun d v H' s _ q r => by
    cases hl : isLD d with
    | true => rw [hl, if_pos rfl] at q; exact q.elim
    | false =>
      rw [hl, if_neg Bool.false_ne_true] at q
      exact q v H' (R.sB.trans s) (Rp.rpf r hl)⟩⟩
/-- a statement that is never reached -/
def dNever : DS := fun _ => .bad
theorem vs_never {s : Stmt} : VS X W md fr s dNever := ⟨ps_never.imp fun D σ H ⟨T0, T, H0, B, env, t0, R, p⟩ => p⟩
/-- x = y of an owned y that is not asked again: it goes over -/
def dMove (i j : Nat) : DS := fun env => match env[j]? with
  | some (some d) => if isLD d = true then .nx ((env.set j none).set i (some d)) else .bad
  | _ => .bad
theorem Rel.move {K : PySem.W.Frag} {T : Pred} {H0 B H : Hp} {σ : L2.St} {env : DEnv} (R : Rel K md T H0 B H σ env) {i j : Nat} {d : D} {a : Addr} (hij : i ≠ j) (ej : env[j]? = some (some d)) (oa : OwnAt md σ env j a) (hp : (mdAt md i).dp = 0) (hw : ((mdAt md i).nw && !(mdAt md j).nw) = false) (t : Top K H (Avd md σ env T H0 (mdAt md j).nw) a d) :
    Rel K md T H0 B H (σ.set i (some (.ref a))) ((env.set j none).set i (some d)) := by
  have own : ∀ {k b}, OwnAt md (σ.set i (some (.ref a))) ((env.set j none).set i (some d)) k b → (k ≠ i ∧ k ≠ j ∧ OwnAt md σ env k b) ∨ (k = i ∧ (mdAt md i).own = true ∧ b = a) := fun {k b} o => by
    obtain ⟨h1, ⟨d', h2, hl'⟩, h3⟩ := o
    by_cases z : k = i
    · subst z
      refine .inr ⟨rfl, h1, ?_⟩
      by_cases hl : k < σ.length
      · rw [List.getElem?_set_self hl] at h3
        cases h3
        rfl
      · rw [List.getElem?_eq_none (by simpa using hl)] at h3
        cases h3
    · rw [List.getElem?_set_ne (Ne.symm z)] at h2 h3
      obtain ⟨hk, h2⟩ := kill_lookup h2
      exact .inl ⟨z, hk, h1, ⟨d', h2, hl'⟩, h3⟩
  have av : ∀ {m b}, Avd md (σ.set i (some (.ref a))) ((env.set j none).set i (some d)) T H0 m b → Avd md σ env T H0 m b := fun {m b} h => by
    rcases h with ⟨k, o⟩ | h
    · rcases own o with ⟨_, _, o⟩ | ⟨_, _, e⟩
      · exact .inl ⟨k, o⟩
      · subst e; exact .inl ⟨j, oa⟩
    · exact .inr h
  have nA : ∀ m, (∀ k b, OwnAt md (σ.set i (some (.ref a))) ((env.set j none).set i (some d)) k b → k ≠ i) → ¬ Avd md (σ.set i (some (.ref a))) ((env.set j none).set i (some d)) T H0 m a := fun m no z => by
    rcases z with ⟨k, o⟩ | z | ⟨_, u, z⟩
    · rcases own o with ⟨_, hj, o'⟩ | ⟨e, _, _⟩
      · exact hj (R.sep k j a o' oa)
      · exact no k a o e
    · exact R.tO j a oa z
    · obtain ⟨w, z⟩ := R.s0 _ _ z
      rw [R.out j a oa] at z
      cases z
  refine ⟨R.s0, R.sB, R.tB, by simp [R.len], fun k d2 e hd => ?_, fun k b o => ?_, fun k l b o o' => ?_, fun k b o => ?_, R.st, R.tM, fun k d2 e hd => by
    have hk : k ≠ i := fun z => by subst z; exact hd hp
    rw [List.getElem?_set_ne (Ne.symm hk)] at e
    rw [List.getElem?_set_ne (Ne.symm hk)]
    exact R.deep k d2 (kill_lookup e).2 hd⟩
  · by_cases z : k = i
    · subst z
      by_cases hl : k < env.length
      · rw [List.getElem?_set_self (by simpa using hl)] at e
        cases e
        refine ⟨_, List.getElem?_set_self (by rw [R.len]; exact hl), ?_⟩
        have wk : ∀ b, Avd md (σ.set k (some (.ref a))) ((env.set j none).set k (some d)) T H0 (mdAt md k).nw b → Avd md σ env T H0 (mdAt md j).nw b := fun b z => Avd.mono (fun e => by rw [e] at hw; simpa using hw) (av z)
        unfold SlotOk
        by_cases ho : (mdAt md k).own = true
        · rw [if_pos ho]
          exact .ofTop (t.carry (.weak wk) fun _ u => u)
        · rw [if_neg ho]
          have nA' := nA (mdAt md k).nw fun k' b o e => by subst e; exact ho o.1
          cases d with
          | lst ds => obtain ⟨vs, e, r⟩ := t; exact Rp.lst.mpr ⟨a, vs, rfl, nA', e, r.weak wk⟩
          | dic b ks ws => obtain ⟨vs, e, r⟩ := t; exact Rp.dic.mpr ⟨a, vs, rfl, nA', e.mono fun _ z => .inl z, r.weak wk⟩
          | non => exact t.elim
          | bl _ => exact t.elim
          | int _ => exact t.elim
          | str _ => exact t.elim
          | tup _ => exact t.elim
          | frl _ => exact t.elim
          | ktp _ => exact t.elim
      · rw [List.getElem?_eq_none (by simpa using hl)] at e
        cases e
    · rw [List.getElem?_set_ne (Ne.symm z)] at e
      obtain ⟨hk, e⟩ := kill_lookup e
      obtain ⟨v, ev, q⟩ := R.slot k d2 e hd
      refine ⟨v, by rw [List.getElem?_set_ne (Ne.symm z)]; exact ev, ?_⟩
      unfold SlotOk at *
      split at q
      · next h => rw [if_pos h]; exact q.carry (.weak fun _ => av) fun _ _ _ _ u => u
      · next h => rw [if_neg h]; exact q.weak fun _ => av
  · rcases own o with ⟨_, _, o⟩ | ⟨_, _, e⟩
    · exact R.out k b o
    · subst e; exact R.out j _ oa
  · rcases own o with ⟨hi, hj, o1⟩ | ⟨hi, _, e⟩ <;> rcases own o' with ⟨hk, hl, o2⟩ | ⟨hk, _, e'⟩
    · exact R.sep k l b o1 o2
    · subst e'; exact absurd (R.sep k j _ o1 oa) hj
    · subst e; exact absurd (R.sep l j _ o2 oa) hl
    · rw [hi, hk]
  · rcases own o with ⟨_, _, o⟩ | ⟨_, _, e⟩
    · exact R.tO k b o
    · subst e; exact R.tO j _ oa
theorem vs_move {i j : Nat} {x y : Str} {p1 p2 : Pos} (hij : i ≠ j) (hnd : X.N.Nodup) (hi : X.N[i]? = some x) (hx : L2.Loc X.env.scope x) (hf : X.fn x = true ∨ X.env.scope.names.lookup x = some .local) (hN : X.N[j]? = some y) (hv : Vis X.env.scope y) (hd : (y == ("__debug__" : Str)) = false) (hcd : (y == ("__classdict__" : Str)) = false)
    (ho : (mdAt md j).own = true) (hp : (mdAt md i).dp = 0) (hw : ((mdAt md i).nw && !(mdAt md j).nw) = false) : VS X W md fr (.Assign [.Name x p1] (.Name y p2) pos) (dMove i j) :=
  ⟨(ps_set hnd hi hx (pe_var hN hv hd hcd) rfl hf).imp fun D σ H ⟨T0, T, H0, B, env, t0, R, p⟩ => by
    unfold dMove at p
    cases ee : env[j]? with
    | none => rw [ee] at p; exact p.elim
    | some o =>
      cases o with
      | none => rw [ee] at p; exact p.elim
      | some d =>
        rw [ee] at p
        have p2 : SP0 X.K X.mg W md fr T0 H0 B (if isLD d = true then .nx ((env.set j none).set i (some d)) else .bad) D := p
        clear p
        cases hl : isLD d with
        | false => rw [hl, if_neg Bool.false_ne_true] at p2; exact p2.elim
        | true =>
        rw [if_pos hl] at p2
        obtain ⟨a, ev, oa, t⟩ := R.owned ee ho hl
        exact ⟨_, ev, p2 T _ H t0 (R.move hij ee oa hp hw t)⟩⟩
/-- x, y = a, b: two names of the def alone -/
def dPar (i j : Nat) (fs : DXs) : DS := fun env => (fs env).out env fun ds => match ds with
  | [x, y] => .nx ((env.set j (some y)).set i (some x))
  | _ => .bad
end
end Dl

/-! Dl10b: int(x), x, y = a, b, sorted, max and min of data. -/
namespace Dl
open PySem PySem.Spec PyProof.Rows L2 RZ RT
section
variable {X : Cx} {W : WX} {md : Mds} {fr st nw sa na sb nb bo : Bool} {e a b tg : Expr} {f fa fb : DX} {pos : Pos} {es : List Expr} {fs : DXs} {g h : DS}
/-! ### int(x) of a number, a truth -/
def gInt : List D → Option D
  | [.int i] => some (.int i)
  | [.bl k] => some (.int (if k then 1 else 0))
  | _ => none
theorem cd_int : CallD X (fun xs H Q => (∃ i, xs = [.int i] ∧ Q (.int i) H) ∨ ∃ k, xs = [.bl k] ∧ Q (.int (if k then 1 else 0)) H) gInt := by
  intro H A xs ds Q _ r p
  unfold gInt at p
  split at p
  · obtain ⟨v, rfl, q⟩ := r.one
    exact .inl ⟨_, by rw [q.int], gp_scalar p (Rp.int.mpr rfl)⟩
  · obtain ⟨v, rfl, q⟩ := r.one
    exact .inr ⟨_, by rw [q.bl], gp_scalar p (Rp.int.mpr rfl)⟩
  · exact p.elim
theorem sc_int : ScalarN gInt := by
  intro ds d e
  unfold gInt at e
  split at e <;> cases e <;> rfl
theorem ve_btyS {x : Str} {id : String} {p : Pos} {r : List V → Hp → VK → Prop} {g : List D → Option D} (hc : CallR X (.type id) r) (hg : CallD X r g) (hsc : ScalarN g) (hb : BltAt X x (.type id)) (ha : VA X W md st nw (e :: es) fs)
    (hs : (e :: es).all starless = true) : VE X W md true true (.Call (.Name x p) (e :: es) [] pos) (dCallO g fs) := by
  rw [List.all_cons, Bool.and_eq_true] at hs
  exact ⟨(pe_callTy hc hb.gl hb.mg hb.bt ha.run hb.nm hb.db (notStar hs.1) (backTo_any hs.2)).imp fun _ _ _ h => blt_readingS hg hsc h⟩

/-! ### x, y = a, b -/
def dParL (is : List Nat) (fs : DXs) : DS := fun env => (fs env).out env fun ds => if ds.length = is.length then .nx ((is.zip ds).foldl (fun e p => e.set p.1 (some p.2)) env) else .bad
theorem vs_par2 {i j : Nat} {x y : Str} {px py pt pt2 : Pos} {kt k2 : Nat} (hc : X.calm = true) (hN : X.N.Nodup) (hi : X.N[i]? = some x) (hj : X.N[j]? = some y) (hij : i ≠ j)
    (hx : X.env.scope.names.lookup x = some .local) (hy : X.env.scope.names.lookup y = some .local) (ha : VA X W md true nw [a, b] fs)
    (hw : swappedStores [.Tuple [.Name x px, .Name y py] kt pt] (.Tuple [a, b] k2 pt2) X.env = pure (some [x, y]))
    (hs : swapsWithSole [.Tuple [.Name x px, .Name y py] kt pt] (.Tuple [a, b] k2 pt2) pos.line X.env = pure false)
    (oi : (mdAt md i).own = false) (oj : (mdAt md j).own = false) (pi : (mdAt md i).dp = 0) (pj : (mdAt md j).dp = 0) (wi : ((mdAt md i).nw && !nw) = false) (wj : ((mdAt md j).nw && !nw) = false) :
    VS X W md fr (.Assign [.Tuple [.Name x px, .Name y py] kt pt] (.Tuple [a, b] k2 pt2) pos) (dParL [i, j] fs) :=
  ⟨(ps_par hc hN hi hj hij hx hy ha.run hw hs).imp fun D σ H ⟨T0, T, H0, B, env, t0, R, p⟩ => ⟨T, H0, B, env, R, (out_of t0 R p).mono fun ds vs H1 s _ q r => by
    cases r with
    | nil => exact q.elim
    | cons r1 t =>
      cases t with
      | nil => exact q.elim
      | cons r2 t =>
        cases t with
        | cons _ _ =>
          exact (show False from by
            have q : SP0 X.K X.mg W md fr T0 H0 B (if _ then _ else Out.bad) D := q
            rw [if_neg (by simp)] at q
            exact q.elim).elim
        | nil =>
          have q : ∀ T σ' H', TIn T0 B T → Rel X.K md T H0 B H' σ' ((env.set i (some _)).set j (some _)) → D.nx σ' H' := q
          have R1 := R.same s
          have a1 := R1.setShared (i := i) oi pi (r1.strict.weak fun a z => Avd.mono (fun e => by rw [e] at wi; simpa using wi) z)
          refine ⟨_, _, rfl, q T _ H1 t0 (a1.setShared (i := j) oj pj ?_)⟩
          rw [avd_set oi]
          exact r2.strict.weak fun a z => Avd.mono (fun e => by rw [e] at wj; simpa using wj) z⟩⟩
theorem vs_par3 {i j l : Nat} {x y z : Str} {c : Expr} {px py pz pt pt2 : Pos} {kt k2 : Nat} (hc : X.calm = true) (hN : X.N.Nodup) (hi : X.N[i]? = some x) (hj : X.N[j]? = some y) (hl : X.N[l]? = some z) (hij : i ≠ j) (hil : i ≠ l) (hjl : j ≠ l)
    (hx : X.env.scope.names.lookup x = some .local) (hy : X.env.scope.names.lookup y = some .local) (hz : X.env.scope.names.lookup z = some .local) (ha : VA X W md true nw [a, b, c] fs)
    (hw : swappedStores [.Tuple [.Name x px, .Name y py, .Name z pz] kt pt] (.Tuple [a, b, c] k2 pt2) X.env = pure (some [x, y, z]))
    (hs : swapsWithSole [.Tuple [.Name x px, .Name y py, .Name z pz] kt pt] (.Tuple [a, b, c] k2 pt2) pos.line X.env = pure false)
    (oi : (mdAt md i).own = false) (oj : (mdAt md j).own = false) (ol : (mdAt md l).own = false) (pi : (mdAt md i).dp = 0) (pj : (mdAt md j).dp = 0) (pl : (mdAt md l).dp = 0) (wi : ((mdAt md i).nw && !nw) = false) (wj : ((mdAt md j).nw && !nw) = false) (wl : ((mdAt md l).nw && !nw) = false) :
    VS X W md fr (.Assign [.Tuple [.Name x px, .Name y py, .Name z pz] kt pt] (.Tuple [a, b, c] k2 pt2) pos) (dParL [i, j, l] fs) :=
  ⟨(ps_par3 hc hN hi hj hl hij hil hjl hx hy hz ha.run hw hs).imp fun D σ H ⟨T0, T, H0, B, env, t0, R, p⟩ => ⟨T, H0, B, env, R, (out_of t0 R p).mono fun ds vs H1 s _ q r => by
    cases r with
    | nil => exact q.elim
    | cons r1 t =>
      cases t with
      | nil => exact q.elim
      | cons r2 t =>
        cases t with
        | nil => exact q.elim
        | cons r3 t =>
          cases t with
          | cons _ _ =>
            exact (show False from by
              have q : SP0 X.K X.mg W md fr T0 H0 B (if _ then _ else Out.bad) D := q
              rw [if_neg (by simp)] at q
              exact q.elim).elim
          | nil =>
            have q : ∀ T σ' H', TIn T0 B T → Rel X.K md T H0 B H' σ' (((env.set i (some _)).set j (some _)).set l (some _)) → D.nx σ' H' := q
            have R1 := R.same s
            have a1 := R1.setShared (i := i) oi pi (r1.strict.weak fun a z => Avd.mono (fun e => by rw [e] at wi; simpa using wi) z)
            have a2 := a1.setShared (i := j) oj pj (by
              rw [avd_set oi]
              exact r2.strict.weak fun a z => Avd.mono (fun e => by rw [e] at wj; simpa using wj) z)
            refine ⟨_, _, _, rfl, q T _ H1 t0 (a2.setShared (i := l) ol pl ?_)⟩
            rw [avd_set oj, avd_set oi]
            exact r3.strict.weak fun a z => Avd.mono (fun e => by rw [e] at wl; simpa using wl) z⟩⟩
end

/-! ### data in order -/
def leD : D → D → Bool := PySem.W.dataLe false toPy
def srtD (ds : List D) : List D := ds.mergeSort leD
def isTupP : PyData → Bool
  | .tuple (_ :: _) => true
  | _ => false
def noTupP : PyData → Bool
  | .tuple _ => false
  | .none => false
  | _ => true
/-- data that are sorted: all of one kind -/
def srtOk (ds : List D) : Bool := ds.all (fun d => noDic d && (toPy d).canLay0 && decide ((toPy d).depth ≤ 50) && ds.all fun e => PySem.W.alike (toPy d) (toPy e)) && (ds.all (fun d => isTupP (toPy d)) || ds.all fun d => noTupP (toPy d)) && decide (ds.length ≤ sizeLine)
theorem isTupP_ok {d : PyData} (h : isTupP d = true) : ∃ x r, d = .tuple (x :: r) := by
  unfold isTupP at h
  split at h
  · exact ⟨_, _, rfl⟩
  · cases h
theorem noTupP_ok {d : PyData} (h : noTupP d = true) : d ≠ .none ∧ ∀ xs, d ≠ .tuple xs := by
  unfold noTupP at h
  split at h
  · cases h
  · cases h
  · next h1 h2 => exact ⟨fun e => h2 e, fun xs e => h1 xs e⟩
section
variable {X : Cx} {pins : List (Addr × Obj)} {σ : L2.St} {H : Hp} {s : Shared}
/-- values, as they stand in the machine, beside their data -/
theorem each_rel {K : PySem.W.Frag} : ∀ {vs : List V} {us : List Value} {ds : List D}, Vals vs us → Rps K H (fun _ => False) vs ds → PySem.W.EachIs (fun u (p : V × D) => RelV p.1 u) us (vs.zip ds)
  | [], _, [], .nil, _ => .nil
  | [], _, _ :: _, .nil, r => by have := r.length; cases this
  | v :: vs, _, [], .cons _ _, r => by have := r.length; cases this
  | v :: vs, _, d :: ds, .cons h t, r => by
    obtain ⟨v', r', e, q, rt⟩ := r.uncons
    cases e
    exact .cons h (each_rel t rt)
theorem each_reads (I : Inv X pins σ H s) : ∀ {vs : List V} {us : List Value} {ds : List D}, Vals vs us → Rps X.K H (fun _ => False) vs ds → (∀ d ∈ ds, noDic d = true) → PySem.W.EachIs (fun u (p : V × D) => ∃ as, Reads s.heap u (toPy p.2) as) us (vs.zip ds)
  | [], _, [], .nil, _, _ => .nil
  | [], _, _ :: _, .nil, r, _ => by have := r.length; cases this
  | v :: vs, _, [], .cons _ _, r, _ => by have := r.length; cases this
  | v :: vs, _, d :: ds, .cons h t, r, n => by
    obtain ⟨v', r', e, q, rt⟩ := r.uncons
    cases e
    exact .cons (Dp.reads I _ _ _ (dp_of d _ q (n d (by simp))) h) (each_reads I t rt fun d hd => n d (by simp [hd]))
theorem each_vals : ∀ {us : List Value} {l : List (V × D)}, PySem.W.EachIs (fun u (p : V × D) => RelV p.1 u) us l → Vals (l.map (·.1)) us
  | _, _, .nil => .nil
  | _, _, .cons h t => .cons h (each_vals t)
theorem zip_snd {α β : Type} : ∀ {xs : List α} {ys : List β}, xs.length = ys.length → (xs.zip ys).map (·.2) = ys
  | [], [], _ => rfl
  | [], _ :: _, h => by cases h
  | _ :: _, [], h => by cases h
  | x :: xs, y :: ys, h => by
    rw [List.zip_cons_cons, List.map_cons, zip_snd (by simpa using h)]
theorem zip_fst {α β : Type} : ∀ {xs : List α} {ys : List β}, xs.length = ys.length → (xs.zip ys).map (·.1) = xs
  | [], [], _ => rfl
  | [], _ :: _, h => by cases h
  | _ :: _, [], h => by cases h
  | x :: xs, y :: ys, h => by
    rw [List.zip_cons_cons, List.map_cons, zip_fst (by simpa using h)]
theorem Rps.zip {K : PySem.W.Frag} {A : Pred} : ∀ {vs : List V} {ds : List D}, Rps K H A vs ds → ∀ p ∈ vs.zip ds, Rp K H A p.1 p.2
  | _, [], h => by rw [h.nil_eq]; intro p hp; cases hp
  | _, d :: ds, h => by
    obtain ⟨v, r, rfl, q, t⟩ := h.uncons
    intro p hp
    rw [List.zip_cons_cons] at hp
    rcases List.mem_cons.mp hp with e | hp
    · rw [e]; exact q
    · exact Rps.zip t p hp
theorem Rps.ofPairs {K : PySem.W.Frag} {A : Pred} : ∀ {l : List (V × D)}, (∀ p ∈ l, Rp K H A p.1 p.2) → Rps K H A (l.map (·.1)) (l.map (·.2))
  | [], _ => .nil
  | p :: l, h => .cons (h p (by simp)) (Rps.ofPairs fun q hq => h q (by simp [hq]))
def rSrtD (K : PySem.W.Frag) : List V → Hp → VK → Prop := fun vs H Q => ∃ (a : Addr) (xs : List V) (ds : List D), vs = [V.ref a] ∧ SqL K H a xs ∧ Rps K H (fun _ => False) xs ds ∧ srtOk ds = true ∧
  ∀ (l : List (V × D)) (p : Addr), l.Perm (xs.zip ds) → l.map (·.2) = srtD ds → H p = none → Q (.ref p) (upd H p (.lst (l.map (·.1))))
theorem cr_srtD (hu : X.A.units + 100 < cLine) : CallR X (.builtin "sorted") (rSrtD X.K) := by
  intro pins s σ H vs us Q I r h
  obtain ⟨a, xs, ds, rfl, hs, rp, ok, q⟩ := h
  unfold srtOk at ok
  simp only [Bool.and_eq_true, List.all_eq_true, decide_eq_true_eq, Bool.or_eq_true] at ok
  obtain ⟨⟨ok1, ok2⟩, ok3⟩ := ok
  obtain ⟨its, rv, hl, hz⟩ := I.list hs
  rw [Vals.ref1 r]
  have hlen : xs.length = ds.length := rp.length
  have mem : ∀ p ∈ xs.zip ds, p.2 ∈ ds := fun p hp => (List.of_mem_zip hp).2
  refine PySem.W.sorted_data (β := V × D) (vs := its) (bs := xs.zip ds) (enc := fun p => toPy p.2) (R := fun u p => RelV p.1 u) hl.isList (each_rel rv rp) (each_reads I rv rp fun d hd => (ok1 d hd).1.1.1) ?_ ?_ ?_ ?_ ?_
  · intro d hd d' hd'
    obtain ⟨p, hp, rfl⟩ := List.mem_map.mp hd
    obtain ⟨p', hp', rfl⟩ := List.mem_map.mp hd'
    exact (ok1 _ (mem p hp)).2 _ (mem p' hp')
  · rcases ok2 with ok2 | ok2
    · exact .inl fun d hd => by
        obtain ⟨p, hp, rfl⟩ := List.mem_map.mp hd
        exact isTupP_ok (ok2 _ (mem p hp))
    · exact .inr fun d hd => by
        obtain ⟨p, hp, rfl⟩ := List.mem_map.mp hd
        exact noTupP_ok (ok2 _ (mem p hp))
  · rw [List.length_zip]; omega
  · intro p hp
    have := (ok1 _ (mem p hp)).1.2
    omega
  · intro out ho he
    have hz2 : ((xs.zip ds).mergeSort (PySem.W.dataLe false fun p : V × D => toPy p.2)).length ≤ sizeLine := by
      rw [List.length_mergeSort, List.length_zip]
      omega
    have hd : s.heap.objs.size ≤ s.heap.objs.size + 1 := Nat.le_succ _
    obtain ⟨n, hn⟩ := sortedAll_at s.heap its out.toArray
    refine ⟨.ref (s.heap.objs.size + 1), _, I.laid (a := s.heap.objs.size + 1) (o := .lst (((xs.zip ds).mergeSort (PySem.W.dataLe false fun p : V × D => toPy p.2)).map (·.1))) (t' := s.toks) (fun b o e => sortedAll_old e) hd ⟨by rw [List.length_map]; exact hz2, out, n, each_vals he, hn⟩, rfl, q _ _ (List.mergeSort_perm _ _) ?_ (I.hok.fresh hd)⟩
    have e1 : ((xs.zip ds).mergeSort (PySem.W.dataLe false fun p : V × D => toPy p.2)).map (·.2) = ((xs.zip ds).map (·.2)).mergeSort leD := by
      rw [List.map_mergeSort]
      intro a _ b _
      rfl
    rw [e1, zip_snd hlen]
    rfl
end
section
variable {X : Cx} {W : WX} {md : Mds} {st nw : Bool} {e : Expr} {es : List Expr} {fs : DXs} {pos : Pos}
def sortedO (d : D) : Option D := match d with
  | .lst ds => if srtOk ds then some (.lst (srtD ds)) else none
  | _ => none
def oneO (g : D → Option D) (ds : List D) : RG D := match ds with
  | [d] => .ofO (g d)
  | _ => .bad
def dSorted (fs : DXs) : DX := fun env => (fs env).bind (oneO sortedO)
theorem vf_sorted {p : Pos} (hu : X.A.units + 100 < cLine) (hb : BltAt X "sorted" (.builtin "sorted")) (ha : VA X W md st nw (e :: es) fs) (hs : (e :: es).all starless = true) : VF X W md nw (.Call (.Name "sorted" p) (e :: es) [] pos) (dSorted fs) := by
  rw [List.all_cons, Bool.and_eq_true] at hs
  refine ⟨(pe_callB (cr_srtD hu) hb.gl hb.mg hb.bt ha.run hb.nm hb.db (notStar hs.1) (backTo_any hs.2)).imp fun σ H Q ⟨T, H0, B, env, R, q⟩ => ⟨T, H0, B, env, R, q.bind.mono fun ds xs H1 s1 _ q1 r => ?_⟩⟩
  match ds, r, q1 with
  | [d], r, q1 =>
    obtain ⟨v, rfl, rd⟩ := r.one
    cases d with
    | lst ds =>
      have q1 : EP0 X.K X.mg W σ H1 (RG.ofO (if srtOk ds then some (D.lst (srtD ds)) else none)) _ := q1
      by_cases ok : srtOk ds = true
      · rw [if_pos ok] at q1
        obtain ⟨a, vs, rfl, h, t⟩ := rd.lst
        refine ⟨a, vs, ds, rfl, SqL.of h, t.weak (fun _ z => z.elim), ok, fun l p hp he np => q1 _ _ (same_new np) ⟨p, rfl, Same.free s1 np, _, upd_same, ?_⟩⟩
        rw [← he]
        refine Rps.ofPairs fun x hx => ?_
        exact Rp.carry (Carry.new np) _ _ (Rps.zip t x (hp.mem_iff.mp hx))
      · rw [if_neg ok] at q1
        exact q1.elim
    | _ => exact q1.elim
  | [], r, q1 => exact q1.elim
  | _ :: _ :: _, r, q1 => exact q1.elim
end

/-! ### max, min of data -/
mutual
theorem toPy_inj : ∀ (a b : D), noDic a = true → noDic b = true → toPy a = toPy b → a = b
  | .non, b, _, hb, e => by
    cases b <;> first | (unfold noDic at hb; cases hb; done) | rfl | (unfold toPy at e; cases e)
  | .bl x, b, _, hb, e => by
    cases b <;> first | (unfold toPy at e; cases e; rfl) | (unfold toPy at e; cases e) | (unfold noDic at hb; cases hb)
  | .int x, b, _, hb, e => by
    cases b <;> first | (unfold toPy at e; cases e; rfl) | (unfold toPy at e; cases e) | (unfold noDic at hb; cases hb)
  | .str x, b, _, hb, e => by
    cases b <;> first | (unfold toPy at e; cases e; rfl) | (unfold toPy at e; cases e) | (unfold noDic at hb; cases hb)
  | .tup xs, b, ha, hb, e => by
    cases b with
    | tup ys =>
      unfold toPy at e
      unfold noDic at ha hb
      rw [toPys_inj xs ys ha hb (PyData.tuple.inj e)]
    | _ => first | (unfold noDic at hb; cases hb; done) | (unfold toPy at e; cases e)
  | .lst xs, b, ha, hb, e => by
    cases b with
    | lst ys =>
      unfold toPy at e
      unfold noDic at ha hb
      rw [toPys_inj xs ys ha hb (PyData.list.inj e)]
    | _ => first | (unfold noDic at hb; cases hb; done) | (unfold toPy at e; cases e)
  | .frl _, b, ha, _, _ => by unfold noDic at ha; cases ha
  | .ktp _, b, ha, _, _ => by unfold noDic at ha; cases ha
  | .dic _ _ _, b, ha, _, _ => by unfold noDic at ha; cases ha
theorem toPys_inj : ∀ (as bs : List D), noDics as = true → noDics bs = true → toPys as = toPys bs → as = bs
  | [], [], _, _, _ => rfl
  | [], _ :: _, _, _, e => by unfold toPys at e; cases e
  | _ :: _, [], _, _, e => by unfold toPys at e; cases e
  | a :: as, b :: bs, ha, hb, e => by
    unfold toPys at e
    unfold noDics at ha hb
    rw [Bool.and_eq_true] at ha hb
    injection e with e1 e2
    rw [toPy_inj a b ha.1 hb.1 e1, toPys_inj as bs ha.2 hb.2 e2]
end
theorem toPys_map : ∀ ds : List D, toPys ds = ds.map toPy
  | [] => by unfold toPys; rfl
  | d :: ds => by unfold toPys; rw [toPys_map ds]; rfl
/-- the first of the greatest (least) -/
def maxOfD (d : D) (ds : List D) : D := ds.foldl (fun a y => if PySem.W.dataLt (toPy a) (toPy y) then y else a) d
def minOfD (d : D) (ds : List D) : D := ds.foldl (fun a y => if PySem.W.dataLt (toPy y) (toPy a) then y else a) d
theorem maxOfD_toPy : ∀ (ds : List D) (d : D), toPy (maxOfD d ds) = PySem.W.maxD (toPy d) (ds.map toPy)
  | [], d => rfl
  | y :: ds, d => by
    show toPy (maxOfD (if PySem.W.dataLt (toPy d) (toPy y) then y else d) ds) = _
    rw [maxOfD_toPy ds]
    show _ = PySem.W.maxD (if PySem.W.dataLt (toPy d) (toPy y) then toPy y else toPy d) (ds.map toPy)
    split <;> rfl
theorem minOfD_toPy : ∀ (ds : List D) (d : D), toPy (minOfD d ds) = PySem.W.minD (toPy d) (ds.map toPy)
  | [], d => rfl
  | y :: ds, d => by
    show toPy (minOfD (if PySem.W.dataLt (toPy y) (toPy d) then y else d) ds) = _
    rw [minOfD_toPy ds]
    show _ = PySem.W.minD (if PySem.W.dataLt (toPy y) (toPy d) then toPy y else toPy d) (ds.map toPy)
    split <;> rfl
theorem maxOfD_mem : ∀ (ds : List D) (d : D), maxOfD d ds ∈ d :: ds
  | [], d => by simp [maxOfD]
  | y :: ds, d => by
    have := maxOfD_mem ds (if PySem.W.dataLt (toPy d) (toPy y) then y else d)
    show maxOfD (if PySem.W.dataLt (toPy d) (toPy y) then y else d) ds ∈ _
    rcases List.mem_cons.mp this with e | e
    · rw [e]; split <;> simp
    · simp [e]
theorem minOfD_mem : ∀ (ds : List D) (d : D), minOfD d ds ∈ d :: ds
  | [], d => by simp [minOfD]
  | y :: ds, d => by
    have := minOfD_mem ds (if PySem.W.dataLt (toPy y) (toPy d) then y else d)
    show minOfD (if PySem.W.dataLt (toPy y) (toPy d) then y else d) ds ∈ _
    rcases List.mem_cons.mp this with e | e
    · rw [e]; split <;> simp
    · simp [e]
def mmOk (ds : List D) : Bool := ds.all (fun d => noDic d && (toPy d).canLay0 && !isNon d && decide ((toPy d).depth ≤ 50) && ds.all fun e => PySem.W.alike (toPy d) (toPy e))
section
variable {X : Cx}
/-- the item whose data is that -/
def rOneD (K : PySem.W.Frag) (pick : D → List D → D) : List V → Hp → VK → Prop := fun vs H Q => ∃ (a : Addr) (xs : List V) (d : D) (ds : List D), vs = [V.ref a] ∧ SqL K H a xs ∧ Rps K H (fun _ => False) xs (d :: ds) ∧ mmOk (d :: ds) = true ∧ imm (pick d ds) = true ∧
  ∀ v, Rp K H (fun _ => False) v (pick d ds) → Q v H
theorem depthAll_le : ∀ (ds : List PyData) (n : Nat), (∀ d ∈ ds, d.depth ≤ n) → PyData.depthAll ds ≤ n
  | [], n, _ => by rw [PyData.depthAll]; omega
  | d :: ds, n, h => by
    rw [PyData.depthAll]
    have h1 := h d (by simp)
    have h2 := depthAll_le ds n fun e he => h e (by simp [he])
    omega
theorem vals_at {us : List Value} {vs : List V} (r : Vals vs us) {i : Nat} {u : Value} (h : us[i]? = some u) : ∃ v, vs[i]? = some v ∧ RelV v u := by
  induction r generalizing i with
  | nil => simp at h
  | cons r1 _ ih =>
    cases i with
    | zero => simp at h; subst h; exact ⟨_, rfl, r1⟩
    | succ i => exact ih (by simpa using h)
theorem one_core {pins : List (Addr × Obj)} {s : Shared} {σ : L2.St} {H : Hp} {Q : VK} (I : Inv X pins σ H s) {xs : List V} {its : List Value} {ds : List D} {w : D} (rv : Vals xs its) (rp : Rps X.K H (fun _ => False) xs ds) (ok : mmOk ds = true) (hw : w ∈ ds)
    (q : ∀ v, Rp X.K H (fun _ => False) v w → Q v H) {i : Nat} {v : Value} {h' : Heap} {tk : Tok} {bs : List Addr} (hi : its.toArray[i]? = some v) (hr : Reads h' v (toPy w) bs) (hk : ∀ b o, s.heap.get? b = some o → h'.get? b = some o) :
    ∃ x H', Inv X pins σ H' { s with heap := h', toks := tk } ∧ RelV x v ∧ Q x H' := by
  unfold mmOk at ok
  simp only [Bool.and_eq_true, List.all_eq_true, decide_eq_true_eq] at ok
  obtain ⟨x, hx, rx⟩ := vals_at rv (by simpa using hi)
  have hil : i < ds.length := by
    rw [← rp.length]
    exact (List.getElem?_eq_some_iff.mp hx).1
  obtain ⟨x', hx', rd⟩ := rp.get (List.getElem?_eq_getElem hil)
  rw [hx] at hx'
  cases hx'
  have hd : ds[i] ∈ ds := List.getElem_mem hil
  obtain ⟨as, r1⟩ := Dp.reads I _ _ _ (dp_of _ _ rd (ok _ hd).1.1.1.1) rx
  have r2 : Reads h' v (toPy ds[i]) as := PyProof.Rows.Reads.keeps hk r1
  have e := (Reads.unique r2 _ _ hr).1
  have e2 := toPy_inj _ _ (ok _ hd).1.1.1.1 (ok _ hw).1.1.1.1 e
  rw [e2] at rd
  exact ⟨x, H, I.kept hk, rx, q x rd⟩
theorem mm_pre {d : D} {ds : List D} (ok : mmOk (d :: ds) = true) : PySem.W.AlikeAll (toPy d :: ds.map toPy) ∧ PyData.depthAll (toPy d :: ds.map toPy) ≤ 50 := by
  unfold mmOk at ok
  simp only [Bool.and_eq_true, List.all_eq_true, decide_eq_true_eq] at ok
  rw [show toPy d :: ds.map toPy = (d :: ds).map toPy from rfl]
  refine ⟨⟨fun x hx y hy => ?_, fun x hx => ?_⟩, depthAll_le _ _ fun x hx => ?_⟩
  · obtain ⟨p, hp, rfl⟩ := List.mem_map.mp hx
    obtain ⟨p', hp', rfl⟩ := List.mem_map.mp hy
    exact (ok p hp).2 p' hp'
  · obtain ⟨p, hp, rfl⟩ := List.mem_map.mp hx
    have := (ok p hp).1.1
    intro e
    have hn := this.2
    cases p <;> first | (unfold toPy at e; cases e; done) | (have h0 := this.1.1; unfold noDic at h0; cases h0; done) | (simp [isNon] at hn)
  · obtain ⟨p, hp, rfl⟩ := List.mem_map.mp hx
    exact (ok p hp).1.2
theorem cr_maxD (hc : X.calm = true) (hu : X.A.units + 100 < cLine) : CallR X (.builtin "max") (rOneD X.K maxOfD) := by
  intro pins s σ H vs us Q I r h
  obtain ⟨a, xs, d, ds, rfl, hs, rp, ok, _, q⟩ := h
  obtain ⟨its, rv, hl, hz⟩ := I.list hs
  rw [Vals.ref1 r]
  obtain ⟨al, dp⟩ := mm_pre ok
  have nd : noDics (d :: ds) = true := by
    unfold mmOk at ok
    simp only [Bool.and_eq_true, List.all_eq_true, decide_eq_true_eq] at ok
    have : ∀ l : List D, (∀ x ∈ l, noDic x = true) → noDics l = true := by
      intro l
      induction l with
      | nil => intro _; rfl
      | cons y l ih => intro hh; unfold noDics; rw [Bool.and_eq_true]; exact ⟨hh y (by simp), ih fun z hz => hh z (by simp [hz])⟩
    exact this _ fun x hx => (ok x hx).1.1.1.1
  obtain ⟨as, hr⟩ := Dp.readsAll I _ xs its (dps_of (d :: ds) xs rp nd) rv
  rw [toPys_map] at hr
  refine PySem.W.max_list_data (I.ok.hd hc) hl.isList hr al (by omega) fun i v h' tk bs hi hrd hk => ?_
  rw [← maxOfD_toPy] at hrd
  exact one_core I rv rp ok (maxOfD_mem ds d) q hi hrd hk
theorem cr_minD (hc : X.calm = true) (hu : X.A.units + 100 < cLine) : CallR X (.builtin "min") (rOneD X.K minOfD) := by
  intro pins s σ H vs us Q I r h
  obtain ⟨a, xs, d, ds, rfl, hs, rp, ok, _, q⟩ := h
  obtain ⟨its, rv, hl, hz⟩ := I.list hs
  rw [Vals.ref1 r]
  obtain ⟨al, dp⟩ := mm_pre ok
  have nd : noDics (d :: ds) = true := by
    unfold mmOk at ok
    simp only [Bool.and_eq_true, List.all_eq_true, decide_eq_true_eq] at ok
    have : ∀ l : List D, (∀ x ∈ l, noDic x = true) → noDics l = true := by
      intro l
      induction l with
      | nil => intro _; rfl
      | cons y l ih => intro hh; unfold noDics; rw [Bool.and_eq_true]; exact ⟨hh y (by simp), ih fun z hz => hh z (by simp [hz])⟩
    exact this _ fun x hx => (ok x hx).1.1.1.1
  obtain ⟨as, hr⟩ := Dp.readsAll I _ xs its (dps_of (d :: ds) xs rp nd) rv
  rw [toPys_map] at hr
  refine PySem.W.min_list_data (I.ok.hd hc) hl.isList hr al (by omega) fun i v h' tk bs hi hrd hk => ?_
  rw [← minOfD_toPy] at hrd
  exact one_core I rv rp ok (minOfD_mem ds d) q hi hrd hk
def gOneD (pick : D → List D → D) : List D → Option D
  | [.lst (d :: ds)] => if mmOk (d :: ds) && imm (pick d ds) then some (pick d ds) else none
  | _ => none
theorem cd_oneD {pick : D → List D → D} : CallD X (rOneD X.K pick) (gOneD pick) := by
  intro H A xs ds Q _ r p
  unfold gOneD at p
  split at p
  · next d ds =>
    split at p
    · next ok =>
      rw [Bool.and_eq_true] at ok
      obtain ⟨v, rfl, q⟩ := r.one
      obtain ⟨a, vs, rfl, h, t⟩ := q.lst
      exact ⟨a, vs, d, ds, rfl, SqL.of h, t.weak (fun _ z => z.elim), ok.1, ok.2, fun v rv => gp_scalar p (Rp.imm _ _ rv ok.2)⟩
    · exact p.elim
  · exact p.elim
theorem sc_oneD {pick : D → List D → D} : ScalarN (gOneD pick) := by
  intro ds d e
  unfold gOneD at e
  split at e
  · split at e
    · next ok =>
      rw [Bool.and_eq_true] at ok
      cases e
      exact ok.2
    · cases e
  · cases e
/-- max(l), min(l), of numbers or of data of one kind -/
def gMaxA : List D → Option D := fun ds => match gMaxL ds with
  | some d => some d
  | none => gOneD maxOfD ds
def gMinA : List D → Option D := fun ds => match gMinL ds with
  | some d => some d
  | none => gOneD minOfD ds
theorem cd_maxA : CallD X (fun xs H Q => rMax X.K xs H Q ∨ rOneD X.K maxOfD xs H Q) gMaxA := cd_or cd_maxL cd_oneD fun ds => by
  unfold gMaxA
  cases h : gMaxL ds with
  | none => exact .inr rfl
  | some d => exact .inl rfl
theorem cd_minA : CallD X (fun xs H Q => rMin X.K xs H Q ∨ rOneD X.K minOfD xs H Q) gMinA := cd_or cd_minL cd_oneD fun ds => by
  unfold gMinA
  cases h : gMinL ds with
  | none => exact .inr rfl
  | some d => exact .inl rfl
theorem sc_maxA : ScalarN gMaxA := by
  intro ds d e
  unfold gMaxA at e
  cases h : gMaxL ds with
  | none => rw [h] at e; exact sc_oneD _ _ e
  | some z => rw [h] at e; cases e; exact sc_maxL _ _ h
theorem sc_minA : ScalarN gMinA := by
  intro ds d e
  unfold gMinA at e
  cases h : gMinL ds with
  | none => rw [h] at e; exact sc_oneD _ _ e
  | some z => rw [h] at e; cases e; exact sc_minL _ _ h
end

/-! ### {"a": 1, ..} -/
section
variable {X : Cx} {W : WX} {md : Mds} {st nw : Bool} {pos : Pos}
def isIntD : D → Bool
  | .int _ => true
  | _ => false
def dDict (ks : List Str) (fs : DXs) : DX := fun env => (fs env).bind fun ws => if ws.all isIntD && decide (ws.length = ks.length) then .ok (.dic false (ks.map D.str) ws) else .bad
def tDPs (K : PySem.W.Frag) (mg : Str → Option Value) (W : WX) (md : Mds) (nw : Bool) (ks : List Str) (fs : DXs) : L2.St → Hp → (List (V × V) → Hp → Prop) → Prop := fun σ H Q => ∃ (T : Pred) (H0 B : Hp) (env : DEnv), Rel K md T H0 B H σ env ∧
  EP0 K mg W σ H (fs env) fun ds vs H' => Rks true K H' (Avd md σ env T H0 nw) vs ds → Q ((ks.map V.str).zip vs) H'
structure VPs (X : Cx) (W : WX) (md : Mds) (nw : Bool) (pos : Pos) (keys : List (Option Expr)) (vals : List Expr) (ks : List Str) (fs : DXs) : Prop where
  run : ∃ trs, PPs X pos keys vals trs ∧ ∀ σ H Q, tDPs X.K X.mg W md nw ks fs σ H Q → tPairs trs σ H Q
theorem vps_nil : VPs X W md nw pos [] [] [] dNil := ⟨[], pps_nil, fun σ H Q ⟨T, H0, B, env, R, p⟩ => p [] H (Same.refl _) .nil⟩
theorem vps_cons {x : Str} {j : _} {kp : Pos} {keys : List (Option Expr)} {e : Expr} {vals : List Expr} {ks : List Str} {f : DX} {fs : DXs} (h : VE X W md true nw e f) (hr : VPs X W md nw pos keys vals ks fs) :
    VPs X W md nw pos (some (.Constant (.str x) j kp) :: keys) (e :: vals) (x :: ks) (dCons f fs) := by
  obtain ⟨trs, hp, ih⟩ := hr.run
  refine ⟨_, pps_cons pe_str h.run hp, fun σ H Q ⟨T, H0, B, env, R, p⟩ => ?_⟩
  exact ⟨T, H0, B, env, R, p.bind.mono fun d v H1 s1 _ p1 r1 => ih _ _ _ ⟨T, H0, B, env, R.same s1, p1.bind.mono fun ds vs H2 s2 _ p2 r2 => p2 (v :: vs) H2 (Same.refl _) (.cons (r1.same s2) r2)⟩⟩
theorem ints_of {K : PySem.W.Frag} {H : Hp} {A : Pred} : ∀ {vs : List V} {ds : List D}, Rks true K H A vs ds → ds.all isIntD = true → ∀ (H' : Hp) (A' : Pred), Rps K H' A' vs ds
  | _, _, .nil, _, _, _ => .nil
  | _, _, .cons (d := d) r t, h, H', A' => by
    rw [List.all_cons, Bool.and_eq_true] at h
    cases d with
    | int i =>
      have r : Rp K H A _ (.int i) := r
      exact .cons (Rp.int.mpr (Rp.int.mp r)) (ints_of t h.2 H' A')
    | _ => cases h.1
theorem mergeK_new : ∀ (more acc : List (Key × V)), (acc ++ more).map (·.1) |>.Nodup → mergeK acc more = acc ++ more
  | [], acc, _ => by simp [mergeK]
  | p :: more, acc, h => by
    have hn : valV acc p.1 = none := by
      unfold valV
      have : acc.find? (fun kv => decide (kv.1 = p.1)) = none := by
        rw [List.find?_eq_none]
        intro q hq
        rw [List.map_append, List.nodup_append] at h
        simpa using h.2.2 q.1 (List.mem_map.mpr ⟨q, hq, rfl⟩) p.1 (by simp)
      rw [this]
      rfl
    show mergeK (putK acc p.1 p.2) more = _
    rw [putK_new p.2 hn, mergeK_new more (acc ++ [(p.1, p.2)]) (by simpa using h)]
    simp
theorem vf_dict {keys : List (Option Expr)} {vals : List Expr} {ks : List Str} {fs : DXs} (h : VPs X W md nw pos keys vals ks fs) (hall : keys.all (·.isSome) = true) (hl : keys.length = vals.length) (h0 : keys ≠ []) (h15 : keys.length ≤ 15) (hk : ks.Nodup) (hkl : ks.length = keys.length) : VF X W md nw (.Dict keys vals pos) (dDict ks fs) := by
  obtain ⟨trs, hp, ih⟩ := h.run
  refine ⟨(pe_disp hp hall hl h0 h15).imp fun σ H Q ⟨T, H0, B, env, R, p⟩ => fun q nq => ih _ _ _ ⟨T, H0, B, env, R.same (same_new nq), ?_⟩⟩
  unfold dDict at p
  cases hf : fs env with
  | bad => rw [hf] at p; exact p.elim
  | exc c f => rw [hf] at p; exact EP0.same (show EP0 X.K X.mg W σ H (RG.exc c f : RG (List D)) _ from p) (same_new nq)
  | ok ds =>
    rw [hf] at p
    have p : EP0 X.K X.mg W σ H (if ds.all isIntD && decide (ds.length = ks.length) then RG.ok (D.dic false (ks.map D.str) ds) else RG.bad) _ := p
    by_cases ok : (ds.all isIntD && decide (ds.length = ks.length)) = true
    case neg => rw [if_neg ok] at p; exact p.elim
    rw [if_pos ok] at p
    rw [Bool.and_eq_true, decide_eq_true_eq] at ok
    intro vs H2 s2 r
    have ev : vs.length = ks.length := r.length.trans ok.2
    have e2 : H2 q = some (.dK []) := s2 _ _ upd_same
    have zl : ((ks.map Sum.inr).zip vs : List (Key × V)).map (·.1) = ks.map Sum.inr := List.map_fst_zip (by simp [ev])
    have mk : mergeK [] ((ks.map Sum.inr).zip vs : List (Key × V)) = (ks.map Sum.inr).zip vs := by
      rw [mergeK_new _ [] (by
        rw [List.nil_append, zl]
        exact List.Pairwise.map _ (fun a b hab e => hab (by cases e; rfl)) hk)]
      rfl
    refine ⟨e2, (ks.map Sum.inr).zip vs, ?_, by simp; omega, ?_⟩
    · have : ∀ (ks : List Str) (vs : List V), (ks.map V.str).zip vs = ((ks.map Sum.inr).zip vs : List (Key × V)).map fun kv => (kV kv.1, kv.2) := by
        intro ks
        induction ks with
        | nil => intro vs; rfl
        | cons k ks ih => intro vs; cases vs with
          | nil => rfl
          | cons v vs => simp only [List.map_cons, List.zip_cons_cons, ih]; rfl
      exact this ks vs
    · rw [mk]
      refine p _ _ (fun b x e => ?_) ⟨q, rfl, nq, vs, ⟨_, upd_same, ?_, ?_⟩, ints_of r ok.1 _ _⟩
      · have hb : b ≠ q := fun z => by subst z; rw [nq] at e; cases e
        rw [upd_ne hb]
        exact s2 _ _ (same_new nq _ _ e)
      · have : ∀ (ks : List Str) (vs : List V), vs.length = ks.length → ((ks.map Sum.inr).zip vs : List (Key × V)).map (fun p => keyD p.1) = ks.map D.str := by
          intro ks
          induction ks with
          | nil => intro vs _; rfl
          | cons k ks ih => intro vs hl; cases vs with
            | nil => cases hl
            | cons v vs => simp only [List.map_cons, List.zip_cons_cons, ih vs (by simpa using hl)]; rfl
        exact this ks vs ev
      · exact List.map_snd_zip (by simp [ev])
end
end Dl

/-! Dl10c: dict(l) of a list of pairs whose keys are tuples. -/
namespace Dl
open PySem PySem.Spec PyProof.Rows L2
section
variable {X : Cx}
def mergeT (kvs : List (List Key × Addr × V)) (acc : List (List Key × V)) : List (List Key × V) := kvs.foldl (fun acc kv => putK acc kv.1 kv.2.2) acc
theorem length_mergeT : ∀ (kvs : List (List Key × Addr × V)) (acc : List (List Key × V)), (mergeT kvs acc).length ≤ acc.length + kvs.length
  | [], acc => Nat.le_refl _
  | kv :: kvs, acc => by
    have h := length_mergeT kvs (putK acc kv.1 kv.2.2)
    have h2 : (putK acc kv.1 kv.2.2).length ≤ acc.length + 1 := by
      unfold putK
      split <;> simp
    show (mergeT kvs (putK acc kv.1 kv.2.2)).length ≤ _
    rw [List.length_cons]
    omega
theorem KT.merge {H : Hp} : ∀ {kvs : List (List Key × Addr × V)} {prs : List (List Key × Addr × Value)} {acc : List (List Key × V)} {xs : List (List Key × Addr × Value)},
    Paired (fun kv (q : List Key × Addr × Value) => kv.1 = q.1 ∧ kv.2.1 = q.2.1 ∧ RelV kv.2.2 q.2.2 ∧ H kv.2.1 = some (.tup (kv.1.map kV))) kvs prs → KT H acc xs → KT H (mergeT kvs acc) (storedAllH xs prs)
  | _, _, _, _, .nil, r => r
  | _, _, acc, xs, .cons (a := kv) (b := q) h t, r => by
    have r2 : KT H (putK acc kv.1 kv.2.2) (storedH xs q.1 q.2.1 q.2.2) := by
      rw [← h.1, ← h.2.1]
      exact r.put kv.1 h.2.2.2 h.2.2.1
    have z := KT.merge t r2
    exact z
theorem pairsT_of {pins : List (Addr × Obj)} {σ : L2.St} {H : Hp} {s : Shared} (I : Inv X pins σ H s) : ∀ {ts : List Addr} {kvs : List (List Key × Addr × V)}, Paired (fun t kv => H t = some (.tup [.ref kv.2.1, kv.2.2]) ∧ H kv.2.1 = some (.tup (kv.1.map kV))) ts kvs →
    ∃ prs : List (List Key × Addr × Value), Paired (fun kv (q : List Key × Addr × Value) => kv.1 = q.1 ∧ kv.2.1 = q.2.1 ∧ RelV kv.2.2 q.2.2 ∧ H kv.2.1 = some (.tup (kv.1.map kV))) kvs prs ∧ prs.length = ts.length ∧ ∀ (j : Nat) q, prs[j]? = some q → ∃ b : Addr, ts[j]? = some b ∧ IsTup s.heap b #[.ref q.2.1, q.2.2] ∧ H q.2.1 = some (.tup (q.1.map kV))
  | _, _, .nil => ⟨[], .nil, rfl, fun j q e => by simp at e⟩
  | _, _, .cons (a := p) (b := kv) h t => by
    obtain ⟨prs, r, hl, hp⟩ := pairsT_of I t
    obtain ⟨its, rv, ht, _⟩ := I.tuple (SqT.of h.1)
    obtain ⟨u, y, ei, ru, ry⟩ := vals2 rv
    subst ei
    cases ru
    refine ⟨(kv.1, kv.2.1, y) :: prs, .cons ⟨rfl, rfl, ry, h.2⟩ r, by rw [List.length_cons, List.length_cons, hl], fun j q e => ?_⟩
    cases j with
    | zero =>
      have e' : (kv.1, kv.2.1, y) = q := Option.some.inj e
      subst e'
      exact ⟨p, rfl, ht, h.2⟩
    | succ j =>
      obtain ⟨b, e1, e2, e3⟩ := hp j q (by simpa using e)
      exact ⟨b, by simpa using e1, e2, e3⟩
theorem call_dictT (hcalm : X.calm = true) (hu : X.A.units + 3 < cLine) : CallR X (.type "dict") (fun xs H Q => ∃ (a : Addr) (ts : List Addr) (kvs : List (List Key × Addr × V)), xs = [.ref a] ∧ H a = some (.lst (ts.map V.ref)) ∧ Paired (fun t kv => H t = some (.tup [.ref kv.2.1, kv.2.2]) ∧ H kv.2.1 = some (.tup (kv.1.map kV))) ts kvs ∧
    ∀ p, H p = none → Q (.ref p) (upd H p (.dT (mergeT kvs [])))) := by
  intro pins s σ H xs us Q I r q
  obtain ⟨a, ts, kvs, ex, hq, hp, q⟩ := q
  subst ex
  obtain ⟨u, eu, rx⟩ := vals1 r
  subst eu
  cases rx
  obtain ⟨its, rv, pl, hz⟩ := I.list (SqL.of hq)
  have ei := refs_at rv
  subst ei
  rw [List.length_map] at hz
  obtain ⟨prs, rel, hl, hpr⟩ := pairsT_of I hp
  obtain ⟨o, n, ho, hc, hd, hdat⟩ := pl
  have key : ∀ x ∈ prs, (tupleKind (mixKind X.prog X.w)).is s.heap x.1 x.2.1 := fun x hx => by
    obtain ⟨j, hj⟩ := List.getElem?_of_mem hx
    obtain ⟨b, _, _, e3⟩ := hpr j x hj
    exact key_of I.hok e3
  have PA := PairArg.list (prog := X.prog) (w := X.w) a (ts.map Value.ref).toArray (fun j => ts.getD j 0) (prs.map fun x => (Value.ref x.2.1, x.2.2))
  refine PySem.call_dict_pairsH (knd := tupleKind (mixKind X.prog X.w)) (ps := prs) PA (I.ok.hd hcalm) (show _ < cLine from ?_) ⟨⟨o, n, ho, hc, hd, hdat⟩, by simp [hl], fun j k v e => ?_⟩ ⟨by simp, fun i k v e => ?_⟩ (fun h' hk x hx => ?_) (by rw [List.length_map, hl]; exact hz) fun h' tk hd' k => ?_
  · show X.A.in1.in1.units < cLine
    have : X.A.in1.in1.units ≤ X.A.units + 2 := Nat.le_refl _
    omega
  · rw [List.getElem?_map] at e
    cases ej : prs[j]? with
    | none => rw [ej] at e; cases e
    | some x =>
      rw [ej] at e
      cases e
      obtain ⟨b, e1, e2, _⟩ := hpr j x ej
      refine ⟨by simp [e1], .inl ?_⟩
      show Heap.IsTuple s.heap (ts.getD j 0) _
      rw [show ts.getD j 0 = b by simp [List.getD, e1]]
      exact e2
  · have e : (prs.map fun x => (Value.ref x.2.1, x.2.2))[i]? = some (k, v) := e
    rw [List.getElem?_map] at e
    cases ej : prs[i]? with
    | none => rw [ej] at e; cases e
    | some x =>
      rw [ej] at e
      cases e
      exact ⟨x.1, x.2.1, rfl, rfl⟩
  · exact tupleKind_stays.stays (fun b ob vs m e _ => hk b ob (Nat.ne_of_lt (Heap.lt_size e)) (fun z => nomatch z) e) (key x hx)
  · have hm : (s.heap.objs.size == sysModules) = false := beq_eq_false_iff_ne.mpr (Nat.ne_of_gt I.big)
    have hlen : (mergeT kvs []).length ≤ sizeLine := by
      refine Nat.le_trans (length_mergeT kvs []) ?_
      rw [List.length_nil, Nat.zero_add, rel.length, hl]
      exact hz
    have np : H s.heap.objs.size = none := I.hok.fresh (Nat.le_refl _)
    have kt : KT (upd H s.heap.objs.size (.dT (mergeT kvs []))) (mergeT kvs []) (storedAllH [] prs) := (KT.merge rel .nil).keeps fun b ys e => by
      rw [upd_ne (ne_of_none e np)]
      exact e
    obtain ⟨od, es, ep, h1, h2, h3, h4, _, h5⟩ := hd'
    exact ⟨.ref s.heap.objs.size, upd H s.heap.objs.size (.dT (mergeT kvs [])), I.laid (t' := tk) (fun b ob e => k b ob (fun z => nomatch z) e) (Nat.le_refl _) (show ObjOk X.prog X.w _ _ _ (.dT (mergeT kvs [])) from ⟨hlen, hm, _, kt, od, es, ep, h1, h2, h3, h4, h5⟩), rfl, q _ np⟩
end
/-! ### its meaning -/
def pairK : D → Option (D × D)
  | .tup [k, v] => if keyFits true k then some (k, v) else none
  | _ => none
def pairsK : List D → Option (List (D × D))
  | [] => some []
  | d :: ds => match pairK d, pairsK ds with
    | some p, some ps => some (p :: ps)
    | _, _ => none
def dictK (ps : List (D × D)) (acc : List D × List D) : List D × List D := ps.foldl (fun acc p => (putKs acc.1 p.1, putWs acc.1 acc.2 p.1 p.2)) acc
def gDictL : D → Option D
  | .lst ds => (pairsK ds).map fun ps => .dic true (dictK ps ([], [])).1 (dictK ps ([], [])).2
  | _ => none
def dDictOf (fs : DXs) : DX := fun env => (fs env).bind (oneO gDictL)
section
variable {K : PySem.W.Frag} {H : Hp} {A : Pred}
theorem pairK_of {v : V} {d : D} {p : D × D} (r : Rp K H A v d) (h : pairK d = some p) : ∃ (t : Addr) (kv : List Key × Addr × V), v = .ref t ∧ H t = some (.tup [.ref kv.2.1, kv.2.2]) ∧ H kv.2.1 = some (.tup (kv.1.map kV)) ∧ p.1 = .tup (kv.1.map keyD) ∧ Rp K H A kv.2.2 p.2 := by
  unfold pairK at h
  split at h
  · next k w =>
    split at h
    · next hk =>
      cases h
      obtain ⟨t, vs, rfl, ht, rs⟩ := Rp.tup.mp r
      obtain ⟨x, vs', e, q, rs2⟩ := rs.uncons
      subst e
      obtain ⟨y, vs'', e, q2, rs3⟩ := rs2.uncons
      subst e
      have e := rs3.nil_eq
      subst e
      obtain ⟨xs, rfl, hks⟩ : ∃ xs, k = .tup xs ∧ (keysOf xs).isSome = true := by
        cases k with
        | tup t => exact ⟨t, rfl, hk⟩
        | _ => cases hk
      obtain ⟨ks, hks⟩ := Option.isSome_iff_exists.mp hks
      have et := keysOf_eq hks
      subst et
      obtain ⟨b, us, rfl, sq, rt⟩ := Rp.tup.mp q
      have ev := kVs_of rt
      subst ev
      exact ⟨t, (ks, b, y), rfl, ht, sq, rfl, q2⟩
    · cases h
  · cases h
theorem pairsK_of : ∀ {ds : List D} {vs : List V} {ps : List (D × D)}, Rps K H A vs ds → pairsK ds = some ps → ∃ (ts : List Addr) (kvs : List (List Key × Addr × V)), vs = ts.map V.ref ∧
    Paired (fun t kv => H t = some (.tup [.ref kv.2.1, kv.2.2]) ∧ H kv.2.1 = some (.tup (kv.1.map kV))) ts kvs ∧ Paired (fun (kv : List Key × Addr × V) (p : D × D) => p.1 = .tup (kv.1.map keyD) ∧ Rp K H A kv.2.2 p.2) kvs ps
  | [], vs, ps, r, h => by
    have e := r.nil_eq
    subst e
    cases h
    exact ⟨[], [], rfl, .nil, .nil⟩
  | d :: ds, vs, ps, r, h => by
    obtain ⟨v, vs', e, q, t⟩ := r.uncons
    subst e
    unfold pairsK at h
    cases e1 : pairK d with
    | none => rw [e1] at h; cases h
    | some p =>
      cases e2 : pairsK ds with
      | none => rw [e1, e2] at h; cases h
      | some ps' =>
        rw [e1, e2] at h
        cases h
        obtain ⟨a, kv, rfl, h1, h2, h3, h4⟩ := pairK_of q e1
        obtain ⟨ts, kvs, rfl, P1, P2⟩ := pairsK_of t e2
        exact ⟨a :: ts, kv :: kvs, rfl, .cons ⟨h1, h2⟩ P1, .cons ⟨h3, h4⟩ P2⟩
theorem dictK_of : ∀ {kvs : List (List Key × Addr × V)} {ps : List (D × D)}, Paired (fun (kv : List Key × Addr × V) (p : D × D) => p.1 = .tup (kv.1.map keyD) ∧ Rp K H A kv.2.2 p.2) kvs ps → ∀ (acc : List (List Key × V)) (ws : List D), Rps K H A (acc.map (·.2)) ws →
    (mergeT kvs acc).map (fun p => D.tup (p.1.map keyD)) = (dictK ps (acc.map (fun p => D.tup (p.1.map keyD)), ws)).1 ∧ Rps K H A ((mergeT kvs acc).map (·.2)) (dictK ps (acc.map (fun p => D.tup (p.1.map keyD)), ws)).2
  | _, _, .nil, acc, ws, r => ⟨rfl, r⟩
  | _, _, .cons (a := kv) (b := p) h t, acc, ws, r => by
    have he : ∀ j : List Key, keyEq (.tup (j.map keyD)) (.tup (kv.1.map keyD)) = decide (j = kv.1) := fun j => keyEq_keys j kv.1
    have r2 := putWs_of (g := fun k : List Key => D.tup (k.map keyD)) (y := p.1) (by rw [h.1]; exact he) h.2 r
    have ih := dictK_of t (putK acc kv.1 kv.2.2) _ r2
    rw [putKs_of (g := fun k : List Key => D.tup (k.map keyD)) (y := p.1) (by rw [h.1]; exact he) h.1 acc kv.2.2] at ih
    exact ih
end
section
variable {X : Cx} {W : WX} {md : Mds} {st nw : Bool} {e : Expr} {es : List Expr} {fs : DXs} {pos : Pos}
theorem vf_dictOf {p : Pos} (hc : X.calm = true) (hu : X.A.units + 100 < cLine) (hb : BltAt X "dict" (.type "dict")) (ha : VA X W md st nw (e :: es) fs) (hs : (e :: es).all starless = true) : VF X W md nw (.Call (.Name "dict" p) (e :: es) [] pos) (dDictOf fs) := by
  rw [List.all_cons, Bool.and_eq_true] at hs
  refine ⟨(pe_callTy (call_dictT hc (by omega)) hb.gl hb.mg hb.bt ha.run hb.nm hb.db (notStar hs.1) (backTo_any hs.2)).imp fun σ H Q ⟨T, H0, B, env, R, q⟩ => ⟨T, H0, B, env, R, q.bind.mono fun ds xs H1 s1 _ q1 r => ?_⟩⟩
  match ds, r, q1 with
  | [d], r, q1 =>
    obtain ⟨v, rfl, rd⟩ := r.one
    cases d with
    | lst ds =>
      have q1 : EP0 X.K X.mg W σ H1 (RG.ofO ((pairsK ds).map fun ps => D.dic true (dictK ps ([], [])).1 (dictK ps ([], [])).2)) _ := q1
      cases e1 : pairsK ds with
      | none => rw [e1] at q1; exact q1.elim
      | some ps =>
        rw [e1] at q1
        obtain ⟨a, vs, rfl, h, t⟩ := rd.lst
        obtain ⟨ts, kvs, rfl, P1, P2⟩ := pairsK_of t e1
        refine ⟨a, ts, kvs, rfl, h, P1, fun l nl => ?_⟩
        obtain ⟨k1, k2⟩ := dictK_of P2 [] [] .nil
        exact q1 _ _ (same_new nl) ⟨l, rfl, Same.free s1 nl, (mergeT kvs []).map (·.2), ⟨mergeT kvs [], upd_same, k1, rfl⟩, k2.new nl⟩
    | _ => exact q1.elim
  | [], r, q1 => exact q1.elim
  | _ :: _ :: _, r, q1 => exact q1.elim
/-! ### l[::-1] -/
theorem Rps.rev {K : PySem.W.Frag} {H : Hp} {A : Pred} : ∀ {vs : List V} {ds : List D}, Rps K H A vs ds → Rps K H A vs.reverse ds.reverse
  | vs, [], r => by
    rw [r.nil_eq]
    exact .nil
  | vs, d :: ds, r => by
    obtain ⟨v, vs', e, q, t⟩ := r.uncons
    subst e
    rw [List.reverse_cons, List.reverse_cons]
    exact (Rps.rev t).append (.one q)
def gRevL : D → Option D
  | .lst ds => some (.lst ds.reverse)
  | .frl ds => some (.lst ds.reverse)
  | _ => none
def dRevL (f : DX) : DX := fun env => (f env).bind fun x => .ofO (gRevL x)
theorem vf_revL {f : DX} {k : Nat} {p1 p2 p3 : Pos} (he : VE X W md st nw e f) : VF X W md nw (.Subscript e (.Slice none none (some (.UnaryOp .USub (.Constant (.int 1) k p1) p2)) p3) pos) (dRevL f) :=
  ⟨(pe_revL he.run).imp fun σ H Q ⟨T, H0, B, env, R, p⟩ => ⟨T, H0, B, env, R, p.bind.mono fun d v H1 s1 _ p1 r1 => by
    cases d with
    | lst ds =>
      obtain ⟨a, vs, rfl, hh, r⟩ := r1.lst
      exact ⟨a, vs, rfl, SqL.of hh, fun q nq => p1 _ _ (same_new nq) ⟨q, rfl, Same.free s1 nq, _, upd_same, r.rev.new nq⟩⟩
    | frl ds =>
      obtain ⟨a, vs, rfl, hh, r⟩ := r1.frl
      exact ⟨a, vs, rfl, hh.sq, fun q nq => p1 _ _ (same_new nq) ⟨q, rfl, Same.free s1 nq, _, upd_same, r.rev.new nq⟩⟩
    | _ => exact p1.elim⟩⟩
end
end Dl

/-! Dl10d: own exceptions: made, raised, caught. -/
namespace Dl
open PySem PySem.Spec PyProof.Rows L2

/-! ### __init__ of an own exception: stores of parameters and texts -/
inductive IPart where
  | txt (x : Str) | par (j : Nat)
inductive ISrc where
  | one (p : IPart) | join (ps : List IPart)
/-- what a part gives: a value, pure -/
def TE.Gives (te : TE) (σ : L2.St) (v : V) : Prop := ∀ (H : Hp) (Q : VK), Q v H → te σ H Q
theorem int_short {i : Int} (h0 : 0 ≤ i) (h1 : i < 1000) : (Str.ofString (toString i)).length ≤ 1000 := by
  have key : ∀ n : Fin 1000, (Str.ofString (toString (n.val : Int))).length ≤ 1000 := by decide +kernel
  have := key ⟨i.toNat, by omega⟩
  have e : ((i.toNat : Nat) : Int) = i := by omega
  simpa [e] using this
theorem int_log {i : Int} (h0 : 0 ≤ i) (h1 : i < 1000) : i.natAbs.log2 < 1920 := by
  have : i.natAbs < 2 ^ 1920 := Nat.lt_of_lt_of_le (by omega : i.natAbs < 2 ^ 10) (Nat.pow_le_pow_right (by decide) (by decide))
  by_cases z : i.natAbs = 0
  · rw [z]; decide
  · exact (Nat.log2_lt z).mpr this
section
variable {X : Cx}
def IPart.te : IPart → TE
  | .txt x => fun σ H Q => Q (.str x) H
  | .par j => tFmt (tVar j)
/-- a part of an f-string gives a short text -/
theorem part_gives {p : IPart} {σ : L2.St} (h : match p with | .txt x => x.length ≤ 1000 | .par j => ∃ v, σ[j]? = some (some v) ∧ smallV v = true) : ∃ y : Str, y.length ≤ 1000 ∧ TE.Gives p.te σ (.str y) := by
  cases p with
  | txt x => exact ⟨x, h, fun H Q q => q⟩
  | par j =>
    obtain ⟨v, e, s⟩ := h
    cases v with
    | int i =>
      have s : (decide (0 ≤ i) && decide (i < 1000)) = true := s
      rw [Bool.and_eq_true, decide_eq_true_eq, decide_eq_true_eq] at s
      exact ⟨_, int_short s.1 s.2, fun H Q q => ⟨_, e, .inr ⟨i, rfl, int_log s.1 s.2, q⟩⟩⟩
    | str x =>
      have s : x.length ≤ 1000 := of_decide_eq_true s
      exact ⟨x, s, fun H Q q => ⟨_, e, .inl ⟨x, rfl, Nat.le_trans s (by decide), q⟩⟩⟩
    | _ => cases s
theorem joins_give {σ : L2.St} : ∀ (ps : List IPart) (acc : Str) (H : Hp) (Q : Str → Hp → Prop), (∀ p ∈ ps, ∃ y : Str, y.length ≤ 1000 ∧ TE.Gives p.te σ (.str y)) → acc.length + 1000 * ps.length ≤ 100000 → (∀ out, Q out H) → tJs (ps.map IPart.te) acc σ H Q
  | [], acc, H, Q, _, _, q => q acc
  | p :: ps, acc, H, Q, h, hl, q => by
    obtain ⟨y, hy, g⟩ := h p (by simp)
    rw [List.length_cons] at hl
    have e : (acc ++ y).length = acc.length + y.length := by
      show (acc.cps ++ y.cps).size = acc.cps.size + y.cps.size
      exact Array.size_append ..
    refine g H _ ⟨y, rfl, by rw [e]; exact Nat.le_trans (show acc.length + y.length ≤ 100000 by omega) (by decide), joins_give ps (acc ++ y) H Q (fun p hp => h p (by simp [hp])) (by rw [e]; omega) q⟩
/-! the text read -/
def ISrc.te : ISrc → TE
  | .one (.txt x) => fun σ H Q => Q (.str x) H
  | .one (.par j) => tVar j
  | .join ps => fun σ H Q => tJs (ps.map IPart.te) Str.empty σ H fun out H1 => Q (.str out) H1
abbrev ILine := Str × ISrc
def tInit (K : PySem.W.Frag) : List ILine → TS
  | [] => tNext
  | p :: l => tSeq (tOst K p.1 (tVar 0) p.2.te) (tInit K l)
theorem src_gives {σ : L2.St} {q : ISrc} (h : match q with | .one (.txt _) => True | .one (.par j) => ∃ v, σ[j]? = some (some v) | .join ps => ps.length ≤ 50 ∧ ∀ p ∈ ps, (match p with | .txt x => x.length ≤ 1000 | .par j => ∃ v, σ[j]? = some (some v) ∧ smallV v = true)) :
    (∀ (H : Hp) (Q : VK), (∀ v, (match q with | .one (.txt x) => v = .str x | .one (.par j) => σ[j]? = some (some v) | .join _ => True) → Q v H) → q.te σ H Q) := by
  intro H Q k
  match q, h, k with
  | .one (.txt x), _, k => exact k _ rfl
  | .one (.par j), ⟨v, e⟩, k => exact ⟨v, e, k v e⟩
  | .join ps, ⟨h1, h2⟩, k =>
    have e : Str.empty.length = 0 := rfl
    show tJs (ps.map IPart.te) Str.empty σ H (fun out H1 => Q (.str out) H1)
    exact joins_give ps Str.empty H (fun out H1 => Q (.str out) H1) (fun p hp => part_gives (h2 p hp)) (by omega) fun out => k (.str out) trivial
def srcFit (σ : L2.St) (q : ISrc) : Prop := match q with | .one (.txt _) => True | .one (.par j) => ∃ v, σ[j]? = some (some v) | .join ps => ps.length ≤ 50 ∧ ∀ p ∈ ps, (match p with | .txt x => x.length ≤ 1000 | .par j => ∃ v, σ[j]? = some (some v) ∧ smallV v = true)
def srcIs (σ : L2.St) (q : ISrc) (v : V) : Prop := match q with | .one (.txt x) => v = .str x | .one (.par j) => σ[j]? = some (some v) | .join _ => True
/-- the fields at the end: each line's value under its name, the last one first -/
inductive Flds (σ : L2.St) : List ILine → List (Str × V) → Prop
  | nil : Flds σ [] []
  | snoc {l : List ILine} {fs : List (Str × V)} {p : ILine} {v : V} : Flds σ l fs → srcIs σ p.2 v → Flds σ (l ++ [p]) ((p.1, v) :: fs)
theorem Flds.length {σ : L2.St} {l : List ILine} {fs : List (Str × V)} (h : Flds σ l fs) : fs.length = l.length := by
  induction h with
  | nil => rfl
  | snoc _ _ ih => simp [ih]
theorem Flds.names {σ : L2.St} {l : List ILine} {fs : List (Str × V)} (h : Flds σ l fs) : fs.map (·.1) = (l.map (·.1)).reverse := by
  induction h with
  | nil => rfl
  | snoc _ _ ih => simp [ih]
theorem Flds.get {σ : L2.St} {l : List ILine} {fs : List (Str × V)} (h : Flds σ l fs) (nd : (l.map (·.1)).Nodup) {p : ILine} (hp : p ∈ l) : ∃ v, fs.lookup p.1 = some v ∧ srcIs σ p.2 v := by
  induction h with
  | nil => cases hp
  | @snoc l fs q v h hv ih =>
    rw [List.map_append, List.nodup_append] at nd
    rcases List.mem_append.mp hp with hp | hp
    · obtain ⟨w, e, k⟩ := ih nd.1 hp
      have ne : (p.1 == q.1) = false := by
        have := nd.2.2 p.1 (List.mem_map.mpr ⟨p, hp, rfl⟩) q.1 (by simp)
        simpa using this
      exact ⟨w, by rw [List.lookup, ne]; exact e, k⟩
    · rw [List.mem_singleton.mp hp]
      exact ⟨v, by simp [List.lookup], hv⟩
theorem init_on {K : PySem.W.Frag} {C a d : Addr} {σ : L2.St} {D : Ends} (T : OexC K C) (h0 : σ[0]? = some (some (.ref a))) (hda : d ≠ a) : ∀ (l done : List ILine) (fs : List (Str × V)) (H : Hp), (∀ p ∈ l, PySem.W.findIn K (.ref C) p.1 = some none) → (∀ p ∈ l, srcFit σ p.2) → Flds σ done fs → (done ++ l).length ≤ 900 →
    H a = some (exo a C (some d)) → H d = some (exd d fs) → (∀ fs' H', Flds σ (done ++ l) fs' → H' a = some (exo a C (some d)) → H' d = some (exd d fs') → (∀ b, b ≠ a → b ≠ d → H' b = H b) → D.nx σ H') → tInit K l D σ H
  | [], done, fs, H, _, _, hF, _, ea, ed, k => k fs H (by rw [List.append_nil]; exact hF) ea ed fun _ _ _ => rfl
  | p :: l, done, fs, H, hn, hf, hF, hl, ea, ed, k => by
    refine src_gives (hf p (by simp)) H _ fun v hv => ⟨_, h0, a, C, rfl, T, hn p (by simp), .inr ⟨d, fs, ea, ed, by rw [hF.length]; simp at hl; omega, ?_⟩⟩
    refine init_on T h0 hda l (done ++ [p]) ((p.1, v) :: fs) _ (fun q hq => hn q (by simp [hq])) (fun q hq => hf q (by simp [hq])) (.snoc hF hv) (by simpa using hl) (by rw [upd_ne (Ne.symm hda)]; exact ea) upd_same fun fs' H' hF' ea' ed' hk => ?_
    exact k fs' H' (by simpa using hF') ea' ed' fun b h1 h2 => (hk b h1 h2).trans (upd_ne h2)
theorem init_reading {K : PySem.W.Frag} {C a : Addr} {σ : L2.St} {D : Ends} (T : OexC K C) (h0 : σ[0]? = some (some (.ref a))) (l : List ILine) (hl0 : l ≠ []) (H : Hp) (hn : ∀ p ∈ l, PySem.W.findIn K (.ref C) p.1 = some none) (hf : ∀ p ∈ l, srcFit σ p.2) (hl : l.length ≤ 900)
    (ea : H a = some (exo a C none)) (k : ∀ d fs' H', Flds σ l fs' → H d = none → d ≠ a → H' a = some (exo a C (some d)) → H' d = some (exd d fs') → (∀ b, b ≠ a → b ≠ d → H' b = H b) → D.nx σ H') : tInit K l D σ H := by
  cases l with
  | nil => exact absurd rfl hl0
  | cons p l =>
    refine src_gives (hf p (by simp)) H _ fun v hv => ⟨_, h0, a, C, rfl, T, hn p (by simp), .inl ⟨ea, fun d nd hda => ?_⟩⟩
    refine init_on T h0 hda l ([] ++ [p]) [(p.1, v)] _ (fun q hq => hn q (by simp [hq])) (fun q hq => hf q (by simp [hq])) (.snoc .nil hv) (by simpa using hl) upd_same (by rw [upd_ne hda]; exact upd_same) fun fs' H' hF' ea' ed' hk => ?_
    exact k d fs' H' (by simpa using hF') nd hda ea' ed' fun b h1 h2 => (hk b h1 h2).trans (by rw [upd_ne h1, upd_ne h2])
end

/-! ### the reader of such a body -/
structure RIp (C : Cfg) (e : Expr) where
  p : IPart
  ok : ∀ X W, COk C X W → PE X e p.te
structure RIps (C : Cfg) (es : List Expr) where
  ps : List IPart
  ok : ∀ X W, COk C X W → PJ X es (ps.map IPart.te)
structure RIs (C : Cfg) (e : Expr) where
  q : ISrc
  ok : ∀ X W, COk C X W → PE X e q.te
structure RIl (C : Cfg) (ss : List Stmt) where
  l : List ILine
  ok : ∀ X W, COk C X W → PSs X ss (tInit X.K l)
section
variable (C : Cfg)
def iPart (e : Expr) : Option (RIp C e) := match e with
  | .Constant (.str x) j pos => some ⟨.txt x, fun X W h => pe_str⟩
  | .FormattedValue (.Name y p) (-1) none pos => (match hs : slot C y with
    | some i => if hv : isVis (lk C y) = true ∧ okNm y = true then some ⟨.par i, fun X W h => pe_fmt (pe_var (h.slot hs) (h.vis hv.1) (okNm1 hv.2) (okNm2 hv.2))⟩ else none
    | none => none)
  | _ => none
def iParts : (es : List Expr) → Option (RIps C es)
  | [] => some ⟨[], fun X W h => .nil⟩
  | e :: es => match iPart C e, iParts es with
    | some a, some b => some ⟨a.p :: b.ps, fun X W h => .cons (a.ok X W h) (b.ok X W h)⟩
    | _, _ => none
def iSrc (e : Expr) : Option (RIs C e) := match e with
  | .Constant (.str x) j pos => some ⟨.one (.txt x), fun X W h => pe_str⟩
  | .Name y p => (match hs : slot C y with
    | some i => if hv : isVis (lk C y) = true ∧ okNm y = true then some ⟨.one (.par i), fun X W h => pe_var (h.slot hs) (h.vis hv.1) (okNm1 hv.2) (okNm2 hv.2)⟩ else none
    | none => none)
  | .JoinedStr (v1 :: v2 :: rest) pos => (match iParts C (v1 :: v2 :: rest) with
    | some a => some ⟨.join a.ps, fun X W h => pe_joined (a.ok X W h)⟩
    | none => none)
  | _ => none
def iLines : (ss : List Stmt) → Option (RIl C ss)
  | [] => some ⟨[], fun X W h => pss_nil⟩
  | .Assign [.Attribute (.Name s p1) f p2] e pos :: ss => (match hs : slot C s, iSrc C e, iLines ss with
    | some 0, some v, some t => if hv : isVis (lk C s) = true ∧ okNm s = true ∧ notComp e = true then
        some ⟨(f, v.q) :: t.l, fun X W h => pss_cons (ps_ost (pe_var (h.slot hs) (h.vis hv.1) (okNm1 hv.2.1) (okNm2 hv.2.1)) (v.ok X W h) (swap_none hv.2.2)) (t.ok X W h)⟩ else none
    | _, _, _ => none)
  | _ => none
end
def partIn (n : Nat) : IPart → Bool
  | .txt x => decide (x.length ≤ 1000)
  | .par j => decide (1 ≤ j) && decide (j ≤ n)
def srcIn (n : Nat) : ISrc → Bool
  | .one (.txt _) => true
  | .one (.par j) => decide (1 ≤ j) && decide (j ≤ n)
  | .join ps => decide (ps.length ≤ 50) && ps.all (partIn n)
def isPar (j : Nat) : ISrc → Bool
  | .one (.par i) => decide (i = j)
  | _ => false
def linesOk (ps : List Str) (l : List ILine) : Bool := !l.isEmpty && (decide (l.length ≤ 900) && (decide (l.map (·.1)).Nodup && ((l.all fun p => srcIn ps.length p.2) && (List.range ps.length).all fun i => match ps[i]? with
  | some f => l.any fun p => decide (p.1 = f) && isPar (i + 1) p.2
  | none => false)))
theorem isPar_ok {j : Nat} {q : ISrc} (h : isPar j q = true) : q = .one (.par j) := by
  match q, h with
  | .one (.par i), h => rw [of_decide_eq_true (show decide (i = j) = true from h)]
  | .one (.txt _), h => cases h
  | .join _, h => cases h
def initCfg (N : List Str) (st : Stmt) (k : Nat) : Cfg := { N := N, sc := defScope st, fn := fun _ => true, dt := true, kl := fun _ => [], pl := fun _ => false, k := k, blts := [], fns := [], cons := [], md := [] }
theorem init_ok {P : Program} {w : World} {K : PySem.W.Frag} {mg : Str → Option Value} {base : Heap} {x qual : Str} {st : Stmt} {f : Addr} {fd : FuncData} {ps : List Str} {C : Addr} {k : Nat} (F : Fun K x qual st f fd) {self : Str} (S : FnScope (self :: ps) (self :: ps) (defScope st)) (T : OexC K C)
    (r : RIl (initCfg (self :: ps) st k) (defBody st)) (hl : linesOk ps r.l = true) (hn : ∀ p ∈ r.l, PySem.W.findIn K (.ref C) p.1 = some none) : FnOk P w K mg base (L2.CX P w) (k + 1) f fd (self :: ps) (spI K C ps) := by
  unfold linesOk at hl
  simp only [Bool.and_eq_true, List.all_eq_true, decide_eq_true_eq, Bool.not_eq_true', List.isEmpty_eq_false_iff] at hl
  obtain ⟨h1, h2, h3, h4, h5⟩ := hl
  refine F.okX S (fun vs H Q E h => ?_) (fun cdv A outer s H vs Q E hr h => ?_)
  · obtain ⟨a, ws, rfl, e, _⟩ := h
    simp [e]
  · obtain ⟨a, ws, rfl, e, sm, ea, q⟩ := h
    refine ⟨_, r.ok _ (fun cls d _ H' => E cls d H') ⟨rfl, S.nd, rfl, rfl, hr, (fun _ z => nomatch z), (fun _ z => nomatch z), (fun _ z => nomatch z), takes_of rfl rfl rfl rfl, passes_of rfl, fun _ _ => rfl, S.kind, (fun _ z => nomatch z), fun z => nomatch z⟩, ?_⟩
    have at_ : ∀ j, 1 ≤ j → j ≤ ps.length → ∃ v ∈ ws, ws[j - 1]? = some v ∧ (start (self :: ps) (V.ref a :: ws))[j]? = some (some v) := fun j hj hj2 => by
      have hl : j - 1 < ws.length := by omega
      refine ⟨ws[j - 1], List.getElem_mem hl, List.getElem?_eq_getElem hl, ?_⟩
      unfold L2.start
      rw [List.getElem?_append_left (by simp; omega), List.getElem?_map]
      obtain ⟨i, rfl⟩ : ∃ i, j = i + 1 := ⟨j - 1, by omega⟩
      simp only [List.getElem?_cons_succ, Nat.add_sub_cancel] at hl ⊢
      rw [List.getElem?_eq_getElem hl]
      rfl
    refine init_reading T (a := a) rfl r.l h1 H hn (fun p hp => ?_) h2 ea fun d fs' H' hF nd hda ea' ed' hk => q d fs' H' ea' ed' nd hda hk fun i f w hi hw => ?_
    · have h6 := h4 p hp
      obtain ⟨nm, src⟩ := p
      match src, h6 with
      | .one (.txt _), _ => exact trivial
      | .one (.par j), h6 =>
        have h6 : (decide (1 ≤ j) && decide (j ≤ ps.length)) = true := h6
        rw [Bool.and_eq_true, decide_eq_true_eq, decide_eq_true_eq] at h6
        obtain ⟨v, _, _, ev⟩ := at_ j h6.1 h6.2
        exact ⟨v, ev⟩
      | .join qs, h6 =>
        have h6 : (decide (qs.length ≤ 50) && qs.all (partIn ps.length)) = true := h6
        rw [Bool.and_eq_true, decide_eq_true_eq, List.all_eq_true] at h6
        refine ⟨h6.1, fun u hu => ?_⟩
        have h7 := h6.2 u hu
        cases u with
        | txt x => exact of_decide_eq_true h7
        | par j =>
          have h7 : (decide (1 ≤ j) && decide (j ≤ ps.length)) = true := h7
          rw [Bool.and_eq_true, decide_eq_true_eq, decide_eq_true_eq] at h7
          obtain ⟨v, hv, _, ev⟩ := at_ j h7.1 h7.2
          exact ⟨v, ev, sm v hv⟩
    · have hil : i < ps.length := (List.getElem?_eq_some_iff.mp hi).1
      have h6 := h5 i (List.mem_range.mpr hil)
      rw [hi] at h6
      obtain ⟨p, hp, h7⟩ := List.any_eq_true.mp h6
      rw [Bool.and_eq_true, decide_eq_true_eq] at h7
      obtain ⟨v, e1, e2⟩ := hF.get h3 hp
      rw [h7.1] at e1
      rw [e1]
      obtain ⟨v', _, e3, e4⟩ := at_ (i + 1) (by omega) (by omega)
      have e2 : (start (self :: ps) (V.ref a :: ws))[i + 1]? = some (some v) := by
        rw [isPar_ok h7.2] at e2
        exact e2
      rw [e4] at e2
      cases e2
      rw [Nat.add_sub_cancel, hw] at e3
      cases e3
      rfl
end Dl

/-! Dl10e: x.insert(i, e), d.get(k, e), loops over dicts. -/
namespace Dl
open PySem PySem.Spec PyProof.Rows L2
section
variable {X : Cx} {W : WX} {md : Mds} {fr st nw so no sk nk nd : Bool} {e a b o : Expr} {f fo fk fd : DX} {pos : Pos} {es : List Expr} {fs : DXs}
/-! ### x.insert(i, e) of an owned x -/
def dIns (i : Nat) (fs : DXs) : DS := fun env => match env[i]? with
  | some (some (.lst ds)) => (fs env).out env fun as => match as with
    | [.int j, d] => if decide (ds.length < sizeLine) && (decide (0 ≤ j) && lim62 j) then .nx (env.set i (some (.lst (ds.take j.toNat ++ [d] ++ ds.drop j.toNat)))) else .bad
    | _ => .bad
  | _ => .bad
theorem vs_ins {i : Nat} {x : Str} {p2 apos cpos : Pos} (hN : X.N[i]? = some x) (hv : Vis X.env.scope x) (hd : (x == ("__debug__" : Str)) = false) (hcd : (x == ("__classdict__" : Str)) = false) (ho : (mdAt md i).own = true) (hw : ((mdAt md i).nw && !nw) = false)
    (ha : VA X W md true nw [a, b] fs) (hs : starless a = true) (hs2 : starless b = true) (hbase : attributeBase (.Name x p2) "insert" X.env (eval (.Name x p2) X.env) = eval (.Name x p2) X.env) (hline : (apos.endLine == cpos.line) = true) :
    VS X W md fr (.Expr (.Call (.Attribute (.Name x p2) "insert" apos) [a, b] [] cpos) pos) (dIns i fs) := by
  refine ⟨(ps_expr (pe_bm PySem.F.plainAttrs_list PySem.F.slot_list_insert PySem.F.type_list_insert mt_insert (pe_var hN hv hd hcd) ha.run hbase (by rw [notStar hs, notStar hs2]; rfl) hline (notStar hs) (backTo_any (by rw [List.all_cons, hs2]; rfl))) rfl).imp fun D σ H ⟨T0, T, H0, B, env, t0, R, p⟩ => ?_⟩
  unfold dIns at p
  cases e : env[i]? with
  | none => rw [e] at p; exact p.elim
  | some o =>
    cases o with
    | none => rw [e] at p; exact p.elim
    | some d =>
      rw [e] at p
      cases d with
      | lst ds =>
        obtain ⟨l, ev, oa, vs, el, rs⟩ := R.owned e ho rfl
        refine ⟨_, ev, .inl ⟨rfl, vs, SqL.of el⟩, T, H0, B, env, R, (out_of t0 R p).mono fun as us H1 s _ q r => ?_⟩
        match as, r, q with
        | [.int j, dv], r, q =>
          obtain ⟨u, v, rfl, r1, r2⟩ := r.two
          rw [r1.int]
          have q : SP0 X.K X.mg W md fr T0 H0 B (if decide (ds.length < sizeLine) && (decide (0 ≤ j) && lim62 j) then .nx (env.set i (some (.lst (ds.take j.toNat ++ [dv] ++ ds.drop j.toNat)))) else .bad) D := q
          by_cases hz : (decide (ds.length < sizeLine) && (decide (0 ≤ j) && lim62 j)) = true
          case neg => rw [if_neg hz] at q; exact q.elim
          rw [if_pos hz] at q
          rw [Bool.and_eq_true, Bool.and_eq_true, decide_eq_true_eq, decide_eq_true_eq] at hz
          obtain ⟨z1, z2, z3⟩ := hz
          have R1 := R.same s
          have el1 : H1 l = some (.lst vs) := s _ _ el
          have z4 := (lim62_of z3).2
          refine ⟨l, vs, j, v, rfl, rfl, el1, by rw [rs.length]; exact z1, z2, by omega, q T σ _ t0 (R1.upd e oa ⟨_, upd_same, ?_⟩)⟩
          have c := carry_upd (K := X.K) (o := .lst (vs.take j.toNat ++ [v] ++ vs.drop j.toNat)) el1 rfl (show Avd md σ env T H0 (mdAt md i).nw l from .inl ⟨i, oa⟩)
          have rs1 := Rps.carry c _ _ (rs.same s)
          refine ((rs1.take _).append (.one (Rp.carry c _ _ (r2.strict.weak fun b z => Avd.mono (fun e => ?_) z)))).append (rs1.drop _)
          rw [e] at hw
          simpa using hw
        | [], r, q => exact q.elim
        | [d0], r, q => cases d0 <;> exact q.elim
        | .non :: _ :: _, r, q => exact q.elim
        | .bl _ :: _ :: _, r, q => exact q.elim
        | .str _ :: _ :: _, r, q => exact q.elim
        | .tup _ :: _ :: _, r, q => exact q.elim
        | .lst _ :: _ :: _, r, q => exact q.elim
        | .frl _ :: _ :: _, r, q => exact q.elim
        | .ktp _ :: _ :: _, r, q => exact q.elim
        | .dic _ _ _ :: _ :: _, r, q => exact q.elim
        | .int _ :: _ :: _ :: _, r, q => exact q.elim
      | _ => exact p.elim
/-! ### d.get(k, e) -/
def gGet : D → D → D → Option D
  | .dic t ks ws, k, z => if keyFits t k then some ((lookD ks ws k).getD z) else none
  | _, _, _ => none
def isDicD : D → Bool
  | .dic _ _ _ => true
  | _ => false
theorem keysOf_imm {xs : List D} {ks : List Key} (h : keysOf xs = some ks) : imms xs = true := by
  rw [keysOf_eq h]
  have : ∀ l : List Key, imms (l.map keyD) = true := by
    intro l
    induction l with
    | nil => rfl
    | cons a r ih => unfold imms List.map; rw [Bool.and_eq_true]; exact ⟨by cases a <;> rfl, ih⟩
  exact this ks
theorem keyFits_imm {t : Bool} {k : D} (h : keyFits t k = true) : imm k = true := by
  cases k with
  | tup xs =>
    have hk : (keysOf xs).isSome = true := by
      cases t with
      | true => exact h
      | false => cases h
    obtain ⟨ks, e⟩ := Option.isSome_iff_exists.mp hk
    unfold imm
    exact keysOf_imm e
  | int _ => rfl
  | str _ => rfl
  | _ => cases t <;> cases h
def dGet (fo fk fd : DX) : DX := fun env => (fo env).bind fun d => if isDicD d = false then .bad else (fk env).bind fun k => (fd env).bind fun z => .ofO (gGet d k z)
theorem ve_get {apos cpos : Pos} (hu : X.A.units + 1 < cLine) (ho : VE X W md so no o fo) (hk : VE X W md sk nk a fk) (hd : VE X W md true nd b fd) (hs : starless a = true) (hs2 : starless b = true) (hbase : attributeBase o "get" X.env (eval o X.env) = eval o X.env) (hline : (apos.endLine == cpos.line) = true) :
    VE X W md true (no && nd) (.Call (.Attribute o "get" apos) [a, b] [] cpos) (dGet fo fk fd) := by
  have es : starEach [a, b] X.env = [(false, eval a X.env), (false, eval b X.env)] := by rw [notStar hs, notStar hs2]; rfl
  refine ⟨(pe_dget2 hu ho.run hk.run hd.run ⟨hbase, by rw [es]; rfl, hline, by rw [es]; rfl⟩).imp fun σ H Q ⟨T, H0, B, env, R, p⟩ => ⟨T, H0, B, env, R, p.bind.mono fun d v H1 s1 _ p1 r1 => ?_⟩⟩
  cases d with
  | dic t ks ws =>
    obtain ⟨l, vs, rfl, h, r⟩ := r1.dic
    refine ⟨l, rfl, ?_, T, H0, B, env, R.same s1, p1.bind.mono fun dk k H2 s2 _ p2 r2 => ⟨T, H0, B, env, (R.same s1).same s2, p2.bind.mono fun dz z H3 s3 _ p3 r3 => ?_⟩⟩
    · cases t with
      | false => obtain ⟨kvs, e, _⟩ := h; exact .inl ⟨kvs, e⟩
      | true => obtain ⟨kvs, e, _⟩ := h; exact .inr ⟨kvs, e⟩
    have p3 : EP0 X.K X.mg W σ H3 (RG.ofO (if keyFits t dk then some ((lookD ks ws dk).getD dz) else none)) fun d v H' => Rk true X.K H' (Avd md σ env T H0 (no && nd)) v d → Q v H' := p3
    by_cases hf : keyFits t dk = true
    case neg => rw [if_neg hf] at p3; exact p3.elim
    rw [if_pos hf] at p3
    have h3 : DicH (Rd H3 l) t ks vs := h.mono fun u z => Rd.same s3 (Rd.same s2 z)
    obtain ⟨o, g, q⟩ := h3.dget (st := true) ((r.same s2).same s3) (.of (Rp.imm _ _ (r2.same s3).free (keyFits_imm hf))) hf
    refine ⟨o, g, ?_⟩
    cases el : lookD ks ws dk with
    | none =>
      rw [el] at q p3
      subst q
      exact p3 _ _ (Same.refl _) (.of (r3.strict.weak fun a z => Avd.mono (fun e => (Bool.and_eq_true_iff.mp e).2) z))
    | some w =>
      rw [el] at q p3
      obtain ⟨v, rfl, rw'⟩ := q
      exact p3 _ _ (Same.refl _) (.of (rw'.weak fun a z => Avd.mono (fun e => (Bool.and_eq_true_iff.mp e).1) z))
  | _ => exact p1.elim
end

/-! ### own slot := a call whose answer is new, or without lists -/
def anyL : D → RG D
  | .lst ds => .ok (.lst ds)
  | .dic t ks ws => .ok (.dic t ks ws)
  | d => if imm d then .ok d else .bad
theorem anyL_cases (d : D) : (∃ ds, d = .lst ds) ∨ (∃ b ks ws, d = .dic b ks ws) ∨ (anyL d = .ok d ∧ imm d = true) ∨ anyL d = .bad := by
  have f : ∀ d : D, anyL d = (if imm d then RG.ok d else .bad) → (∃ ds, d = .lst ds) ∨ (∃ b ks ws, d = .dic b ks ws) ∨ (anyL d = .ok d ∧ imm d = true) ∨ anyL d = .bad := fun d e => by
    by_cases h : imm d = true
    · rw [if_pos h] at e; exact .inr (.inr (.inl ⟨e, h⟩))
    · rw [if_neg h] at e; exact .inr (.inr (.inr e))
  cases d with
  | lst ds => exact .inl ⟨_, rfl⟩
  | dic b ks ws => exact .inr (.inl ⟨_, _, _, rfl⟩)
  | _ => exact f _ rfl
def dCallA (g : DF') (fs : DXs) : DX := fun env => (fs env).bind fun ds => (g ds).bind anyL
section
variable {X : Cx} {W : WX} {md : Mds} {fr st nw : Bool} {e : Expr} {pos spos : Pos} {es : List Expr} {fs : DXs}
theorem setCall_reading {i ar : Nat} {g : DF'} {D : Ends} {σ : L2.St} {H : Hp} (hl : ∀ env ds, fs env = .ok ds → ds.length = ar) (ho : (mdAt md i).own = true) (hp : (mdAt md i).dp = 0) (w : tS X.K X.mg W md fr (dSet i (dCallA g fs)) D σ H) :
    tCallS (spD X.K X.mg ar true g) (WE W) (tDs X.K X.mg W md st nw fs) σ H fun v H' => gName i v σ H' D.nx := by
  obtain ⟨T0, T, H0, B, env, t0, R, p⟩ := w
  have p : EP0 (β := V) X.K X.mg W σ H ((fs env).bind fun ds => (g ds).bind anyL) fun d _ H' => SP0 X.K X.mg W md fr T0 H0 B (Out.nx (List.set env i (some d))) D := out_of t0 R p
  refine ⟨T, H0, B, env, R, p.bind.mono fun ds vs H1 s1 eq p1 r => ⟨fun _ => False, ds, fun _ z => z.elim, r.free, hl env ds eq, ?_⟩⟩
  have R1 := R.same s1
  have fin : ∀ {v : V} {H' : Hp} {d : Dl.D} {q : Addr}, Same H1 H' → v = .ref q → (¬ ∃ o, H1 q = some o) → Top X.K H' (fun a => (∃ o, H1 a = some o) ∨ a = q) q d → Rel X.K md T H0 B H' (σ.set i (some v)) (env.set i (some d)) := fun {v H' d q} s ev n t => by
    subst ev
    refine R1.setOwn s ho (nw := true) (by cases (mdAt md i).nw <;> rfl) ?_ (t.carry (.weak fun a z => z.elim (fun y => .inl (R1.avdThere y)) .inr) fun _ u => u)
    cases hq : H1 q with
    | none => rfl
    | some o => exact absurd ⟨o, hq⟩ n
  cases e : g ds with
  | ok d =>
    rw [e] at p1
    intro v H' s q
    have p1 : EP0 (β := V) X.K X.mg W σ H1 (anyL d) fun d _ H' => SP0 X.K X.mg W md fr T0 H0 B (Out.nx (List.set env i (some d))) D := p1
    rcases anyL_cases d with ⟨ds, rfl⟩ | ⟨b, ks, ws, rfl⟩ | ⟨e2, im⟩ | e2
    · obtain ⟨q, ev, n, t⟩ := q
      exact p1 v H' s T _ H' t0 (fin s ev n t)
    · obtain ⟨q, ev, n, t⟩ := q
      exact p1 v H' s T _ H' t0 (fin s ev n t)
    · rw [e2] at p1
      exact p1 v H' s T _ H' t0 ((R1.same s).setI hp im fun A => Rp.imm _ _ (Rpf.rp q) im)
    · rw [e2] at p1
      exact p1.elim
  | exc c fs => rw [e] at p1; exact p1
  | bad => rw [e] at p1; exact p1
theorem vs_setCall {i k : Nat} {x : Str} {pos' : Pos} {F : FEnt} {p : Pos} (hN : X.N.Nodup) (hi : X.N[i]? = some x) (hx : Loc X.env.scope x) (hfn : X.fn x = true ∨ X.env.scope.names.lookup x = some .local)
    (hf : F.fresh = true) (hF : FnAt X k F) (hr : Room k X.A) (hg : Gl X F.name) (tk : Takes X W) (ha : VA X W md st nw (e :: es) fs) (hl : ∀ env ds, fs env = .ok ds → ds.length = F.ar)
    (hdb : (F.name == ("__debug__" : Str)) = false) (hs : (e :: es).all starless = true) (hsw : swapsWith (.Call (.Name F.name p) (e :: es) [] pos) (some (.Name x pos')) spos.line X.env = pure false)
    (ho : (mdAt md i).own = true) (hp : (mdAt md i).dp = 0) : VS X W md fr (.Assign [.Name x pos'] (.Call (.Name F.name p) (e :: es) [] pos) spos) (dSet i (dCallA F.den fs)) := by
  obtain ⟨f, fd, ps, ok, hm, hk, hb⟩ := hF.ex
  rw [hf] at ok
  rw [List.all_cons, Bool.and_eq_true] at hs
  exact ⟨(ps_set hN hi hx (pe_callS ok hr hg hm hk hb (fun σ => passAt tk σ) ha.run hdb (notStar hs.1) (backTo_any hs.2)) hsw hfn).imp fun D σ H w => setCall_reading hl ho hp w⟩
end
end Dl

/-! Dl10f: loops over a dict: locked while the loop runs, read by its body, gone behind it. -/
namespace Dl
open PySem PySem.Spec PyProof.Rows L2
def isDicO : HO → Bool
  | .dK _ => true
  | .dT _ => true
  | _ => false
theorem isDicO_mut {u : HO} (h : isDicO u = true) : isMutO u = true := by cases u <;> first | rfl | cases h
theorem isDicO_Mut {u : HO} (h : isDicO u = true) : Mut (some u) := by cases u <;> first | trivial | cases h
section
variable {K : PySem.W.Frag} {md : Mds} {T : Pred} {H0 B H H' : Hp} {σ : L2.St} {env : DEnv} {p : Addr} {od : Obj} {u : HO}
theorem frz_ne (e : H p = some (.frz od u)) {a : Addr} {w : HO} (ea : H a = some w) (n : ∀ o x, w ≠ .frz o x) : a ≠ p := fun z => by
  subst z
  rw [e] at ea
  cases ea
  exact n _ _ rfl
theorem rd_thaw (e : H p = some (.frz od u)) {a : Addr} {w : HO} (n : ∀ o x, w ≠ .frz o x) (h : Rd H a w) : Rd (upd H p u) a w := by
  by_cases z : a = p
  · subst z
    rcases h with h | ⟨o, h⟩
    · rw [e] at h; cases h; exact absurd rfl (n _ _)
    · rw [e] at h; cases h; exact .inl upd_same
  · rcases h with h | ⟨o, h⟩
    · exact .inl (by rw [upd_ne z]; exact h)
    · exact .inr ⟨o, by rw [upd_ne z]; exact h⟩
theorem dicH_thaw (e : H p = some (.frz od u)) {a : Addr} {t : Bool} {ks : List D} {vs : List V} (h : DicH (Rd H a) t ks vs) : DicH (Rd (upd H p u) a) t ks vs := by
  cases t with
  | false => obtain ⟨kvs, h, g⟩ := h; exact ⟨kvs, rd_thaw e (fun _ _ z => by cases z) h, g⟩
  | true => obtain ⟨kvs, h, g⟩ := h; exact ⟨kvs, rd_thaw e (fun _ _ z => by cases z) h, g⟩
mutual
theorem Rp.thaw {A : Pred} (e : H p = some (.frz od u)) (m : isDicO u = true) : ∀ (d : D) (v : V), Rp K H A v d → Rp K (upd H p u) A v d
  | .non, v, h => by unfold Rp at *; exact h
  | .bl _, v, h => by unfold Rp at *; exact h
  | .int _, v, h => by unfold Rp at *; exact h
  | .str _, v, h => by unfold Rp at *; exact h
  | .tup ds, v, h => by
    unfold Rp at *
    obtain ⟨a, vs, ev, s, t⟩ := h
    exact ⟨a, vs, ev, by rw [upd_ne (frz_ne e s fun _ _ z => by cases z)]; exact s, Rps.thaw e m ds vs t⟩
  | .lst ds, v, h => by
    unfold Rp at *
    obtain ⟨a, vs, ev, n, r, t⟩ := h
    exact ⟨a, vs, ev, n, by rw [upd_ne (frz_ne e r fun _ _ z => by cases z)]; exact r, Rps.thaw e m ds vs t⟩
  | .frl ds, v, h => by
    unfold Rp at *
    obtain ⟨a, vs, ev, s, t⟩ := h
    refine ⟨a, vs, ev, ?_, Rps.thaw e m ds vs t⟩
    rcases s with ⟨o, s⟩ | s
    · refine .inl ⟨o, ?_⟩
      have : a ≠ p := fun z => by
        subst z
        rw [e] at s
        cases s
        cases m
      rw [upd_ne this]
      exact s
    · exact .inr s
  | .ktp ds, v, h => by
    unfold Rp at *
    obtain ⟨a, vs, ev, s, t⟩ := h
    refine ⟨a, vs, ev, ?_, Rps.thaw e m ds vs t⟩
    rcases s with s | s
    · exact .inl (rd_thaw e (fun _ _ z => by cases z) s)
    · exact .inr s
  | .dic t ks ws, v, h => by
    unfold Rp at *
    obtain ⟨a, vs, ev, n, h, r⟩ := h
    exact ⟨a, vs, ev, n, dicH_thaw e h, Rps.thaw e m ws vs r⟩
theorem Rps.thaw {A : Pred} (e : H p = some (.frz od u)) (m : isDicO u = true) : ∀ (ds : List D) (vs : List V), Rps K H A vs ds → Rps K (upd H p u) A vs ds
  | [], vs, h => by unfold Rps at *; exact h
  | d :: ds, vs, h => by
    unfold Rps at *
    obtain ⟨v, r, ev, q, t⟩ := h
    exact ⟨v, r, ev, Rp.thaw e m d v q, Rps.thaw e m ds r t⟩
end
theorem Top.thaw {A : Pred} {a : Addr} {d : D} (e : H p = some (.frz od u)) (m : isDicO u = true) (t : Top K H A a d) : Top K (upd H p u) A a d := by
  have ne : a ≠ p := by
    obtain ⟨w, ew, mw⟩ := t.isMut
    exact frz_ne e ew fun o x z => by subst z; cases mw
  cases d with
  | lst ds => obtain ⟨vs, h, r⟩ := t; exact ⟨vs, by rw [upd_ne ne]; exact h, Rps.thaw e m _ _ r⟩
  | dic t ks ws => obtain ⟨vs, h, r⟩ := t; exact ⟨vs, h.mono fun w ew => by rw [upd_ne ne]; exact ew, Rps.thaw e m _ _ r⟩
  | _ => exact t.elim
theorem Rpf.thaw {A : Pred} {v : V} {d : D} (e : H p = some (.frz od u)) (m : isDicO u = true) (h : Rpf K H A v d) : Rpf K (upd H p u) A v d := by
  cases d with
  | lst ds => obtain ⟨q, ev, n, t⟩ := h; exact ⟨q, ev, n, t.thaw e m⟩
  | dic b ks ws => obtain ⟨q, ev, n, t⟩ := h; exact ⟨q, ev, n, t.thaw e m⟩
  | _ => exact Rp.thaw e m _ _ h
theorem FR.thaw {fr : Bool} {T0 : Pred} {v : V} {d : D} (e : H p = some (.frz od u)) (m : isDicO u = true) (h : FR fr K H0 H T0 v d) : FR fr K H0 (upd H p u) T0 v d := by
  cases fr with
  | true => exact Rpf.thaw e m h
  | false => exact Rp.thaw e m _ _ h
theorem DpOk.thaw {S : Pred} {k : Nat} {v : V} {d : D} (e : H p = some (.frz od u)) (m : isDicO u = true) (h : DpOk K H S k v d) : DpOk K (upd H p u) S k v d := by
  unfold DpOk at *
  split at h
  · exact Rp.thaw e m _ _ h
  · obtain ⟨a, kvs, bs, ws, e1, e2, e3, e4, e5, e6, e7, e8⟩ := h
    refine ⟨a, kvs, bs, ws, e1, e2, by rw [upd_ne (frz_ne e e3 fun _ _ z => by cases z)]; exact e3, e4, e5, e6, e7, fun j b w hb hw => ?_⟩
    obtain ⟨g1, g2, us, g3, g4⟩ := e8 j b w hb hw
    exact ⟨g1, g2, us, by rw [upd_ne (frz_ne e g3 fun _ _ z => by cases z)]; exact g3, Rps.thaw e m _ _ g4⟩
theorem Rel.thaw (R : Rel K md T H0 B H σ env) (e : H p = some (.frz od u)) (m : isDicO u = true) (nB : B p = none) : Rel K md T H0 B (L2.upd H p u) σ env := by
  refine ⟨R.s0, fun a o eo => ?_, fun a ha => ?_, R.len, fun i d ei hd => ?_, R.out, R.sep, R.tO, R.st, fun a ha hn => ?_, fun i d ei hd => ?_⟩
  · have : a ≠ p := fun z => by subst z; rw [nB] at eo; cases eo
    rw [upd_ne this]
    exact R.sB a o eo
  · obtain ⟨o, eo⟩ := R.tB a ha
    by_cases z : a = p
    · subst z; exact ⟨u, upd_same⟩
    · exact ⟨o, by rw [upd_ne z]; exact eo⟩
  · obtain ⟨v, ev, q⟩ := R.slot i d ei hd
    refine ⟨v, ev, ?_⟩
    unfold SlotOk at *
    split at q
    · next h => rw [if_pos h]; exact ⟨fun hl => let ⟨a, ea, t⟩ := q.top hl; ⟨a, ea, t.thaw e m⟩, fun hl => let ⟨i1, r⟩ := q.im hl; ⟨i1, Rp.thaw e m _ _ r⟩⟩
    · next h => rw [if_neg h]; exact Rp.thaw e m _ _ q
  · obtain ⟨w, ew, mw⟩ := R.tM a ha hn
    have : a ≠ p := frz_ne e ew fun o x z => by subst z; cases mw
    exact ⟨w, by rw [upd_ne this]; exact ew, mw⟩
  · obtain ⟨v, ev, q⟩ := R.deep i d ei hd
    exact ⟨v, ev, q.thaw e m⟩
/-- how the slots are held while a dict is read only -/
def mdK (md : Mds) (i : Nat) : Mds := md.set i {}
theorem mdK_at (md : Mds) (i : Nat) : mdAt (mdK md i) i = {} := by
  unfold mdAt mdK
  by_cases h : i < md.length
  · rw [List.getElem?_set_self h]; rfl
  · rw [List.getElem?_eq_none (by simpa using h)]; rfl
theorem mdK_ne {md : Mds} {i j : Nat} (h : j ≠ i) : mdAt (mdK md i) j = mdAt md j := by
  unfold mdAt mdK
  rw [List.getElem?_set_ne (Ne.symm h)]
theorem mdK_own {i j : Nat} (h : (mdAt (mdK md i) j).own = true) : j ≠ i ∧ (mdAt md j).own = true := by
  by_cases z : j = i
  · subst z; rw [mdK_at] at h; cases h
  · rw [mdK_ne z] at h; exact ⟨z, h⟩
theorem mdK_dp {i j : Nat} (h : (mdAt (mdK md i) j).dp ≠ 0) : j ≠ i ∧ (mdAt md j).dp ≠ 0 := by
  by_cases z : j = i
  · subst z; rw [mdK_at] at h; exact absurd rfl h
  · rw [mdK_ne z] at h; exact ⟨z, h⟩
theorem mdK_ok (h : MdOk md) (i : Nat) : MdOk (mdK md i) := by
  refine ⟨fun j hj => ?_, fun j k hj hk => h.one j k (mdK_dp hj).2 (mdK_dp hk).2⟩
  obtain ⟨z, o⟩ := mdK_own hj
  rw [mdK_ne z]
  exact h.od j o
theorem ownAt_K {i j : Nat} {a : Addr} (o : OwnAt (mdK md i) σ env j a) : j ≠ i ∧ OwnAt md σ env j a := ⟨(mdK_own o.1).1, (mdK_own o.1).2, o.2⟩
theorem avd_K {i : Nat} {nw : Bool} {a : Addr} (h : Avd (mdK md i) σ env T H0 nw a) : Avd md σ env T H0 nw a := by
  rcases h with ⟨j, o⟩ | h
  · exact .inl ⟨j, (ownAt_K o).2⟩
  · exact .inr h
theorem Rel.freeze (R : Rel K md T H0 B H σ env) {i : Nat} {t : Bool} {ks ws : List D} (ei : env[i]? = some (some (.dic t ks ws))) (oa : OwnAt md σ env i p) (hu : H p = some u) (m : isDicO u = true) (top : Top K H (Avd md σ env T H0 (mdAt md i).nw) p (.dic t ks ws)) :
    Rel K (mdK md i) T H0 B (L2.upd H p (.frz od u)) σ env := by
  have nB := R.out i p oa
  have nT := R.tO i p oa
  have c : ∀ nw, Carry K H (L2.upd H p (.frz od u)) (Avd md σ env T H0 nw) (Avd (mdK md i) σ env T H0 nw) := fun nw => (carry_upd hu (isDicO_mut m) (.inl ⟨i, oa⟩)).trans (.weak fun a z => avd_K z)
  refine ⟨R.s0, fun a o eo => ?_, fun a ha => ?_, R.len, fun j d ej hd => ?_, fun j a o => R.out j a (ownAt_K o).2, fun j k a o o' => R.sep j k a (ownAt_K o).2 (ownAt_K o').2, fun j a o => R.tO j a (ownAt_K o).2, mdK_ok R.st i, fun a ha hn => ?_, fun j d ej hd => ?_⟩
  · have : a ≠ p := fun z => by subst z; rw [nB] at eo; cases eo
    rw [upd_ne this]
    exact R.sB a o eo
  · obtain ⟨o, eo⟩ := R.tB a ha
    have : a ≠ p := fun z => by subst z; exact nT ha
    exact ⟨o, by rw [upd_ne this]; exact eo⟩
  · by_cases z : j = i
    · subst z
      rw [ei] at ej
      cases ej
      refine ⟨.ref p, oa.2.2, ?_⟩
      unfold SlotOk
      rw [mdK_at, if_neg (by exact Bool.false_ne_true)]
      obtain ⟨vs, hd', rs⟩ := top
      refine Rp.dic.mpr ⟨p, vs, rfl, ?_, hd'.mono fun w ew => ?_, ?_⟩
      · rintro (⟨k, o⟩ | h | ⟨h, _⟩)
        · obtain ⟨ne, o⟩ := ownAt_K o
          exact ne (R.sep _ _ _ o oa)
        · exact nT h
        · cases h
      · rw [hu] at ew
        cases ew
        exact .inr ⟨od, upd_same⟩
      · exact (Rps.carry (c _) _ _ rs).weak fun a z => Avd.mono (fun h => by cases h) z
    · rw [mdK_ne z] at hd ⊢
      obtain ⟨v, ev, q⟩ := R.slot j d ej hd
      refine ⟨v, ev, ?_⟩
      unfold SlotOk at *
      split at q
      · next h =>
        rw [if_pos h]
        refine q.carry (c _) fun a w e1 hl ew => ?_
        subst e1
        have : a ≠ p := fun y => by
          subst y
          exact z (R.sep j i a ⟨h, ⟨d, ej, hl⟩, ev⟩ oa)
        rw [upd_ne this]
        exact ew
      · next h => rw [if_neg h]; exact Rp.carry (c _) d v q
  · obtain ⟨w, ew, mw⟩ := R.tM a ha hn
    have : a ≠ p := fun z => by subst z; exact nT ha
    exact ⟨w, by rw [upd_ne this]; exact ew, mw⟩
  · obtain ⟨z, hd⟩ := mdK_dp hd
    rw [mdK_ne z]
    obtain ⟨v, ev, q⟩ := R.deep j d ej hd
    refine ⟨v, ev, q.carry (carry_upd hu (isDicO_mut m) fun s => nT s.1) fun a w s ew => ⟨?_, s⟩⟩
    have : a ≠ p := fun y => by subst y; exact nT s.1
    rw [upd_ne this]
    exact ew
/-- the slot forgotten: as it was held before -/
theorem Rel.unK {i : Nat} (st : MdOk md) (R : Rel K (mdK md i) T H0 B H σ env) : Rel K md T H0 B H σ (env.set i none) := by
  have own : ∀ {j a}, OwnAt md σ (env.set i none) j a → OwnAt (mdK md i) σ env j a := fun {j a} o => by
    obtain ⟨h1, ⟨d, h2, hl⟩, h3⟩ := o
    obtain ⟨z, h2⟩ := kill_lookup h2
    exact ⟨by rw [mdK_ne z]; exact h1, ⟨d, h2, hl⟩, h3⟩
  have av : ∀ {nw a}, Avd md σ (env.set i none) T H0 nw a → Avd (mdK md i) σ env T H0 nw a := fun {nw a} h => by
    rcases h with ⟨j, o⟩ | h
    · exact .inl ⟨j, own o⟩
    · exact .inr h
  refine ⟨R.s0, R.sB, R.tB, by simp [R.len], fun j d ej hd => ?_, fun j a o => R.out j a (own o), fun j k a o o' => R.sep j k a (own o) (own o'), fun j a o => R.tO j a (own o), st, R.tM, fun j d ej hd => ?_⟩
  · obtain ⟨z, ej⟩ := kill_lookup ej
    obtain ⟨v, ev, q⟩ := R.slot j d ej (by rw [mdK_ne z]; exact hd)
    refine ⟨v, ev, ?_⟩
    rw [mdK_ne z] at q
    unfold SlotOk at *
    split at q
    · next h => rw [if_pos h]; exact q.carry (.weak fun a y => av y) fun _ _ _ _ e => e
    · next h => rw [if_neg h]; exact q.weak fun a y => av y
  · obtain ⟨z, ej⟩ := kill_lookup ej
    obtain ⟨v, ev, q⟩ := R.deep j d ej (by rw [mdK_ne z]; exact hd)
    rw [mdK_ne z] at q
    exact ⟨v, ev, q⟩
end
/-! ### the keys, one behind the other -/
theorem rp_keyV {K : PySem.W.Frag} {H : Hp} {A : Pred} (k : Key) : Rp K H A (kV k) (keyD k) := by
  cases k with
  | inl j => exact Rp.int.mpr rfl
  | inr y => exact Rp.str.mpr rfl
theorem rps_keyV {K : PySem.W.Frag} {H : Hp} {A : Pred} : ∀ ks : List Key, Rps K H A (ks.map kV) (ks.map keyD)
  | [] => .nil
  | k :: ks => .cons (rp_keyV k) (rps_keyV ks)
theorem itd_keysT {K : PySem.W.Frag} {O A : Pred} {H : Hp} {p : Addr} {od : Obj} {kvs : List (List Key × V)} (h : H p = some (.frz od (.dT kvs))) (n : ¬ O p) : ItD K O A H (Itkt p od kvs) (kvs.map fun q => D.tup (q.1.map keyD)) := by
  refine ⟨_, _, by rw [List.length_map]; exact walk_keysT, fun H2 s => s p _ n h, fun i H1 x H2 d s y e => ?_⟩
  obtain ⟨rfl, k, v, q, ek, rfl, eq⟩ := y
  rw [List.getElem?_map, ek] at e
  cases e
  exact ⟨Same.refl _, fun N _ => Rp.tup.mpr ⟨q, _, rfl, eq, rps_keyV k⟩⟩
theorem itd_keysK {K : PySem.W.Frag} {O A : Pred} {H : Hp} {p : Addr} {od : Obj} {kvs : List (Key × V)} (h : H p = some (.frz od (.dK kvs))) (n : ¬ O p) : ItD K O A H (Itk p od kvs) (kvs.map fun q => keyD q.1) := by
  refine ⟨_, _, by rw [List.length_map]; exact walk_keys, fun H2 s => s p _ n h, fun i H1 x H2 d s y e => ?_⟩
  obtain ⟨rfl, k, v, ek, rfl⟩ := y
  rw [List.getElem?_map, ek] at e
  cases e
  exact ⟨Same.refl _, fun N _ => rp_keyV k⟩
section
variable {X : Cx} {W : WX} {md : Mds} {fr na : Bool} {tg : Expr} {pos : Pos} {g : DS} {T0 T : Pred} {H0 B H1 : Hp} {σ : L2.St} {env : DEnv}
theorem for_core {gd : D → DEnv → Option DEnv} {sl ks : List Nat} {ds : List D} {J : It} {D : Ends} (t0 : TIn T0 B T) (R1 : Rel X.K md T H0 B H1 σ env) (p1 : SP0 X.K X.mg W md fr T0 H0 B (forGo gd g ks ds env) D) (it : ItD X.K (fun a => false = false ∧ WrP md σ env T B a) (Avd md σ env T H0 na) H1 J ds) :
    ∃ W' : Nat → Nat → L2.St → Hp → Prop, (∃ m, W' 0 m σ H1) ∧ ∀ i m σ H, W' i m σ H →
      (J.stop i H ∧ D.nx σ H) ∨ (J.go i H ∧ ∃ N : L2.St → Hp → Prop, (∀ σ' H', N σ' H' → ∃ m', m' < m ∧ W' (i + 1) m' σ' H') ∧ ∀ x H', J.yld i H x H' → tDG X.K md na gd sl x σ H' fun σ2 H2 => tS X.K X.mg W md fr g { D with nx := N, ct := N, bk := D.nx } σ2 H2) := by
  obtain ⟨G, Y, w, hG, hY⟩ := it.ex
  obtain ⟨Rb, sBB⟩ := R1.rebase
  have s0B := R1.s0
  have stay : ∀ {H2 : Hp}, Same (baseOf (WrP md σ env T B) H1) H2 → Stay (fun a => false = false ∧ WrP md σ env T B a) H1 H2 := fun s a o na e => s a o (by rw [baseOf_some (fun z => na ⟨rfl, z⟩)]; exact e)
  refine for_it w (fun i σ' H' => ∃ T' env', TIn T0 (baseOf (WrP md σ env T B) H1) T' ∧ Rel X.K md T' H0 (baseOf (WrP md σ env T B) H1) H' σ' env' ∧ SP0 X.K X.mg W md fr T0 H0 B (forGo gd g ks (ds.drop i) env') D) ⟨T, env, t0.rebase R1, Rb, p1⟩ (fun i σ' H' _ ⟨T', env', _, R', _⟩ => hG H' (stay R'.sB)) ?_ ?_
  · rintro i x σ2 H2 H3 hi ⟨T', env', t', R', q⟩ y
    obtain ⟨d, hd⟩ : ∃ d, ds[i]? = some d := ⟨ds[i], List.getElem?_eq_getElem hi⟩
    obtain ⟨s3, rx⟩ := hY i H2 x H3 d (stay R'.sB) y hd
    have rx := rx (fun a => H1 a = none) (fun a z => z)
    have hdrop : ds.drop i = d :: ds.drop (i + 1) := by
      obtain ⟨h1, h2⟩ := List.getElem?_eq_some_iff.mp hd
      rw [List.drop_eq_getElem_cons h1, h2]
    rw [hdrop] at q
    unfold forGo at q
    refine ⟨T', H0, _, env', d, R'.same s3, rx.weak fun a z => ?_, ?_⟩
    · have fin : baseOf (WrP md σ env T B) H1 a = none → Avd md σ env T H0 na a ∨ H1 a = none := fun this => by
        by_cases z : WrP md σ env T B a
        · exact .inl z.avd
        · rw [baseOf_some z] at this
          exact .inr this
      rcases z with ⟨j, o⟩ | z | z
      · exact fin (R'.out j a o)
      · rcases t'.out a z with z | z
        · exact .inl (.inr (.inl (t0.le a z)))
        · exact fin z
      · exact .inl (.inr (.inr z))
    · cases eg : gd d env' with
      | none => rw [eg] at q; exact q.elim
      | some e1 =>
        rw [eg] at q
        intro σ4 R4 a4 w4
        refine ⟨T0, T', H0, _, e1, t', R4, ?_⟩
        have q : SP0 X.K X.mg W md fr T0 H0 B (match g e1 with
          | .nx e2 => forGo gd g ks (ds.drop (i + 1)) (killD e2 ks)
          | .ct e2 => forGo gd g ks (ds.drop (i + 1)) (killD e2 ks)
          | .bk e2 => .nx e2
          | o => o) D := q
        cases eb : g e1 with
        | nx e2 => rw [eb] at q; exact fun T5 σ5 H5 t5 R5 => ⟨T5, killD e2 ks, t5, R5.killD ks, q⟩
        | ct e2 => rw [eb] at q; exact fun T5 σ5 H5 t5 R5 => ⟨T5, killD e2 ks, t5, R5.killD ks, q⟩
        | bk e2 => rw [eb] at q; exact fun T5 σ5 H5 t5 R5 => q T5 σ5 H5 (t5.unbase t0.old sBB) (R5.unbase s0B sBB)
        | rt d => rw [eb] at q; exact fun v H' s' z => q v H' (sBB.trans s') z
        | exc c fs e2 => rw [eb] at q; exact fun T5 cls dd σ' H' t5 R' x => q T5 cls dd σ' H' (t5.unbase t0.old sBB) (R'.unbase s0B sBB) x
        | bad => rw [eb] at q; exact q
  · rintro σ' H' ⟨T', env', t', R', q⟩
    rw [List.drop_length] at q
    exact q T' σ' H' (t'.unbase t0.old sBB) (R'.unbase s0B sBB)
/-- behind the loop: the dict is forgotten -/
def endK (i : Nat) : Out → Out
  | .nx e => .nx (e.set i none)
  | .rt d => .rt d
  | _ => .bad
def dForK (i : Nat) (gd : D → DEnv → Option DEnv) (body : DS) (ks : List Nat) : DS := fun env => match env[i]? with
  | some (some (.dic _ keys _)) => endK i (forGo gd body ks keys env)
  | _ => .bad
theorem vs_forK {i0 : Nat} {x0 : Str} {p0 : Pos} {body : List Stmt} {gd : D → DEnv → Option DEnv} {sl ks : List Nat} (hp : PassesOwn (model X.prog X.w) X.A X.env X.xe) (hc : X.calm = true) (hN : X.N[i0]? = some x0) (hv : Vis X.env.scope x0) (hd : (x0 == ("__debug__" : Str)) = false) (hcd : (x0 == ("__classdict__" : Str)) = false) (ho : (mdAt md i0).own = true)
    (hg : VG X (mdK md i0) na tg gd sl) (hb : VSs X W (mdK md i0) fr body g) (hs : ∀ x, foldedSetIterable (.Name x0 p0) X.env x = pure x) : VS X W md fr (.For tg (.Name x0 p0) body [] pos) (dForK i0 gd g ks) := by
  refine ⟨(ps_lock (ps_for hp hc (pi_keys (tg := tg) (pe_var (pos := p0) hN hv hd hcd)) hg.run hb.run hs)).imp fun D σ H ⟨T0, T, H0, B, env, t0, R, p⟩ => ?_⟩
  unfold dForK at p
  cases hl : env[i0]? with
  | none => rw [hl] at p; exact p.elim
  | some o =>
  cases o with
  | none => rw [hl] at p; exact p.elim
  | some d0 =>
  cases d0 with
  | dic t keys ws =>
    rw [hl] at p
    have p : SP0 X.K X.mg W md fr T0 H0 B (endK i0 (forGo gd g ks keys env)) D := p
    obtain ⟨a0, ev0, oa0, top⟩ := R.owned hl ho rfl
    obtain ⟨u, hu, mu⟩ : ∃ u, H a0 = some u ∧ isDicO u = true := by
      obtain ⟨vs, h, _⟩ := top
      cases t with
      | false => obtain ⟨kvs, h, _⟩ := h; exact ⟨_, h, rfl⟩
      | true => obtain ⟨kvs, h, _⟩ := h; exact ⟨_, h, rfl⟩
    refine ⟨a0, u, hu, isDicO_Mut mu, fun od => ?_⟩
    have R1 : Rel X.K (mdK md i0) T H0 B (upd H a0 (.frz od u)) σ env := R.freeze hl oa0 hu mu top
    have nW : ¬ WrP (mdK md i0) σ env T B a0 := fun z => by
      rcases z with ⟨j, o⟩ | ⟨z, _⟩
      · obtain ⟨ne, o⟩ := ownAt_K o
        exact ne (R.sep _ _ _ o oa0)
      · exact R.tO _ _ oa0 z
    obtain ⟨Rb, sBB⟩ := R1.rebase
    have s0B := R1.s0
    have fz : baseOf (WrP (mdK md i0) σ env T B) (upd H a0 (.frz od u)) a0 = some (.frz od u) := by rw [baseOf_some nW]; exact upd_same
    have nB := R.out i0 a0 oa0
    have back : ∀ {T' : Pred} {σ' : L2.St} {H' : Hp} {env' : DEnv}, Rel X.K (mdK md i0) T' H0 (baseOf (WrP (mdK md i0) σ env T B) (upd H a0 (.frz od u))) H' σ' env' → H' a0 = some (.frz od u) ∧ Rel X.K md T' H0 B (upd H' a0 u) σ' (env'.set i0 none) := fun {T' σ' H' env'} R' =>
      ⟨R'.sB _ _ fz, ((R'.unbase s0B sBB).thaw (R'.sB _ _ fz) mu nB).unK R.st⟩
    have p1 : ∀ o : Out, SP0 X.K X.mg W md fr T0 H0 B (endK i0 o) D → SP0 X.K X.mg W (mdK md i0) fr T0 H0 (baseOf (WrP (mdK md i0) σ env T B) (upd H a0 (.frz od u))) o ⟨fun σ' H' => H' a0 = some (.frz od u) ∧ D.nx σ' (upd H' a0 u), fun v H' => H' a0 = some (.frz od u) ∧ D.rt v (upd H' a0 u), fun σ' H' => H' a0 = some (.frz od u) ∧ D.bk σ' (upd H' a0 u), fun σ' H' => H' a0 = some (.frz od u) ∧ D.ct σ' (upd H' a0 u)⟩ := fun o q => by
      cases o with
      | nx e => exact fun T' σ' H' t' R' => let ⟨f, R2⟩ := back R'; ⟨f, q T' σ' _ (t'.unbase t0.old sBB) R2⟩
      | rt d =>
        intro v H' s' z
        have f := s' _ _ fz
        refine ⟨f, q v _ (fun a o eo => ?_) (z.thaw f mu)⟩
        have : a ≠ a0 := fun y => by subst y; rw [nB] at eo; cases eo
        rw [upd_ne this]
        exact s' a o (sBB a o eo)
      | _ => exact q.elim
    have p2 := p1 _ p
    have fin := fun J it => for_core (na := na) (sl := sl) (J := J) (t0.rebase R1) Rb p2 it
    obtain ⟨vs, hdic, _⟩ := top
    have wr : ∀ a, WrP (mdK md i0) σ env T (baseOf (WrP (mdK md i0) σ env T B) (upd H a0 (.frz od u))) a → a ≠ a0 := fun a z y => by
      subst y
      rcases z with z | ⟨z, _⟩
      · exact nW (.inl z)
      · exact R.tO _ _ oa0 z
    refine ⟨_, ev0, a0, od, rfl, ?_⟩
    cases t with
    | false =>
      obtain ⟨kvs, h, rfl, _⟩ := hdic
      rw [hu] at h
      cases h
      exact .inl ⟨kvs, upd_same, fin _ (itd_keysK upd_same fun z => wr _ z.2 rfl)⟩
    | true =>
      obtain ⟨kvs, h, rfl, _⟩ := hdic
      rw [hu] at h
      cases h
      exact .inr ⟨kvs, upd_same, fin _ (itd_keysT upd_same fun z => wr _ z.2 rfl)⟩
  | _ => rw [hl] at p; exact p.elim
end
end Dl

/-! Dl10g: {k: v} with a tuple for its key. -/
namespace Dl
open PySem PySem.Spec PyProof.Rows L2
def tDisp1 (tk tv : TE) : TE := fun σ H Q => ∀ p, H p = none → tk σ (upd H p (.dT [])) fun x H1 => tv σ H1 fun y H2 => H2 p = some (.dT []) ∧ ∃ (ks : List Key) (b : Addr), x = .ref b ∧ H2 b = some (.tup (ks.map kV)) ∧ Q (.ref p) (upd H2 p (.dT [(ks, y)]))
theorem pe_disp1 {X : Cx} {pos : Pos} {k v : Expr} {tk tv : TE} (hu : X.A.units + 1 < cLine) (hk : PE X k tk) (hv : PE X v tv) : PE X (.Dict [some k] [v] pos) (tDisp1 tk tv) := by
  refine ⟨fun pins s σ H Q I q => ?_⟩
  have hn := I.hok.fresh (Nat.le_refl s.heap.objs.size)
  have I1 := I.laid (a := s.heap.objs.size) (o := .dT []) (h' := s.heap.push { cls := .type "dict", data := .dict #[] }) (t' := s.toks) (fun _ _ q => Heap.get?_push_of_some _ q) (Nat.le_refl _) (dt_empty s.heap I.big)
  refine wpAny_Dict_any rfl rfl (by simp) (by show 1 ≤ 15; decide) (pairTrees_cons_walk (thn (hk.run pins _ σ _ _ I1 (q _ hn)) fun u s1 ⟨x, H1, I2, rx, q1⟩ => thn (hv.run pins s1 σ H1 _ I2 q1) fun w s2 ⟨y, H2, I3, ry, q2⟩ => pairTrees_nil_walk ?_))
  obtain ⟨e, ks, b, rfl, eb, q2⟩ := q2
  cases (show u = Value.ref b from rx)
  obtain ⟨z, hd, xs, rel, dd⟩ := dt_of I3.hok e
  have hz : xs.length ≤ sizeLine := by rw [← Paired.length rel]; exact z
  unfold storeAll
  rw [List.forIn_cons]
  refine wpAny_bind (wpAny_bind (wpAny_dictSet_heap (hsz := hz) (knd := tupleKind (mixKind X.prog X.w)) ?_ (key_of I3.hok eb) dd fun h' dd' hs => wpAny_pure ?_))
  · exact Nat.lt_of_succ_lt hu
  show wpAny _ _ (forIn ([] : List (Value × Value)) PUnit.unit _) _ _ _
  rw [List.forIn_nil]
  refine wpAny_pure ⟨.ref s.heap.objs.size, _, ?_, rfl, q2⟩
  obtain ⟨o, es, ep, hq, h2, h3, h4, _, h5⟩ := dd'
  have hl : (putK ([] : List (List Key × V)) ks y).length ≤ sizeLine := by have := length_putK ([] : List (List Key × V)) ks y; rw [List.length_nil] at this; rw [sizeLine_eq]; omega
  refine d_write I3 (by rw [e]; exact True.intro) hs ⟨o, hq⟩ ⟨hl, hd, _, (rel.put ks eb ry).keeps fun c ys ec => ?_, o, es, ep, hq, h2, h3, h4, h5⟩
  rw [upd_ne (ne_of ec e (fun z => nomatch z))]
  exact ec
section
variable {X : Cx} {W : WX} {md : Mds} {sk nk nw : Bool} {ek ev : Expr} {fk fv : DX} {pos : Pos}
def dDict1 (fk fv : DX) : DX := fun env => (fk env).bind fun k => (fv env).bind fun v => if keyFits true k && imm v then .ok (.dic true [k] [v]) else .bad
theorem vf_dict1 (hu : X.A.units + 1 < cLine) (hk : VE X W md sk nk ek fk) (hv : VE X W md true nw ev fv) : VF X W md true (.Dict [some ek] [ev] pos) (dDict1 fk fv) := by
  refine ⟨(pe_disp1 hu hk.run hv.run).imp fun σ H Q ⟨T, H0, B, env, R, p⟩ => fun q nq => ?_⟩
  have p : EP0 X.K X.mg W σ H ((fk env).bind fun k => (fv env).bind fun v => if keyFits true k && imm v then RG.ok (D.dic true [k] [v]) else RG.bad) _ := p
  refine ⟨T, H0, B, env, R.same (same_new nq), (p.same (same_new nq)).bind.mono fun dk x H1 s1 eqk p1 r1 => ⟨T, H0, B, env, (R.same (same_new nq)).same s1, p1.bind.mono fun dv y H2 s2 eqv p2 r2 => ?_⟩⟩
  have eq : H2 q = some (.dT []) := s2 _ _ (s1 _ _ upd_same)
  rw [eqk] at p
  have p : EP0 X.K X.mg W σ H ((fv env).bind fun v => if keyFits true dk && imm v then RG.ok (D.dic true [dk] [v]) else RG.bad) _ := p
  rw [eqv] at p
  have p2 : EP0 X.K X.mg W σ H (if keyFits true dk && imm dv then RG.ok (D.dic true [dk] [dv]) else RG.bad) _ := p
  by_cases ok : (keyFits true dk && imm dv) = true
  case neg => rw [if_neg ok] at p2; exact p2.elim
  rw [if_pos ok] at p2
  rw [Bool.and_eq_true] at ok
  refine ⟨eq, ?_⟩
  cases dk with
  | tup xs =>
    obtain ⟨b, vs, rfl, eb, rs⟩ := Rp.tup.mp (r1.same s2).free
    have hks : (keysOf xs).isSome = true := ok.1
    obtain ⟨ks, eks⟩ := Option.isSome_iff_exists.mp hks
    obtain rfl := keysOf_eq eks
    obtain rfl := kVs_of rs
    refine ⟨ks, b, rfl, eb, p2 (.ref q) _ (fun a o eo => ?_) ⟨q, rfl, nq, ?_⟩⟩
    · have ne : a ≠ q := fun z => by subst z; rw [nq] at eo; cases eo
      rw [upd_ne ne]
      exact s2 _ _ (s1 _ _ (by rw [upd_ne ne]; exact eo))
    · refine ⟨[y], ⟨[(ks, y)], upd_same, rfl, rfl⟩, .one ?_⟩
      have c := carry_upd (K := X.K) (A := fun a => a = q) (o := .dT [(ks, y)]) eq rfl rfl
      exact Rp.imm _ _ (Rp.carry c _ _ (Rp.imm _ _ r2.free ok.2)) ok.2
  | _ => cases ok.1
end
end Dl

/-! Dl10h: a dict of lists that only one slot reaches (dp 2). -/
namespace Dl
open PySem PySem.Spec PyProof.Rows L2
/-- the place of a key -/
def idxD : List D → D → Option Nat
  | [], _ => none
  | y :: r, k => if keyEq y k then some 0 else (idxD r k).map (· + 1)
abbrev tupK (p : List Key × V) : D := .tup (p.1.map keyD)
theorem idx_some {key : List Key} : ∀ {kvs : List (List Key × V)} {j : Nat}, idxD (kvs.map tupK) (.tup (key.map keyD)) = some j → ∃ v, kvs[j]? = some (key, v) ∧ valV kvs key = some v
  | [], j, h => by cases h
  | (k0, v0) :: kvs, j, h => by
    have h : (if keyEq (.tup (k0.map keyD)) (.tup (key.map keyD)) then some 0 else (idxD (kvs.map tupK) (.tup (key.map keyD))).map (· + 1)) = some j := h
    rw [keyEq_keys] at h
    by_cases e : k0 = key
    · subst e
      rw [if_pos (by simp)] at h
      cases h
      exact ⟨v0, rfl, by unfold valV; simp⟩
    · rw [if_neg (by simpa using e)] at h
      obtain ⟨j', e1, e2⟩ := Option.map_eq_some_iff.mp h
      subst e2
      obtain ⟨v, h1, h2⟩ := idx_some e1
      refine ⟨v, h1, ?_⟩
      unfold valV at *
      rw [List.find?_cons_of_neg (by simpa using e)]
      exact h2
theorem idx_none {key : List Key} : ∀ {kvs : List (List Key × V)}, idxD (kvs.map tupK) (.tup (key.map keyD)) = none → valV kvs key = none
  | [], _ => rfl
  | (k0, v0) :: kvs, h => by
    have h : (if keyEq (.tup (k0.map keyD)) (.tup (key.map keyD)) then some 0 else (idxD (kvs.map tupK) (.tup (key.map keyD))).map (· + 1)) = none := h
    rw [keyEq_keys] at h
    by_cases e : k0 = key
    · rw [if_pos (by simpa using e)] at h
      cases h
    · rw [if_neg (by simpa using e)] at h
      have h2 := idx_none (Option.map_eq_none_iff.mp h)
      unfold valV at *
      rw [List.find?_cons_of_neg (by simpa using e)]
      exact h2
section
variable {K : PySem.W.Frag} {md : Mds} {T : Pred} {H0 B H H' : Hp} {σ : L2.St} {env : DEnv}
theorem own_no {i : Nat} (st : MdOk md) (hp : (mdAt md i).dp ≠ 0) : (mdAt md i).own = false := by
  cases h : (mdAt md i).own with
  | false => rfl
  | true => exact absurd (st.od i h) hp
theorem ownAt_env {i : Nat} {y : Option D} (ho : (mdAt md i).own = false) {j : Nat} {a : Addr} : OwnAt md σ (env.set i y) j a ↔ OwnAt md σ env j a := by
  unfold OwnAt
  by_cases h : j = i
  · subst h
    rw [ho]
    exact ⟨fun z => (Bool.false_ne_true z.1).elim, fun z => (Bool.false_ne_true z.1).elim⟩
  · rw [List.getElem?_set_ne (Ne.symm h)]
theorem avd_env {i : Nat} {y : Option D} (ho : (mdAt md i).own = false) {nw : Bool} : Avd md σ (env.set i y) T H0 nw = Avd md σ env T H0 nw := by
  funext a
  unfold Avd
  simp only [ownAt_env ho]
theorem Rel.setDeep (R : Rel K md T H0 B H σ env) {i : Nat} {v : V} {d : D} (hp : (mdAt md i).dp ≠ 0) (q : DpOk K H (fun a => T a ∧ B a = none) (mdAt md i).dp v d) : Rel K md T H0 B H (σ.set i (some v)) (env.set i (some d)) := by
  have ho := own_no R.st hp
  refine ⟨R.s0, R.sB, R.tB, by simp [R.len], fun j d' e hd => ?_, fun j a o => R.out j a ((ownAt_set ho).mp o), fun j k a o o' => R.sep j k a ((ownAt_set ho).mp o) ((ownAt_set ho).mp o'), fun j a o => R.tO j a ((ownAt_set ho).mp o), R.st, R.tM, fun j d' e hd => ?_⟩
  · rw [avd_set ho]
    have hj : j ≠ i := fun z => by subst z; exact hp hd
    rw [List.getElem?_set_ne (Ne.symm hj)] at e ⊢
    exact R.slot j d' e hd
  · have : j = i := R.st.one j i hd hp
    subst this
    by_cases hl : j < env.length
    · rw [List.getElem?_set_self hl] at e
      cases e
      exact ⟨v, List.getElem?_set_self (by rw [R.len]; exact hl), q⟩
    · rw [List.getElem?_eq_none (by simpa using hl)] at e
      cases e
theorem Rel.updDeep (R : Rel K md T H0 B H σ env) {i : Nat} {a : Addr} {u o : HO} {d d' : D} (hp : (mdAt md i).dp ≠ 0) (ei : env[i]? = some (some d)) (hT : T a) (nB : B a = none) (hu : H a = some u) (mu : isMutO u = true) (mo : isMutO o = true)
    (q : ∀ v, σ[i]? = some (some v) → DpOk K (L2.upd H a o) (fun a => T a ∧ B a = none) (mdAt md i).dp v d') : Rel K md T H0 B (L2.upd H a o) σ (env.set i (some d')) := by
  have ho := own_no R.st hp
  have c : ∀ nw, Carry K H (L2.upd H a o) (Avd md σ env T H0 nw) (Avd md σ env T H0 nw) := fun nw => carry_upd hu mu (.inr (.inl hT))
  refine ⟨R.s0, fun b w eb => ?_, fun b hb => ?_, by simp [R.len], fun j d2 e hd => ?_, fun j b o => R.out j b ((ownAt_env ho).mp o), fun j k b o o' => R.sep j k b ((ownAt_env ho).mp o) ((ownAt_env ho).mp o'), fun j b o => R.tO j b ((ownAt_env ho).mp o), R.st, fun b hb hn => ?_, fun j d2 e hd => ?_⟩
  · have : b ≠ a := fun z => by subst z; rw [nB] at eb; cases eb
    rw [upd_ne this]
    exact R.sB b w eb
  · by_cases z : b = a
    · subst z; exact ⟨o, upd_same⟩
    · obtain ⟨w, ew⟩ := R.tB b hb
      exact ⟨w, by rw [upd_ne z]; exact ew⟩
  · rw [avd_env ho]
    have hj : j ≠ i := fun z => by subst z; exact hp hd
    rw [List.getElem?_set_ne (Ne.symm hj)] at e
    obtain ⟨v, ev, q⟩ := R.slot j d2 e hd
    refine ⟨v, ev, ?_⟩
    unfold SlotOk at *
    split at q
    · next h =>
      rw [if_pos h]
      refine q.carry (c _) fun b w e1 hl ew => ?_
      subst e1
      have : b ≠ a := fun y => by
        subst y
        exact R.tO j b ⟨h, ⟨d2, e, hl⟩, ev⟩ hT
      rw [upd_ne this]
      exact ew
    · next h => rw [if_neg h]; exact Rp.carry (c _) d2 v q
  · by_cases z : b = a
    · subst z; exact ⟨o, upd_same, mo⟩
    · obtain ⟨w, ew, mw⟩ := R.tM b hb hn
      exact ⟨w, by rw [upd_ne z]; exact ew, mw⟩
  · have : j = i := R.st.one j i hd hp
    subst this
    have hl : j < env.length := (List.getElem?_eq_some_iff.mp ei).1
    rw [List.getElem?_set_self hl] at e
    cases e
    obtain ⟨v, ev, _⟩ := R.deep j d ei hp
    exact ⟨v, ev, q v ev⟩
theorem rps_lists {bs : List Addr} {ws : List (List D)} (hl : bs.length = ws.length) (h : ∀ (j : Nat) (b : Addr) (w : List D), bs[j]? = some b → ws[j]? = some w → ∃ us, H b = some (.lst us) ∧ Rps K H (fun _ => False) us w) : Rps K H (fun _ => False) (bs.map V.ref) (ws.map D.lst) := by
  induction bs generalizing ws with
  | nil =>
    cases ws with
    | nil => exact .nil
    | cons _ _ => cases hl
  | cons b bs ih =>
    cases ws with
    | nil => cases hl
    | cons w ws =>
      obtain ⟨us, e, r⟩ := h 0 b w rfl rfl
      exact .cons (Rp.lst.mpr ⟨b, us, rfl, id, e, r⟩) (ih (by simpa using hl) fun j b' w' h1 h2 => h (j + 1) b' w' h1 h2)
/-- what the slot of a dict of lists holds -/
theorem Rel.deep2 (R : Rel K md T H0 B H σ env) {i : Nat} {d : D} (hp : (mdAt md i).dp = 2) (e : env[i]? = some (some d)) : ∃ v, σ[i]? = some (some v) ∧ DpFull K H (fun a => T a ∧ B a = none) v d := by
  obtain ⟨v, ev, q⟩ := R.deep i d e (by rw [hp]; decide)
  rw [hp] at q
  exact ⟨v, ev, q⟩
theorem Rel.freezeD (R : Rel K md T H0 B H σ env) {T0 : Pred} (t0 : TIn T0 B T) {i : Nat} {p : Addr} {kvs : List (List Key × V)} {bs : List Addr} {ws : List (List D)} {od : Obj} (hp : (mdAt md i).dp = 2) (ei : env[i]? = some (some (.dic true (kvs.map tupK) (ws.map D.lst)))) (ev : σ[i]? = some (some (.ref p)))
    (sp : T p ∧ B p = none) (hk : H p = some (.dT kvs)) (hv : kvs.map (·.2) = bs.map V.ref) (nd : (p :: bs).Nodup) (hl : bs.length = ws.length)
    (hw : ∀ (j : Nat) (b : Addr) (w : List D), bs[j]? = some b → ws[j]? = some w → (T b ∧ B b = none) ∧ imms w = true ∧ ∃ us, H b = some (.lst us) ∧ Rps K H (fun _ => False) us w) :
    Rel K (mdK md i) T0 H0 B (L2.upd H p (.frz od (.dT kvs))) σ env := by
  have hp0 : (mdAt md i).dp ≠ 0 := by rw [hp]; decide
  have nT : ∀ a, T0 a → a ≠ p := fun a z y => by
    subst y
    obtain ⟨u, e⟩ := t0.old a z
    rw [sp.2] at e
    cases e
  have av : ∀ {nw a}, Avd (mdK md i) σ env T0 H0 nw a → Avd md σ env T H0 nw a := fun {nw a} h => by
    rcases h with ⟨j, o⟩ | h | h
    · exact .inl ⟨j, (ownAt_K o).2⟩
    · exact .inr (.inl (t0.le a h))
    · exact .inr (.inr h)
  have c : ∀ nw, Carry K H (L2.upd H p (.frz od (.dT kvs))) (Avd md σ env T H0 nw) (Avd (mdK md i) σ env T0 H0 nw) := fun nw => (carry_upd hk rfl (.inr (.inl sp.1))).trans (.weak fun a z => av z)
  have none0 : ∀ a, T a ∧ B a = none → ¬ Avd (mdK md i) σ env T0 H0 false a := fun a sa z => by
    rcases z with ⟨j, o⟩ | z | ⟨z, _⟩
    · exact R.tO j a (ownAt_K o).2 sa.1
    · obtain ⟨u, e⟩ := t0.old a z
      rw [sa.2] at e
      cases e
    · cases z
  refine ⟨R.s0, fun a o eo => ?_, fun a ha => ?_, R.len, fun j d ej hd => ?_, fun j a o => R.out j a (ownAt_K o).2, fun j k a o o' => R.sep j k a (ownAt_K o).2 (ownAt_K o').2, fun j a o z => R.tO j a (ownAt_K o).2 (t0.le a z), mdK_ok R.st i, fun a ha hn => ?_, fun j d ej hd => ?_⟩
  · have : a ≠ p := fun z => by subst z; rw [sp.2] at eo; cases eo
    rw [upd_ne this]
    exact R.sB a o eo
  · obtain ⟨o, eo⟩ := R.tB a (t0.le a ha)
    exact ⟨o, by rw [upd_ne (nT a ha)]; exact eo⟩
  · by_cases z : j = i
    · subst z
      rw [ei] at ej
      cases ej
      refine ⟨.ref p, ev, ?_⟩
      unfold SlotOk
      rw [mdK_at, if_neg (by exact Bool.false_ne_true)]
      refine Rp.dic.mpr ⟨p, bs.map V.ref, rfl, none0 p sp, ⟨kvs, .inr ⟨od, upd_same⟩, rfl, hv⟩, ?_⟩
      have go : ∀ {bs : List Addr} {ws : List (List D)}, bs.length = ws.length → (∀ (j : Nat) (b : Addr) (w : List D), bs[j]? = some b → ws[j]? = some w → b ≠ p ∧ (T b ∧ B b = none) ∧ imms w = true ∧ ∃ us, H b = some (.lst us) ∧ Rps K H (fun _ => False) us w) → Rps K (L2.upd H p (.frz od (.dT kvs))) (Avd (mdK md j) σ env T0 H0 false) (bs.map V.ref) (ws.map D.lst) := by
        intro bs
        induction bs with
        | nil => intro ws hl _; cases ws with | nil => exact .nil | cons _ _ => cases hl
        | cons b bs ih =>
          intro ws hl h
          cases ws with
          | nil => cases hl
          | cons w ws =>
            obtain ⟨ne, sb, im, us, eb, r⟩ := h 0 b w rfl rfl
            refine .cons (Rp.lst.mpr ⟨b, us, rfl, none0 b sb, by rw [upd_ne ne]; exact eb, ?_⟩) (ih (by simpa using hl) fun k b' w' h1 h2 => h (k + 1) b' w' h1 h2)
            exact Rps.imm _ _ (Rps.carry (carry_upd (A := fun a => a = p) hk rfl rfl) _ _ (Rps.imm _ _ r im)) im
      refine go hl fun k b w h1 h2 => ⟨fun y => ?_, hw k b w h1 h2⟩
      subst y
      exact (List.nodup_cons.mp nd).1 (List.mem_of_getElem? h1)
    · rw [mdK_ne z] at hd ⊢
      obtain ⟨v, ev', q⟩ := R.slot j d ej hd
      refine ⟨v, ev', ?_⟩
      unfold SlotOk at *
      split at q
      · next h =>
        rw [if_pos h]
        refine q.carry (c _) fun a w e1 hl ew => ?_
        subst e1
        have : a ≠ p := fun y => by
          subst y
          exact R.tO j a ⟨h, ⟨d, ej, hl⟩, ev'⟩ sp.1
        rw [upd_ne this]
        exact ew
      · next h => rw [if_neg h]; exact Rp.carry (c _) d v q
  · obtain ⟨w, ew, mw⟩ := R.tM a (t0.le a ha) hn
    exact ⟨w, by rw [upd_ne (nT a ha)]; exact ew, mw⟩
  · obtain ⟨z, hd⟩ := mdK_dp hd
    exact absurd (R.st.one j i hd hp0) z
end
section
variable {X : Cx} {W : WX} {md : Mds} {fr st nw sa na sb nb : Bool} {e a b tg : Expr} {f fa fb fe : DX} {pos : Pos} {es : List Expr} {g : DS} {i : Nat} {x : Str}
/-! ### x = {} -/
theorem vs_newD {pos' lp : Pos} (hN : X.N.Nodup) (hi : X.N[i]? = some x) (hx : Loc X.env.scope x) (hf : X.fn x = true ∨ X.env.scope.names.lookup x = some .local) (hs : swapsWith (.Dict [] [] lp) (some (.Name x pos')) pos.line X.env = pure false) (hp : (mdAt md i).dp = 2) :
    VS X W md fr (.Assign [.Name x pos'] (.Dict [] [] lp) pos) (dSet i (dC (.dic true [] []))) := by
  refine ⟨(ps_set hN hi hx pe_dnewT hs hf).imp fun D σ H ⟨T0, T, H0, B, env, t0, R, p⟩ => fun q nq => ?_⟩
  have p : ∀ T σ' H', TIn T0 B T → Rel X.K md T H0 B H' σ' (env.set i (some (.dic true [] []))) → D.nx σ' H' := p
  have nB : B q = none := by
    cases e : B q with
    | none => rfl
    | some u => rw [R.sB _ _ e] at nq; cases nq
  have R1 := R.addT nq (same_new nq) (H := upd H q (.dT [])) ⟨.dT [], upd_same, rfl⟩
  refine p (fun a => T a ∨ a = q) _ _ ⟨fun a z => .inl (t0.le a z), fun a z => z.elim (t0.out a) fun y => by subst y; exact .inr nB, t0.old⟩ (R1.setDeep (by rw [hp]; decide) ?_)
  rw [hp]
  exact ⟨q, [], [], [], rfl, ⟨.inr rfl, nB⟩, upd_same, rfl, rfl, by simp, rfl, fun j b w h => by cases h⟩
/-! ### k not in x -/
def dNotInD (i : Nat) (fa : DX) : DX := fun env => (fa env).bind fun k => match env[i]? with
  | some (some (.dic true ks _)) => if keyFits true k then .ok (.bl (idxD ks k).isNone) else .bad
  | _ => .bad
theorem vt_notInD {p2 : Pos} (hu : X.A.units + 1 < cLine) (hN : X.N[i]? = some x) (hv : Vis X.env.scope x) (hd : (x == ("__debug__" : Str)) = false) (hcd : (x == ("__classdict__" : Str)) = false) (hp : (mdAt md i).dp = 2) (ha : VE X W md sa na a fa) (hm : behindInMarks .NotIn (.Name x p2) = false) :
    VT X W md (.Compare a [.NotIn] [.Name x p2] pos) (dNotInD i fa) := by
  refine ⟨(pt_cmpR (opr_notInDic hu) ha.run (pe_var hN hv hd hcd) hm).imp fun σ H Q ⟨T, H0, B, env, R, p⟩ => ⟨T, H0, B, env, R, p.bind.mono fun dk k H1 s1 _ p1 r1 => ?_⟩⟩
  have R1 := R.same s1
  cases ee : env[i]? with
  | none => rw [ee] at p1; exact p1.elim
  | some o =>
  cases o with
  | none => rw [ee] at p1; exact p1.elim
  | some d =>
  rw [ee] at p1
  obtain ⟨v, ev, ad, kvs, bs, ws, rfl, sp, hk, rfl, hv', nd, hl, hw⟩ := R1.deep2 hp ee
  have p1 : EP0 (β := V) X.K X.mg W σ H1 (if keyFits true dk then RG.ok (D.bl (idxD (kvs.map tupK) dk).isNone) else RG.bad) _ := p1
  by_cases hf : keyFits true dk = true
  case neg => rw [if_neg hf] at p1; exact p1.elim
  rw [if_pos hf] at p1
  cases dk with
  | tup xs =>
    have hks : (keysOf xs).isSome = true := hf
    obtain ⟨ks, eks⟩ := Option.isSome_iff_exists.mp hks
    obtain rfl := keysOf_eq eks
    obtain ⟨bk, vs, rfl, eb, rs⟩ := Rp.tup.mp r1.free
    obtain rfl := kVs_of rs
    obtain ⟨k, ek, q⟩ := p1 .non H1 (Same.refl _)
    cases ek
    refine ⟨_, ev, ad, valV kvs ks, rfl, DGet.t hk eb, _, rfl, ?_⟩
    cases e : idxD (kvs.map tupK) (.tup (ks.map keyD)) with
    | none => rw [idx_none e]; rw [e] at q; exact q
    | some j =>
      obtain ⟨v, _, h2⟩ := idx_some e
      rw [h2]
      rw [e] at q
      exact q
  | _ => cases hf
/-! ### x[k] = [] of a new key -/
def dPutN (i : Nat) (fk : DX) : DS := fun env => match env[i]? with
  | some (some (.dic true ks ws)) => (fk env).out env fun k => if keyFits true k && ((idxD ks k).isNone && decide (ks.length < sizeLine)) then .nx (env.set i (some (.dic true (ks ++ [k]) (ws ++ [.lst []])))) else .bad
  | _ => .bad
theorem lsts_inj : ∀ {a b : List (List D)}, a.map D.lst = b.map D.lst → a = b
  | [], [], _ => rfl
  | [], _ :: _, h => by cases h
  | _ :: _, [], h => by cases h
  | x :: a, y :: b, h => by
    rw [List.map_cons, List.map_cons] at h
    injection h with h1 h2
    injection h1 with h1
    rw [h1, lsts_inj h2]
theorem nodup_at {α : Type} {l : List α} (n : l.Nodup) {i j : Nat} {x : α} (h1 : l[i]? = some x) (h2 : l[j]? = some x) : i = j := by
  obtain ⟨p1, e1⟩ := List.getElem?_eq_some_iff.mp h1
  obtain ⟨p2, e2⟩ := List.getElem?_eq_some_iff.mp h2
  have pw := List.pairwise_iff_getElem.mp n
  rcases Nat.lt_trichotomy i j with h | h | h
  · exact absurd (e1.trans e2.symm) (pw i j p1 p2 h)
  · exact h
  · exact absurd (e2.trans e1.symm) (pw j i p2 p1 h)
theorem nodup_snoc {α : Type} {p b : α} {bs : List α} (nd : (p :: bs).Nodup) (n1 : b ≠ p) (n2 : b ∉ bs) : (p :: (bs ++ [b])).Nodup := by
  obtain ⟨h1, h2⟩ := List.nodup_cons.mp nd
  refine List.nodup_cons.mpr ⟨fun h => ?_, List.nodup_append.mpr ⟨h2, by simp, fun a ha c hc e => ?_⟩⟩
  · rcases List.mem_append.mp h with h | h
    · exact h1 h
    · exact n1 (List.mem_singleton.mp h).symm
  · subst e
    rw [List.mem_singleton.mp hc] at ha
    exact n2 ha
theorem vs_putN {p2 spos lp : Pos} (hu : X.A.units + 1 < cLine) (hN : X.N[i]? = some x) (hv : Vis X.env.scope x) (hd : (x == ("__debug__" : Str)) = false) (hcd : (x == ("__classdict__" : Str)) = false) (hp : (mdAt md i).dp = 2)
    (hb : VE X W md sb nb b fb) (hs : swapsWithSole [.Subscript (.Name x p2) b spos] (.List [] lp) pos.line X.env = pure false) (hws : swappedStores [.Subscript (.Name x p2) b spos] (.List [] lp) X.env = pure none)
    (h1 : (assignEach [.Subscript (.Name x p2) b spos] X.env).map (·.2) = [assign (.Subscript (.Name x p2) b spos) X.env])
    (has : ∀ v, assign (.Subscript (.Name x p2) b spos) X.env v = (do
      let ov ← holding [v] (eval (.Name x p2) X.env)
      let iv ← holding [v, ov] (eval b X.env)
      standAt spos
      holding [v, ov, iv] (setItem ov iv v)
      release [v, ov, iv] [])) : VS X W md fr (.Assign [.Subscript (.Name x p2) b spos] (.List [] lp) pos) (dPutN i fb) := by
  have he : VF X W md true (.List [] lp) (dLst dNil) := vf_lst va_nil
  refine ⟨(ps_asg he.run (pg_sub (pe_var hN hv hd hcd) hb.run (set_any hu) has) hs hws h1).imp fun D σ H ⟨T0, T, H0, B, env, t0, R, q⟩ => ⟨T, H0, B, env, R, ?_⟩⟩
  show EP0 (β := V) X.K X.mg W σ H (if ([] : List Dl.D).length ≤ sizeLine then RG.ok (Dl.D.lst []) else RG.bad) _
  rw [if_pos (by simp)]
  rintro v H1 s1 ⟨c, rfl, nc, vs0, ec, r0⟩
  obtain rfl := r0.nil_eq
  unfold dPutN at q
  cases ee : env[i]? with
  | none => rw [ee] at q; exact q.elim
  | some o =>
  cases o with
  | none => rw [ee] at q; exact q.elim
  | some d =>
  rw [ee] at q
  have nB : B c = none := by
    cases e : B c with
    | none => rfl
    | some u => rw [R.sB _ _ e] at nc; cases nc
  have R1 : Rel X.K md (fun a => T a ∨ a = c) H0 B H1 σ env := R.addT nc s1 ⟨_, ec, rfl⟩
  have t1 : TIn T0 B (fun a => T a ∨ a = c) := ⟨fun a z => .inl (t0.le a z), fun a z => z.elim (t0.out a) fun y => by subst y; exact .inr nB, t0.old⟩
  obtain ⟨v, ev, ad0, kvs0, bs0, ws0, rfl, sp0, hk0, ed, _⟩ := R.deep2 hp ee
  have nad : c ≠ ad0 := fun y => by subst y; rw [nc] at hk0; cases hk0
  subst ed
  have q : SP0 X.K X.mg W md fr T0 H0 B ((fb env).out env fun k => if keyFits true k && ((idxD (kvs0.map tupK) k).isNone && decide ((kvs0.map tupK).length < sizeLine)) then .nx (env.set i (some (.dic true (kvs0.map tupK ++ [k]) (ws0.map Dl.D.lst ++ [.lst []])))) else .bad) D := q
  refine ⟨_, ev, _, H0, B, env, R1, (out_of t1 R1 q).mono fun dk k H2 s2 _ q2 rk => ?_⟩
  have R2 := R1.same s2
  by_cases hc : (keyFits true dk && ((idxD (kvs0.map tupK) dk).isNone && decide ((kvs0.map tupK).length < sizeLine))) = true
  case neg => rw [if_neg hc] at q2; exact q2.elim
  rw [if_pos hc] at q2
  rw [Bool.and_eq_true, Bool.and_eq_true, decide_eq_true_eq, List.length_map] at hc
  obtain ⟨hf, hn, hz⟩ := hc
  have q2 : ∀ T σ' H', TIn T0 B T → Rel X.K md T H0 B H' σ' (env.set i (some (.dic true (kvs0.map tupK ++ [dk]) (ws0.map Dl.D.lst ++ [.lst []])))) → D.nx σ' H' := q2
  cases dk with
  | tup xs =>
    have hks : (keysOf xs).isSome = true := hf
    obtain ⟨ks, eks⟩ := Option.isSome_iff_exists.mp hks
    obtain rfl := keysOf_eq eks
    obtain ⟨bk, vs, rfl, eb, rs⟩ := Rp.tup.mp rk.free
    obtain rfl := kVs_of rs
    have hk2 : H2 ad0 = some (.dT kvs0) := s2 _ _ (s1 _ _ hk0)
    have new : valV kvs0 ks = none := idx_none (Option.isNone_iff_eq_none.mp hn)
    have pk : putK kvs0 ks (V.ref c) = kvs0 ++ [(ks, V.ref c)] := putK_new _ new
    refine .inr ⟨ad0, upd H2 ad0 (.dT (putK kvs0 ks (.ref c))), rfl, DPut.t hk2 eb hz, q2 _ σ _ t1 (R2.updDeep (by rw [hp]; decide) ee (.inl sp0.1) sp0.2 hk2 rfl rfl fun v ev' => ?_)⟩
    rw [ev] at ev'
    cases ev'
    rw [hp]
    obtain ⟨v', ev2, ad, kvs, bs, ws, e1, sp, hk, ed, hv', nd, hl, hw⟩ := R.deep2 hp ee
    rw [ev] at ev2
    cases ev2
    cases e1
    rw [hk0] at hk
    cases hk
    injection ed with _ _ ew
    have ew : ws0 = ws := lsts_inj ew
    subst ew
    have ncb : c ∉ bs := fun hm => by
      obtain ⟨j, hj⟩ := List.getElem?_of_mem hm
      have hj2 : j < ws0.length := by rw [← hl]; exact (List.getElem?_eq_some_iff.mp hj).1
      obtain ⟨_, _, us, eu, _⟩ := hw j c _ hj (List.getElem?_eq_getElem hj2)
      rw [nc] at eu
      cases eu
    have ec2 : H2 c = some (.lst []) := s2 _ _ ec
    refine ⟨ad0, kvs0 ++ [(ks, .ref c)], bs ++ [c], ws0 ++ [[]], rfl, ⟨.inl sp0.1, sp0.2⟩, by rw [pk]; exact upd_same, by simp [tupK], by simp [hv'], nodup_snoc nd nad ncb, by simp [hl], fun j b w hjb hjw => ?_⟩
    by_cases hj : j < bs.length
    · rw [List.getElem?_append_left hj] at hjb
      rw [List.getElem?_append_left (by omega)] at hjw
      obtain ⟨sb, im, us, eu, r⟩ := hw j b w hjb hjw
      have nba : b ≠ ad0 := fun y => by
        subst y
        exact (List.nodup_cons.mp nd).1 (List.mem_of_getElem? hjb)
      refine ⟨⟨.inl sb.1, sb.2⟩, im, us, by rw [upd_ne nba]; exact s2 _ _ (s1 _ _ eu), ?_⟩
      exact Rps.imm _ _ (Rps.carry (carry_upd (A := fun a => a = ad0) hk2 rfl rfl) _ _ (Rps.imm _ _ ((r.same s1).same s2) im)) im
    · rw [List.getElem?_append_right (by omega)] at hjb
      have e0 : j - bs.length = 0 := by
        have := (List.getElem?_eq_some_iff.mp hjb).1
        simp at this
        omega
      rw [e0] at hjb
      rw [List.getElem?_append_right (by omega), ← hl, e0] at hjw
      cases hjb
      cases hjw
      exact ⟨⟨.inr rfl, nB⟩, rfl, [], by rw [upd_ne nad]; exact ec2, .nil⟩
  | _ => cases hf
/-! ### x[k].append(e) -/
def dAppD (i : Nat) (fk fe : DX) : DS := fun env => match env[i]? with
  | some (some (.dic true ks ws)) => (fk env).out env fun k => if keyFits true k then (match idxD ks k with
    | some j => (match ws[j]? with
      | some (.lst w) => (fe env).out env fun d => if imm d && decide (w.length < sizeLine) then .nx (env.set i (some (.dic true ks (ws.set j (.lst (w ++ [d])))))) else .bad
      | _ => .bad)
    | none => .bad) else .bad
  | _ => .bad
theorem vs_appD {p2 spos apos cpos : Pos} (hu : X.A.units + 1 < cLine) (hN : X.N[i]? = some x) (hv : Vis X.env.scope x) (hd : (x == ("__debug__" : Str)) = false) (hcd : (x == ("__classdict__" : Str)) = false) (hp : (mdAt md i).dp = 2)
    (hb : VE X W md sb nb b fb) (hix : PlainIx b) (he : VE X W md st nw e fe) (hs : starless e = true) (hbase : attributeBase (.Subscript (.Name x p2) b spos) "append" X.env (eval (.Subscript (.Name x p2) b spos) X.env) = eval (.Subscript (.Name x p2) b spos) X.env) (hline : (apos.endLine == cpos.line) = true) :
    VS X W md fr (.Expr (.Call (.Attribute (.Subscript (.Name x p2) b spos) "append" apos) [e] [] cpos) pos) (dAppD i fb fe) := by
  refine ⟨(ps_expr (pe_bm PySem.F.plainAttrs_list PySem.F.slot_list_append PySem.F.type_list_append mt_append (pe_ix (ix_any hu) (pe_var hN hv hd hcd) hb.run hix) (pa_cons he.run pa_nil (notStar hs)) hbase (by rw [notStar hs]; rfl) hline (notStar hs) (backTo_any rfl)) rfl).imp fun D σ H ⟨T0, T, H0, B, env, t0, R, q⟩ => ?_⟩
  unfold dAppD at q
  cases ee : env[i]? with
  | none => rw [ee] at q; exact q.elim
  | some o =>
  cases o with
  | none => rw [ee] at q; exact q.elim
  | some d =>
  rw [ee] at q
  obtain ⟨v, ev, ad, kvs, bs, ws, rfl, sp, hk, rfl, hv', nd, hl, hw⟩ := R.deep2 hp ee
  have q : SP0 X.K X.mg W md fr T0 H0 B ((fb env).out env fun k => if keyFits true k then (match idxD (kvs.map tupK) k with
    | some j => (match (ws.map Dl.D.lst)[j]? with
      | some (.lst w) => (fe env).out env fun d => if imm d && decide (w.length < sizeLine) then .nx (env.set i (some (.dic true (kvs.map tupK) ((ws.map Dl.D.lst).set j (.lst (w ++ [d])))))) else .bad
      | _ => .bad)
    | none => .bad) else .bad) D := q
  refine ⟨_, ev, T, H0, B, env, R, (out_of t0 R q).mono fun dk k H1 s1 _ q1 r1 => ?_⟩
  have R1 := R.same s1
  by_cases hf : keyFits true dk = true
  case neg => rw [if_neg hf] at q1; exact q1.elim
  rw [if_pos hf] at q1
  cases dk with
  | tup xs =>
    have hks : (keysOf xs).isSome = true := hf
    obtain ⟨ks, eks⟩ := Option.isSome_iff_exists.mp hks
    obtain rfl := keysOf_eq eks
    obtain ⟨bk, vs, rfl, eb, rs⟩ := Rp.tup.mp r1.free
    obtain rfl := kVs_of rs
    cases ej : idxD (kvs.map tupK) (.tup (ks.map keyD)) with
    | none => rw [ej] at q1; exact q1.elim
    | some j =>
    rw [ej] at q1
    obtain ⟨v, hkj, hvv⟩ := idx_some ej
    have hbj : bs[j]? = (kvs.map (·.2))[j]?.bind (fun v => match v with | .ref b => some b | _ => none) := by
      rw [hv', List.getElem?_map]
      cases bs[j]? <;> rfl
    rw [List.getElem?_map, hkj] at hbj
    have hj : j < bs.length := by
      have h1 : j < kvs.length := (List.getElem?_eq_some_iff.mp hkj).1
      have h2 := congrArg List.length hv'
      simp at h2
      omega
    obtain ⟨bj, ebj⟩ : ∃ bj, bs[j]? = some bj := ⟨bs[j], List.getElem?_eq_getElem hj⟩
    have evj : v = .ref bj := by
      have h3 : (kvs.map (·.2))[j]? = (bs.map V.ref)[j]? := by rw [hv']
      rw [List.getElem?_map, List.getElem?_map, hkj, ebj] at h3
      exact Option.some.inj h3
    subst evj
    obtain ⟨w, ewj⟩ : ∃ w, ws[j]? = some w := ⟨ws[j]'(by omega), List.getElem?_eq_getElem (by omega)⟩
    have q1 : SP0 X.K X.mg W md fr T0 H0 B (match (ws.map Dl.D.lst)[j]? with
      | some (.lst w) => (fe env).out env fun d => if imm d && decide (w.length < sizeLine) then .nx (env.set i (some (.dic true (kvs.map tupK) ((ws.map Dl.D.lst).set j (.lst (w ++ [d])))))) else .bad
      | _ => .bad) D := q1
    rw [List.getElem?_map, ewj] at q1
    have q1 : SP0 X.K X.mg W md fr T0 H0 B ((fe env).out env fun d => if imm d && decide (w.length < sizeLine) then .nx (env.set i (some (.dic true (kvs.map tupK) ((ws.map Dl.D.lst).set j (.lst (w ++ [d])))))) else .bad) D := q1
    obtain ⟨sb, im, us, eu, rus⟩ := hw j bj w ebj ewj
    have eu1 : H1 bj = some (.lst us) := s1 _ _ eu
    refine .inr ⟨ad, .ref bj, rfl, by rw [← hvv]; exact DGet.t (s1 _ _ hk) eb, .inl ⟨rfl, us, SqL.of eu1⟩, T, H0, B, env, R1, (out_of t0 R1 q1).mono fun dv vv H2 s2 _ q2 r2 => ?_⟩
    have R2 := R1.same s2
    by_cases hz : (imm dv && decide (w.length < sizeLine)) = true
    case neg => rw [if_neg hz] at q2; exact q2.elim
    rw [if_pos hz] at q2
    rw [Bool.and_eq_true, decide_eq_true_eq] at hz
    have q2 : ∀ T σ' H', TIn T0 B T → Rel X.K md T H0 B H' σ' (env.set i (some (.dic true (kvs.map tupK) ((ws.map Dl.D.lst).set j (.lst (w ++ [dv])))))) → D.nx σ' H' := q2
    have eu2 : H2 bj = some (.lst us) := s2 _ _ eu1
    have nba : bj ≠ ad := fun y => by
      subst y
      exact (List.nodup_cons.mp nd).1 (List.mem_of_getElem? ebj)
    refine ⟨bj, us, vv, rfl, rfl, eu2, by rw [rus.length]; exact hz.2, q2 T σ _ t0 (R2.updDeep (by rw [hp]; decide) ee sb.1 sb.2 eu2 rfl rfl fun v ev' => ?_)⟩
    rw [ev] at ev'
    cases ev'
    rw [hp]
    have up : ∀ {ds : List Dl.D} {us : List V}, Rps X.K H2 (fun _ => False) us ds → imms ds = true → Rps X.K (upd H2 bj (.lst (us ++ [vv]))) (fun _ => False) us ds := fun {ds us'} r im => Rps.imm _ _ (Rps.carry (carry_upd (A := fun a => a = bj) eu2 rfl rfl) _ _ (Rps.imm _ _ r im)) im
    have up' : ∀ {o : HO} {ds : List Dl.D} {us : List V}, Rps X.K H2 (fun _ => False) us ds → imms ds = true → Rps X.K (upd H2 bj o) (fun _ => False) us ds := fun {o ds us'} r im => Rps.imm _ _ (Rps.carry (carry_upd (A := fun a => a = bj) eu2 rfl rfl) _ _ (Rps.imm _ _ r im)) im
    refine ⟨ad, kvs, bs, ws.set j (w ++ [dv]), rfl, sp, by rw [upd_ne (Ne.symm nba)]; exact s2 _ _ (s1 _ _ hk), by rw [List.map_set], hv', nd, by simp [hl], fun j' b' w' hb' hw' => ?_⟩
    by_cases hjj : j' = j
    · subst hjj
      rw [ebj] at hb'
      cases hb'
      rw [List.getElem?_set_self (by omega)] at hw'
      cases hw'
      have imw : imms (w ++ [dv]) = true := by
        have : ∀ l : List Dl.D, imms l = true → imms (l ++ [dv]) = true := by
          intro l
          induction l with
          | nil => intro _; show (imm dv && true) = true; rw [hz.1]; rfl
          | cons a l ih =>
            intro h
            have h : (imm a && imms l) = true := h
            rw [Bool.and_eq_true] at h
            show (imm a && imms (l ++ [dv])) = true
            rw [h.1, ih h.2]
            rfl
        exact this w im
      exact ⟨sb, imw, us ++ [vv], upd_same, up' (((rus.same s1).same s2).append (.one r2.free)) imw⟩
    · rw [List.getElem?_set_ne (Ne.symm hjj)] at hw'
      obtain ⟨sb', im', us', eu', r'⟩ := hw j' b' w' hb' hw'
      have ne : b' ≠ bj := fun y => by
        subst y
        exact hjj (nodup_at (List.nodup_cons.mp nd).2 hb' ebj)
      exact ⟨sb', im', us', by rw [upd_ne ne]; exact s2 _ _ (s1 _ _ eu'), up' ((r'.same s1).same s2) im'⟩
  | _ => cases hf
end
/-! ### for .. in x: read only, gone behind the loop -/
section
variable {X : Cx} {W : WX} {md : Mds} {fr na : Bool} {tg : Expr} {pos : Pos} {g : DS}
theorem vs_forD {i0 : Nat} {x0 : Str} {p0 : Pos} {body : List Stmt} {gd : D → DEnv → Option DEnv} {sl ks : List Nat} (hp : PassesOwn (model X.prog X.w) X.A X.env X.xe) (hc : X.calm = true) (hN : X.N[i0]? = some x0) (hv : Vis X.env.scope x0) (hd : (x0 == ("__debug__" : Str)) = false) (hcd : (x0 == ("__classdict__" : Str)) = false) (ho : (mdAt md i0).dp = 2)
    (hg : VG X (mdK md i0) na tg gd sl) (hb : VSs X W (mdK md i0) fr body g) (hs : ∀ x, foldedSetIterable (.Name x0 p0) X.env x = pure x) : VS X W md fr (.For tg (.Name x0 p0) body [] pos) (dForK i0 gd g ks) := by
  refine ⟨(ps_lock (ps_for hp hc (pi_keys (tg := tg) (pe_var (pos := p0) hN hv hd hcd)) hg.run hb.run hs)).imp fun D σ H ⟨T0, T, H0, B, env, t0, R, p⟩ => ?_⟩
  unfold dForK at p
  cases hl : env[i0]? with
  | none => rw [hl] at p; exact p.elim
  | some o =>
  cases o with
  | none => rw [hl] at p; exact p.elim
  | some d0 =>
  rw [hl] at p
  obtain ⟨v, ev0, a0, kvs, bs, ws, rfl, sp, hk, rfl, hv', nd, hlw, hw⟩ := R.deep2 ho hl
  have p : SP0 X.K X.mg W md fr T0 H0 B (endK i0 (forGo gd g ks (kvs.map tupK) env)) D := p
  refine ⟨a0, .dT kvs, hk, isDicO_Mut rfl, fun od => ?_⟩
  have R1 : Rel X.K (mdK md i0) T0 H0 B (upd H a0 (.frz od (.dT kvs))) σ env := R.freezeD t0 ho hl ev0 sp hk hv' nd hlw hw
  have t1 : TIn T0 B T0 := TIn.refl t0.old
  have nT : ¬ T0 a0 := fun z => by
    obtain ⟨u, e⟩ := t0.old a0 z
    rw [sp.2] at e
    cases e
  have nW : ¬ WrP (mdK md i0) σ env T0 B a0 := fun z => by
    rcases z with ⟨j, o⟩ | ⟨z, _⟩
    · exact R.tO j a0 (ownAt_K o).2 sp.1
    · exact nT z
  obtain ⟨Rb, sBB⟩ := R1.rebase
  have s0B := R1.s0
  have fz : baseOf (WrP (mdK md i0) σ env T0 B) (upd H a0 (.frz od (.dT kvs))) a0 = some (.frz od (.dT kvs)) := by rw [baseOf_some nW]; exact upd_same
  have nB := sp.2
  have back : ∀ {T' : Pred} {σ' : L2.St} {H' : Hp} {env' : DEnv}, Rel X.K (mdK md i0) T' H0 (baseOf (WrP (mdK md i0) σ env T0 B) (upd H a0 (.frz od (.dT kvs)))) H' σ' env' → H' a0 = some (.frz od (.dT kvs)) ∧ Rel X.K md T' H0 B (upd H' a0 (.dT kvs)) σ' (env'.set i0 none) := fun {T' σ' H' env'} R' =>
    ⟨R'.sB _ _ fz, ((R'.unbase s0B sBB).thaw (R'.sB _ _ fz) rfl nB).unK R.st⟩
  have p1 : ∀ o : Out, SP0 X.K X.mg W md fr T0 H0 B (endK i0 o) D → SP0 X.K X.mg W (mdK md i0) fr T0 H0 (baseOf (WrP (mdK md i0) σ env T0 B) (upd H a0 (.frz od (.dT kvs)))) o ⟨fun σ' H' => H' a0 = some (.frz od (.dT kvs)) ∧ D.nx σ' (upd H' a0 (.dT kvs)), fun v H' => H' a0 = some (.frz od (.dT kvs)) ∧ D.rt v (upd H' a0 (.dT kvs)), fun σ' H' => H' a0 = some (.frz od (.dT kvs)) ∧ D.bk σ' (upd H' a0 (.dT kvs)), fun σ' H' => H' a0 = some (.frz od (.dT kvs)) ∧ D.ct σ' (upd H' a0 (.dT kvs))⟩ := fun o q => by
    cases o with
    | nx e => exact fun T' σ' H' t' R' => let ⟨f, R2⟩ := back R'; ⟨f, q T' σ' _ (t'.unbase t0.old sBB) R2⟩
    | rt d =>
      intro v H' s' z
      have f := s' _ _ fz
      refine ⟨f, q v _ (fun a o eo => ?_) (z.thaw f rfl)⟩
      have : a ≠ a0 := fun y => by subst y; rw [nB] at eo; cases eo
      rw [upd_ne this]
      exact s' a o (sBB a o eo)
    | _ => exact q.elim
  have p2 := p1 _ p
  have fin := fun J it => for_core (na := na) (sl := sl) (J := J) (t1.rebase R1) Rb p2 it
  have wr : ∀ a, WrP (mdK md i0) σ env T0 (baseOf (WrP (mdK md i0) σ env T0 B) (upd H a0 (.frz od (.dT kvs)))) a → a ≠ a0 := fun a z y => by
    subst y
    rcases z with z | ⟨z, _⟩
    · exact nW (.inl z)
    · exact nT z
  refine ⟨_, ev0, a0, od, rfl, .inr ⟨kvs, upd_same, fin _ (itd_keysT upd_same fun z => wr _ z.2 rfl)⟩⟩
end
end Dl

/-! Dl11: the reader. -/
namespace Dl
open PySem PySem.Spec PyProof.Rows L2 RZ RT

/-! ### within a comprehension -/
def relC (scope sc : Scope) : Scope := { scope with names := scope.names.map fun (n, k) => if (k == .free && sc.kind == .function && sc.names.lookup n == some .cell) then (n, .cell) else (n, k) }
def Cfg.blk (C : Cfg) (scope : Scope) : Cfg := { C with sc := relC scope C.sc, fn := fun x => scope.names.lookup x == some .cell, tr := false }
theorem COk.blk {C : Cfg} {X : Cx} {W : WX} (h : COk C X W) {scope : Scope} (hk : scope.kind = .function) (s : Shared) (H : Hp) (D : Addr) (cl : List (Str × Addr)) (fp : List Addr) : COk (C.blk scope) (X.blk s H scope (compEnvC scope cl D X.env) fp) W0 where
  n := h.n
  nd := h.nd
  sc := by
    show relabel scope X.env = relC scope C.sc
    unfold relabel relC Env.kindOf
    rw [h.sc]
  calm := h.calm
  room := h.room
  blt := h.blt
  fns := fun F hF => ⟨(h.fns F hF).ex⟩
  cons := fun p hp => ⟨(h.cons p hp).ex⟩
  tk := takes0
  po := PassesOwn.never
  fn := fun x hx => hx
  kd := hk
  exs := h.exs
  tr := fun z => nomatch z

section
variable (r : Rec) (C : Cfg)
/-! ### values -/
def RE.imm {C : Cfg} {e : Expr} (x : RE C e) (n : Bool) : RE C e := if n && !x.nw then ⟨true, true, dImm x.f, fun X W h => (x.ok X W h).imm⟩ else x
def cIfE (c a b : Expr) (pos : Pos) : Option (RE C (.IfExp c a b pos)) := match r.t C c, r.e C a, r.e C b with
  | some x, some y, some z => some ⟨y.st && z.st, y.nw && z.nw, dIf x.f y.f z.f, fun X W h => ve_if (x.ok X W h) ((y.ok X W h).to and_l and_l) ((z.ok X W h).to and_r and_r)⟩
  | _, _, _ => none
def cTup (es : List Expr) (k : Nat) (pos : Pos) : Option (RE C (.Tuple es k pos)) := match cArgs r C es with
  | some a => if hs : a.st = true then some ⟨true, a.nw, dTup a.f, fun X W h => ve_tup ((a.ok X W h).to (by rw [hs]; rfl) (by cases a.nw <;> rfl))⟩ else none
  | none => none
def cCallE (x : Str) (p : Pos) (es : List Expr) (pos : Pos) : Option (RE C (.Call (.Name x p) es [] pos)) := match es with
  | [e, .Name y p2] => if hx : x = ("isinstance" : Str) then (match cInst r C p e y p2 pos with
      | some i => some ⟨i.st, i.nw, i.f, fun X W h => by rw [hx]; exact i.ok X W h⟩
      | none => none) else cCall r C x p [e, .Name y p2] pos
  | [e] => (match r.e C e with
    | none => none
    | some v => if hb : bltOk C x = true ∧ starless e = true then
      (if h1 : x = ("max" : Str) then some ⟨true, true, dCallO gMaxA (dCons v.f dNil), fun X W h => by subst h1; exact ve_bltS ((cr_max h.calm).or (cr_maxD h.calm (by have := h.room.un; omega))) cd_maxA sc_maxA (h.bltAt hb.1 (by decide +kernel)) (va_cons (v.ok X W h) va_nil (notStar hb.2)) (by rw [List.all_cons, hb.2]; rfl)⟩
      else if h1 : x = ("min" : Str) then some ⟨true, true, dCallO gMinA (dCons v.f dNil), fun X W h => by subst h1; exact ve_bltS ((cr_min h.calm).or (cr_minD h.calm (by have := h.room.un; omega))) cd_minA sc_minA (h.bltAt hb.1 (by decide +kernel)) (va_cons (v.ok X W h) va_nil (notStar hb.2)) (by rw [List.all_cons, hb.2]; rfl)⟩
      else if h1 : x = ("int" : Str) then some ⟨true, true, dCallO gInt (dCons v.f dNil), fun X W h => by subst h1; exact ve_btyS call_int1 cd_int sc_int (h.bltAt hb.1 (by decide +kernel)) (va_cons (v.ok X W h) va_nil (notStar hb.2)) (by rw [List.all_cons, hb.2]; rfl)⟩
      else cCall r C x p [e] pos) else cCall r C x p [e] pos)
  | es => cCall r C x p es pos
/-- d.get(k, e) -/
def cGet (x : Str) (p : Pos) (at_ : Str) (apos : Pos) (a b : Expr) (cpos : Pos) : Option (RE C (.Call (.Attribute (.Name x p) at_ apos) [a, b] [] cpos)) := match r.e C (.Name x p), r.e C a, r.e C b with
  | some o, some k, some d => if hc : at_ = ("get" : Str) ∧ d.st = true ∧ starless a = true ∧ starless b = true ∧ (apos.endLine == cpos.line) = true then
      some ⟨true, o.nw && d.nw, dGet o.f k.f d.f, fun X W h => by
        rw [hc.1]
        exact ve_get (by have := h.room.un; omega) (o.ok X W h) (k.ok X W h) ((d.ok X W h).to (by rw [hc.2.1]; rfl) (by cases d.nw <;> rfl)) hc.2.2.1 hc.2.2.2.1 rfl hc.2.2.2.2⟩ else none
  | _, _, _ => none
/-- a value -/
def stepE (e : Expr) : Option (RE C e) := match e with
  | .Name x pos => cName C x pos
  | .Constant c j pos => cConst C c j pos
  | .BinOp a op b pos => cBin r C a op b pos
  | .UnaryOp op a pos => cUn r C op a pos
  | .Compare a [op] [b] pos => cCmp r C a op b pos
  | .BoolOp .And es pos => cAnd r C pos es
  | .BoolOp .Or es pos => cOr r C pos es
  | .IfExp c a b pos => cIfE r C c a b pos
  | .Subscript a b pos => (match cSub r C a b pos with
    | some v => some v
    | none => (r.f C false (.Subscript a b pos)).map RF.re)
  | .Tuple es k pos => cTup r C es k pos
  | .Call (.Name x p) es [] pos => (match cCallE r C x p es pos with
    | some v => some v
    | none => (r.f C false (.Call (.Name x p) es [] pos)).map RF.re)
  | .Call (.Attribute (.Name x p) at_ apos) [a, b] [] cpos => cGet r C x p at_ apos a b cpos
  | e => (r.f C false e).map RF.re

/-! ### new lists and dicts -/
def isLstE : Expr → Bool
  | .List _ _ => true
  | _ => false
def cArgsN (n : Bool) : (es : List Expr) → Option (RA C es)
  | [] => some ⟨true, true, dNil, dNil_len, fun X W h => va_nil⟩
  | e :: es => match (if n && isLstE e then (r.f C true e).map RF.re else r.e C e), cArgsN n es with
    | some a, some b => if hs : starless e = true then
      (let a := a.imm n
      some ⟨a.st && b.st, a.nw && b.nw, dCons a.f b.f, dCons_len b.len, fun X W h => va_cons ((a.ok X W h).to and_l and_l) ((b.ok X W h).to and_r and_r) (notStar hs)⟩) else none
    | _, _ => none
def cLst (n : Bool) (es : List Expr) (pos : Pos) : Option (RF C (.List es pos)) := match cArgsN r C n es with
  | some a => if hs : a.st = true then some ⟨a.nw, dLst a.f, fun X W h => vf_lst ((a.ok X W h).to (by rw [hs]; rfl) (by cases a.nw <;> rfl))⟩ else none
  | none => none
def cCallF (x : Str) (p : Pos) (es : List Expr) (pos : Pos) : Option (RF C (.Call (.Name x p) es [] pos)) := match es with
  | [] => none
  | e :: es => match cArgs r C (e :: es) with
    | none => none
    | some a => if hs : (e :: es).all starless = true then
      (match findF C x with
      | some ⟨F, hm, hn⟩ => if hg : isGl (lk C x) = true ∧ okNm x = true ∧ F.ar = (e :: es).length ∧ F.fresh = true then
          some ⟨true, dCallF F.den a.f, fun X W h => by subst hn; exact vf_call hg.2.2.2 (h.fns F hm) h.room (h.gl hg.1) h.tk (a.ok X W h) (fun env ds q => by rw [hg.2.2.1]; exact a.len env ds q) (okNm1 hg.2.1) hs⟩
        else none
      | none => if hb : bltOk C x = true then
          (if h1 : x = ("list" : Str) then some ⟨a.nw, dListOf a.f, fun X W h => by subst h1; exact vf_list h.calm (h.bltAt hb (by decide +kernel)) (a.ok X W h) hs⟩
          else if h1 : x = ("sorted" : Str) then some ⟨a.nw, dSorted a.f, fun X W h => by subst h1; exact vf_sorted (by have := h.room.un; omega) (h.bltAt hb (by decide +kernel)) (a.ok X W h) hs⟩
          else if h1 : x = ("dict" : Str) then some ⟨a.nw, dDictOf a.f, fun X W h => by subst h1; exact vf_dictOf h.calm (by have := h.room.un; omega) (h.bltAt hb (by decide +kernel)) (a.ok X W h) hs⟩
          else none) else none)
      else none

/-! ### targets -/
def cTgName (nw : Bool) (x : Str) (pos : Pos) : Option (RGt C nw (.Name x pos)) := match hs : slot C x with
  | some i => if hv : isLoc (lk C x) = true ∧ (C.fn x || isLocal (lk C x)) = true ∧ (mdAt C.md i).own = false ∧ (mdAt C.md i).dp = 0 ∧ ((mdAt C.md i).nw && !nw) = false then
      some ⟨[i], gdName i, fun X W h => vg_name h.nodup (h.slot hs) (h.loc hv.1) (h.stores hv.2.1) hv.2.2.1 hv.2.2.2.1 hv.2.2.2.2⟩ else none
  | none => none
theorem assign_cons {e : Expr} {es : List Expr} {env : Env} (h : starless e = true) : assignEach (e :: es) env = (false, assign e env) :: assignEach es env := by
  cases e <;> first | rfl | cases h
theorem assign_len {es : List Expr} {env : Env} (h : es.all starless = true) : (assignEach es env).length = es.length ∧ (assignEach es env).findIdx? (·.1) = none := by
  induction es with
  | nil => exact ⟨rfl, rfl⟩
  | cons e es ih =>
    rw [List.all_cons, Bool.and_eq_true] at h
    obtain ⟨i1, i2⟩ := ih h.2
    rw [assign_cons h.1]
    refine ⟨by simp [i1], ?_⟩
    rw [List.findIdx?_cons]
    simp [i2]
def cTgs (nw : Bool) : (es : List Expr) → Option (RGs C nw es)
  | [] => some ⟨[], gdNil, fun X W h => vgs_nil⟩
  | .Name x p :: es => match cTgName C nw x p, cTgs nw es with
    | some a, some b => some ⟨a.sl ++ b.sl, gdCons a.gd b.gd, fun X W h => vgs_cons (a.ok X W h) (b.ok X W h) (by rw [assign_cons rfl]; rfl)⟩
    | _, _ => none
  | _ => none
def cTg (nw : Bool) (e : Expr) : Option (RGt C nw e) := match e with
  | .Name x pos => cTgName C nw x pos
  | .Tuple es k pos => (match cTgs C nw es with
    | some a => if hs : es.all starless = true then some ⟨a.sl, gdTup es.length a.gd, fun X W h => vg_tup h.calm (a.ok X W h) (assign_len hs).1 (assign_len hs).2⟩ else none
    | none => none)
  | _ => none

/-! ### what is walked -/
structure RI2 (C : Cfg) (bo : Bool) (tg e : Expr) where
  nw : Bool
  f : DXs
  ok : ∀ X W, COk C X W → VI X W C.md bo nw tg e f
theorem COk.glm {C : Cfg} {X : Cx} {W : WX} (h : COk C X W) {x : Str} (hb : bltOk C x = true) : Gl X x ∧ X.mg x = none := by
  unfold bltOk at hb
  simp only [Bool.and_eq_true] at hb
  exact ⟨h.gl hb.1, h.blt x (by simpa using hb.2.1)⟩
def cItV (bo : Bool) (tg e : Expr) : Option (RI2 C bo tg e) := match r.e C e with
  | some x => if hb : (!bo && !x.st) = false then some ⟨x.nw, dItems x.f, fun X W h => vi_seq (x.ok X W h) hb⟩ else none
  | none => none
def cIt1 (bo : Bool) (tg : Expr) (x : Str) (p : Pos) (a : Expr) (pos : Pos) : Option (RI2 C bo tg (.Call (.Name x p) [a] [] pos)) :=
  if hx : x = ("range" : Str) then (match r.e C a with
    | some v => if hb : bltOk C ("range" : Str) = true ∧ starless a = true then some ⟨true, dRange1 v.f, fun X W h => by subst hx; exact vi_range1 (h.glm hb.1).1 (h.glm hb.1).2 (v.ok X W h) hb.2⟩ else none
    | none => none)
  else if hx : x = ("enumerate" : Str) then (match tg with
    | .Tuple elts kk tpos => (match r.e C a with
      | some v => if hb : bltOk C ("enumerate" : Str) = true ∧ starless a = true ∧ (!bo && !v.st) = false then some ⟨v.nw, dEnum v.f, fun X W h => by subst hx; exact vi_enum (h.glm hb.1).1 (h.glm hb.1).2 (v.ok X W h) hb.2.2 hb.2.1⟩ else none
      | none => none)
    | _ => none)
  else if hx : x = ("reversed" : Str) then (match a with
    | .Call (.Name y p2) [b] [] pos2 => if hy : y = ("range" : Str) then (match r.e C b with
        | some v => if hb : bltOk C ("reversed" : Str) = true ∧ bltOk C ("range" : Str) = true ∧ starless b = true then some ⟨true, dRevR v.f, fun X W h => by subst hx; subst hy; exact vi_revR (h.glm hb.1).1 (h.glm hb.1).2 (h.glm hb.2.1).1 (h.glm hb.2.1).2 (v.ok X W h) hb.2.2⟩ else none
        | none => none)
      else (match r.e C (.Call (.Name y p2) [b] [] pos2) with
        | some v => if hb : bltOk C ("reversed" : Str) = true ∧ (!bo && !v.st) = false then some ⟨v.nw, dRev v.f, fun X W h => by subst hx; exact vi_rev (h.glm hb.1).1 (h.glm hb.1).2 (v.ok X W h) hb.2 rfl⟩ else none
        | none => none)
    | a => (match r.e C a with
      | some v => if hb : bltOk C ("reversed" : Str) = true ∧ starless a = true ∧ (!bo && !v.st) = false then some ⟨v.nw, dRev v.f, fun X W h => by subst hx; exact vi_rev (h.glm hb.1).1 (h.glm hb.1).2 (v.ok X W h) hb.2.2 hb.2.1⟩ else none
      | none => none))
  else cItV r C bo tg (.Call (.Name x p) [a] [] pos)
def cIt2 (bo : Bool) (tg : Expr) (x : Str) (p : Pos) (a b : Expr) (pos : Pos) : Option (RI2 C bo tg (.Call (.Name x p) [a, b] [] pos)) :=
  if hx : x = ("range" : Str) then (match r.e C a, r.e C b with
    | some v, some w => if hb : bltOk C ("range" : Str) = true ∧ starless a = true ∧ starless b = true then some ⟨true, dRange2 v.f w.f, fun X W h => by subst hx; exact vi_range2 (h.glm hb.1).1 (h.glm hb.1).2 (v.ok X W h) (w.ok X W h) hb.2.1 hb.2.2⟩ else none
    | _, _ => none)
  else if hx : x = ("zip" : Str) then (match tg with
    | .Tuple elts kk tpos => (match r.e C a, r.e C b with
      | some v, some w => if hb : bltOk C ("zip" : Str) = true ∧ starless a = true ∧ starless b = true ∧ (!bo && !v.st) = false ∧ (!bo && !w.st) = false then
          some ⟨v.nw && w.nw, dZip v.f w.f, fun X W h => by subst hx; exact vi_zip (h.glm hb.1).1 (h.glm hb.1).2 (v.ok X W h) (w.ok X W h) hb.2.2.2.1 hb.2.2.2.2 hb.2.1 hb.2.2.1⟩ else none
      | _, _ => none)
    | _ => none)
  else cItV r C bo tg (.Call (.Name x p) [a, b] [] pos)
def cIt (bo : Bool) (tg e : Expr) : Option (RI2 C bo tg e) := match e with
  | .Call (.Name x p) [a] [] pos => cIt1 r C bo tg x p a pos
  | .Call (.Name x p) [a, b] [] pos => cIt2 r C bo tg x p a b pos
  | e => cItV r C bo tg e

/-! ### comprehensions -/
def ownOf (scope : Scope) : List (Str × Nat) := scope.names.filterMap fun y => match y.2 with
  | .local => (slot C y.1).map fun i => (y.1, i)
  | .cell => (slot C y.1).map fun i => (y.1, i)
  | _ => none
structure RTs (C : Cfg) (ifs : List Expr) where
  f : DX
  ok : ∀ X W, COk C X W → VTs X W C.md ifs f
def cIfs (C : Cfg) (ifs : List Expr) : Option (RTs C ifs) := match ifs with
  | [] => some ⟨dC (.bl true), fun X W h => vts_nil⟩
  | [e] => (match r.t C e with
    | some x => some ⟨x.f, fun X W h => vts_one (x.ok X W h)⟩
    | none => none)
  | _ => none
/-- the parts of a comprehension -/
structure RC (C : Cfg) (elt tg iter : Expr) (ifs : List Expr) (scope : Scope) where
  it : RI2 C true tg iter
  tg : RGt (C.blk scope) it.nw tg
  tt : RTs (C.blk scope) ifs
  nw : Bool
  fe : DX
  fok : ∀ X W, COk (C.blk scope) X W → VE X W C.md true nw elt fe
  bk : blkC C.N C.sc scope (ownOf C scope) = true
  sh : shAll C.md ((ownOf C scope).map (·.2)) = true
  sl : (tg.sl.all fun j => ((ownOf C scope).map (·.2)).contains j) = true
  ns : notSet iter = true
def cComp (n : Bool) (elt tg iter : Expr) (ifs : List Expr) (scope : Scope) : Option (RC C elt tg iter ifs scope) := match cIt r C true tg iter with
  | some i => (match cTg (C.blk scope) i.nw tg, cIfs r (C.blk scope) ifs, r.e (C.blk scope) elt with
    | some g, some t, some x =>
      (let x := x.imm n
      if h : x.st = true ∧ blkC C.N C.sc scope (ownOf C scope) = true ∧ shAll C.md ((ownOf C scope).map (·.2)) = true ∧ (g.sl.all fun j => ((ownOf C scope).map (·.2)).contains j) = true ∧ notSet iter = true then
        some ⟨i, g, t, x.nw, x.f, fun X W k => (x.ok X W k).to (by rw [h.1]; rfl) (by cases x.nw <;> rfl), h.2.1, h.2.2.1, h.2.2.2.1, h.2.2.2.2⟩ else none)
    | _, _, _ => none)
  | none => none
def RC.den {C : Cfg} {elt tg iter : Expr} {ifs : List Expr} {scope : Scope} (c : RC C elt tg iter ifs scope) : DX := dComp c.it.f c.tg.gd c.tt.f c.fe ((ownOf C scope).map (·.2))
theorem RC.blkok {C : Cfg} {elt tg iter : Expr} {ifs : List Expr} {scope : Scope} (c : RC C elt tg iter ifs scope) {X : Cx} {W : WX} (h : COk C X W) : BlkOk X.N X.env.scope scope (ownOf C scope) := by
  rw [h.n, h.sc]
  exact blkOk_by c.bk
theorem RC.vf {C : Cfg} {elt tg iter : Expr} {ifs : List Expr} {scope : Scope} (c : RC C elt tg iter ifs scope) {pos : Pos} {X : Cx} {W : WX} (h : COk C X W) : VF X W C.md c.nw (.ListComp elt [⟨tg, iter, ifs, 0⟩] scope pos) c.den :=
  vf_comp (bo := true) h.calm h.nodup (c.it.ok X W h) (c.blkok h) c.sh (fun j hj => by have := List.all_eq_true.mp c.sl j hj; simpa using this)
    (fun s H D cl fp => c.tg.ok _ _ (h.blk (c.blkok h).kind s H D cl fp)) (fun s H D cl fp => c.tt.ok _ _ (h.blk (c.blkok h).kind s H D cl fp)) (fun s H D cl fp => c.fok _ _ (h.blk (c.blkok h).kind s H D cl fp)) (fold_none c.ns)
/-! ### {"a": 1, ..} -/
structure RP (C : Cfg) (pos : Pos) (keys : List (Option Expr)) (vals : List Expr) where
  ks : List Str
  fs : DXs
  len : ks.length = keys.length
  ok : ∀ X W, COk C X W → VPs X W C.md true pos keys vals ks fs
def cPs (pos : Pos) : (keys : List (Option Expr)) → (vals : List Expr) → Option (RP C pos keys vals)
  | [], [] => some ⟨[], dNil, rfl, fun X W h => vps_nil⟩
  | some (.Constant (.str x) j kp) :: keys, e :: vals => (match r.e C e, cPs pos keys vals with
    | some v, some t => if hc : v.st = true ∧ v.nw = true then some ⟨x :: t.ks, dCons v.f t.fs, by rw [List.length_cons, List.length_cons, t.len], fun X W h => vps_cons ((v.ok X W h).to (by rw [hc.1]; rfl) (by rw [hc.2]; rfl)) (t.ok X W h)⟩ else none
    | _, _ => none)
  | _, _ => none
def cDict (keys : List (Option Expr)) (vals : List Expr) (pos : Pos) : Option (RF C (.Dict keys vals pos)) := match cPs r C pos keys vals with
  | some t => if hc : keys.all (·.isSome) = true ∧ keys.length = vals.length ∧ keys.length ≠ 0 ∧ keys.length ≤ 15 ∧ t.ks.Nodup then
      some ⟨true, dDict t.ks t.fs, fun X W h => vf_dict (t.ok X W h) hc.1 hc.2.1 (fun e => hc.2.2.1 (by rw [e]; rfl)) hc.2.2.2.1 hc.2.2.2.2 t.len⟩ else none
  | none => none
/-- a new list or dict; n: nothing old within -/
def stepF (n : Bool) (e : Expr) : Option (RF C e) := match e with
  | .List es pos => cLst r C n es pos
  | .Dict [] [] pos => some ⟨true, dC (.dic C.dt [] []), fun X W h => vf_dnew _⟩
  | .Dict [some k] [v] pos => (match cDict r C [some k] [v] pos with
    | some d => some d
    | none => (match r.e C k, r.e C v with
      | some a, some b => if hc : b.st = true then some ⟨true, dDict1 a.f b.f, fun X W h => vf_dict1 (by have := h.room.un; omega) (a.ok X W h) ((b.ok X W h).to (s2 := true) (n2 := b.nw) (by rw [hc]; rfl) (by cases b.nw <;> rfl))⟩ else none
      | _, _ => none))
  | .Dict keys vals pos => cDict r C keys vals pos
  | .Call (.Name x p) es [] pos => cCallF r C x p es pos
  | .ListComp elt [⟨tg, iter, ifs, 0⟩] scope pos => (match cComp r C n elt tg iter ifs scope with
    | some c => some ⟨c.nw, c.den, fun X W h => c.vf h⟩
    | none => none)
  | .BinOp a .Add b pos => (match r.e C a, r.e C b with
    | some x, some y => some ⟨x.nw && y.nw, dBin gCatL x.f y.f, fun X W h => vf_cat (x.ok X W h) (y.ok X W h)⟩
    | _, _ => none)
  | .Subscript e (.Slice none none (some (.UnaryOp .USub (.Constant (.int 1) k p1) p2)) p3) pos => (match r.e C e with
    | some x => some ⟨x.nw, dRevL x.f, fun X W h => vf_revL (x.ok X W h)⟩
    | none => none)
  | .Subscript e (.Slice lo hi none p2) pos => (match r.e C e, cPart r C lo, cPart r C hi with
    | some x, some l, some h => some ⟨x.nw, dSlL x.f l.1 h.1, fun X W k => vf_slice (x.ok X W k) (l.2 X W k) (h.2 X W k)⟩
    | _, _, _ => none)
  | _ => none
end
section
variable (r : Rec) (C : Cfg)
/-- k not in x of a dict of lists -/
def cNotInD (a : Expr) (x : Str) (p pos : Pos) : Option (RT C (.Compare a [.NotIn] [.Name x p] pos)) := match hs : slot C x with
  | none => none
  | some i => match r.e C a with
    | none => none
    | some v => if hm : (mdAt C.md i).dp = 2 ∧ isVis (lk C x) = true ∧ okNm x = true then
        some ⟨dNotInD i v.f, fun X W h => vt_notInD (by have := h.room.un; omega) (h.slot hs) (h.vis hm.2.1) (okNm1 hm.2.2) (okNm2 hm.2.2) hm.1 (v.ok X W h) (marks_none rfl)⟩ else none
def stepT2 (e : Expr) : Option (RT C e) := match e with
  | .Compare a [.NotIn] [.Name x p] pos => (match cNotInD r C a x p pos with
    | some v => some v
    | none => stepT r C (.Compare a [.NotIn] [.Name x p] pos))
  | e => stepT r C e
end
def mkRec : Nat → Rec
  | 0 => ⟨fun _ _ => none, fun _ _ _ => none, fun _ _ => none⟩
  | n + 1 => ⟨fun C e => stepE (mkRec n) C e, fun C k e => stepF (mkRec n) C k e, fun C e => stepT2 (mkRec n) C e⟩
end Dl

/-! Dl12: the reader of statements and defs. -/
namespace Dl
open PySem PySem.Spec PyProof.Rows L2 RZ RT

structure RS (C : Cfg) (fr : Bool) (s : Stmt) where
  f : DS
  ok : ∀ X W, COk C X W → VS X W C.md fr s f
structure RSs (C : Cfg) (fr : Bool) (s : List Stmt) where
  f : DS
  ok : ∀ X W, COk C X W → VSs X W C.md fr s f
structure RQ (C : Cfg) (e : Expr) where
  f : DX
  ok : ∀ X W, COk C X W → VQ X W C.md e f
structure RQs (C : Cfg) (e : List Expr) where
  f : DXs
  ok : ∀ X W, COk C X W → VQs X W C.md e f
theorem sw_val {elt : Expr} {gs : List Comprehension} {scope : Scope} {pos py : Pos} {y : Str} {l : Nat} {env : Env} (hk : env.scope.kind = .function) :
    swapsWith (.ListComp elt gs scope pos) (some (.Name y py)) l env = pure ((env.scope.names.lookup y == some NameKind.local) && (py.line == pos.line) && !(scope.names.any fun (n, k) => n == y && (k == .local || k == .cell))) := by
  have hb : env.blockKind = .function := by unfold Env.blockKind; rw [hk]; rfl
  unfold swapsWith
  simp only [hb, Env.kindOf, Expr.pos]
  rfl
theorem sole_none {t e : Expr} {l : Nat} {env : Env} (h : notComp e = true) : swapsWithSole [t] e l env = pure false := by
  unfold swapsWithSole
  exact swap_none h
theorem sws_two {x y : Str} {px py pt pt2 : Pos} {kt k2 : Nat} {a b : Expr} {env : Env} (hk : env.scope.kind = .function) (hx : env.scope.names.lookup x = some .local) (hy : env.scope.names.lookup y = some .local) (hl : (py.line == px.line) = true) (hxy : x ≠ y)
    (ha : starless a = true) (hb : starless b = true) (hf : [a, b].all (foldedForSure 8) = false) (hc : [a, b].all (constantsAlone 8) = false) : swappedStores [.Tuple [.Name x px, .Name y py] kt pt] (.Tuple [a, b] k2 pt2) env = pure (some [x, y]) := by
  have hbk : env.blockKind = .function := by unfold Env.blockKind; rw [hk]; rfl
  have hyx : ¬ y = x := fun e => hxy e.symm
  have st : ∀ e : Expr, starless e = true → (match e with | .Starred .. => true | _ => false) = false := fun e h => by cases e <;> first | rfl | cases h
  unfold swappedStores
  simp only [hbk, Env.kindOf, List.length_cons, List.length_nil, List.any_cons, List.any_nil, st a ha, st b hb, List.filterMap_cons, List.filterMap_nil, hx, hy, Expr.pos, List.head?_cons, Option.map_some, Option.getD_some, hl, hf, hc]
  simp [hl, hxy, hyx, List.eraseDups_cons]
  intro h
  rcases h with h | h
  · cases a <;> first | (cases ha; done) | cases h
  · cases b <;> first | (cases hb; done) | cases h
theorem sws_three {x y z : Str} {px py pz pt pt2 : Pos} {kt k2 : Nat} {a b c : Expr} {env : Env} (hk : env.scope.kind = .function) (hx : env.scope.names.lookup x = some .local) (hy : env.scope.names.lookup y = some .local) (hz : env.scope.names.lookup z = some .local) (hl : (py.line == px.line) = true) (hl2 : (pz.line == px.line) = true) (hxy : x ≠ y) (hxz : x ≠ z) (hyz : y ≠ z)
    (ha : starless a = true) (hb : starless b = true) (hd : starless c = true) (hf : [a, b, c].all (foldedForSure 8) = false) (hc : [a, b, c].all (constantsAlone 8) = false) : swappedStores [.Tuple [.Name x px, .Name y py, .Name z pz] kt pt] (.Tuple [a, b, c] k2 pt2) env = pure (some [x, y, z]) := by
  have hbk : env.blockKind = .function := by unfold Env.blockKind; rw [hk]; rfl
  have st : ∀ e : Expr, starless e = true → (match e with | .Starred .. => true | _ => false) = false := fun e h => by cases e <;> first | rfl | cases h
  have e1 : ¬ y = x := fun e => hxy e.symm
  have e2 : ¬ z = x := fun e => hxz e.symm
  have e3 : ¬ z = y := fun e => hyz e.symm
  unfold swappedStores
  simp only [hbk, Env.kindOf, List.length_cons, List.length_nil, List.any_cons, List.any_nil, st a ha, st b hb, st c hd, List.filterMap_cons, List.filterMap_nil, hx, hy, hz, Expr.pos, List.head?_cons, Option.map_some, Option.getD_some, hl, hl2, hf, hc]
  simp [hl, hl2, hxy, hxz, hyz, e1, e2, e3, List.eraseDups_cons]
  intro h
  rcases h with h | h | h
  · cases a <;> first | (cases ha; done) | cases h
  · cases b <;> first | (cases hb; done) | cases h
  · cases c <;> first | (cases hd; done) | cases h
section
variable (r : Rec) (C : Cfg) (fr : Bool)
def _root_.Dl.Cfg.setMd (C : Cfg) (md : Mds) : Cfg := { C with md := md }
theorem _root_.Dl.COk.setMd {C : Cfg} {X : Cx} {W : WX} (h : COk C X W) (md : Mds) : COk (C.setMd md) X W := ⟨h.n, h.nd, h.sc, h.calm, h.room, h.blt, h.fns, h.cons, h.tk, h.po, h.fn, h.kd, h.exs, h.tr⟩
/-! ### x = e -/
def isOwn (x : Str) : Option Nat := match slot C x with
  | some i => if (mdAt C.md i).own then some i else none
  | none => none
def cSet (x : Str) (px : Pos) (e : Expr) (pos : Pos) : Option (RS C fr (.Assign [.Name x px] e pos)) := match hs : slot C x with
  | none => none
  | some i => if hv : isLoc (lk C x) = true ∧ (C.fn x || isLocal (lk C x)) = true ∧ (mdAt C.md i).dp = 0 then
    (match e with
    | .ListComp elt [⟨tg, iter, ifs, 0⟩] scope lpos => (match cComp r C (mdAt C.md i).nw elt tg iter ifs scope with
      | some c => if hw : ((mdAt C.md i).nw && !c.nw) = false then
          (match hb : ((C.sc.names.lookup x == some NameKind.local) && (px.line == lpos.line) && !(scope.names.any fun (n, k) => n == x && (k == .local || k == .cell))) with
          | true => if hl : isLocal (lk C x) = true then some ⟨dSet i c.den, fun X W h => by
              refine vs_setLc (bo := true) (tg := tg) h.calm h.nodup (h.slot hs) (h.local hl) ?_ (c.it.ok X W h) (c.blkok h) c.sh (fun j hj => by have := List.all_eq_true.mp c.sl j hj; simpa using this)
                (fun s H D cl fp => c.tg.ok _ _ (h.blk (c.blkok h).kind s H D cl fp)) (fun s H D cl fp => c.tt.ok _ _ (h.blk (c.blkok h).kind s H D cl fp)) (fun s H D cl fp => c.fok _ _ (h.blk (c.blkok h).kind s H D cl fp)) (fold_none c.ns) hv.2.2 hw
              rw [sw_val (by rw [h.sc]; exact h.kd), h.sc, hb]⟩ else none
          | false => if ho : (mdAt C.md i).own = true then some ⟨dSet i c.den, fun X W h => vs_setF h.nodup (h.slot hs) (h.loc hv.1) (h.stores hv.2.1) (c.vf h) (by rw [sw_val (by rw [h.sc]; exact h.kd), h.sc, hb]) ho hw⟩
            else some ⟨dSet i c.den, fun X W h => vs_set h.nodup (h.slot hs) (h.loc hv.1) (h.stores hv.2.1) (c.vf h).ve (by rw [sw_val (by rw [h.sc]; exact h.kd), h.sc, hb]) (by simpa using ho) hv.2.2 hw⟩) else none
      | none => none)
    | .Name y py => (match hj : slot C y with
      | some j => if hm : (mdAt C.md j).own = true ∧ i ≠ j ∧ isVis (lk C y) = true ∧ okNm y = true ∧ ((mdAt C.md i).nw && !(mdAt C.md j).nw) = false then
            some ⟨dMove i j, fun X W h => vs_move hm.2.1 h.nodup (h.slot hs) (h.loc hv.1) (h.stores hv.2.1) (h.slot hj) (h.vis hm.2.2.1) (okNm1 hm.2.2.2.1) (okNm2 hm.2.2.2.1) hm.1 hv.2.2 hm.2.2.2.2⟩
          else (match r.e C (.Name y py) with
            | some v => (let v := v.imm (mdAt C.md i).nw
              if hc : v.st = true ∧ (mdAt C.md i).own = false ∧ ((mdAt C.md i).nw && !v.nw) = false then some ⟨dSet i v.f, fun X W h => vs_set h.nodup (h.slot hs) (h.loc hv.1) (h.stores hv.2.1) ((v.ok X W h).to (by rw [hc.1]; rfl) (by cases v.nw <;> rfl)) (swap_none rfl) hc.2.1 hv.2.2 hc.2.2⟩ else none)
            | none => none)
      | none => (match r.e C (.Name y py) with
            | some v => if hc : v.st = true ∧ (mdAt C.md i).own = false ∧ ((mdAt C.md i).nw && !v.nw) = false then some ⟨dSet i v.f, fun X W h => vs_set h.nodup (h.slot hs) (h.loc hv.1) (h.stores hv.2.1) ((v.ok X W h).to (by rw [hc.1]; rfl) (by cases v.nw <;> rfl)) (swap_none rfl) hc.2.1 hv.2.2 hc.2.2⟩ else none
            | none => none))
    | e => if ho : (mdAt C.md i).own = true then
          (match r.f C (mdAt C.md i).nw e with
          | some v => if hc : notComp e = true then
              (if hw : ((mdAt C.md i).nw && !v.nw) = false then some ⟨dSet i v.f, fun X W h => vs_setF h.nodup (h.slot hs) (h.loc hv.1) (h.stores hv.2.1) (v.ok X W h) (swap_none hc) ho hw⟩
              else some ⟨dSet i (dImmL v.f), fun X W h => vs_setF h.nodup (h.slot hs) (h.loc hv.1) (h.stores hv.2.1) (v.ok X W h).immL (swap_none hc) ho (by cases (mdAt C.md i).nw <;> rfl)⟩) else none
          | none => (match r.e C e with
            | some v => if hc : notComp e = true then some ⟨dSet i (dImm v.f), fun X W h => vs_setI h.nodup (h.slot hs) (h.loc hv.1) (h.stores hv.2.1) (v.ok X W h) (swap_none hc) hv.2.2⟩ else none
            | none => none))
        else (match r.e C e with
          | some v => (let v := v.imm (mdAt C.md i).nw
            if hc : notComp e = true ∧ v.st = true ∧ ((mdAt C.md i).nw && !v.nw) = false then some ⟨dSet i v.f, fun X W h => vs_set h.nodup (h.slot hs) (h.loc hv.1) (h.stores hv.2.1) ((v.ok X W h).to (by rw [hc.2.1]; rfl) (by cases v.nw <;> rfl)) (swap_none hc.1) (by simpa using ho) hv.2.2 hc.2.2⟩ else none)
          | none => none)) else none

/-- own slot := a call whose answer is new, or without lists -/
def cSetCall (x : Str) (px : Pos) (f : Str) (pf : Pos) (es : List Expr) (cpos pos : Pos) : Option (RS C fr (.Assign [.Name x px] (.Call (.Name f pf) es [] cpos) pos)) := match es with
  | [] => none
  | e :: es => match hs : slot C x with
    | none => none
    | some i => match cArgs r C (e :: es) with
      | none => none
      | some a => match findF C f with
        | none => none
        | some ⟨F, hm, hn⟩ => if hv : (isLoc (lk C x) = true ∧ (C.fn x || isLocal (lk C x)) = true ∧ (mdAt C.md i).dp = 0 ∧ (mdAt C.md i).own = true) ∧ (e :: es).all starless = true ∧ isGl (lk C f) = true ∧ okNm f = true ∧ F.ar = (e :: es).length ∧ F.fresh = true then
            some ⟨dSet i (dCallA F.den a.f), fun X W h => by subst hn; exact vs_setCall h.nodup (h.slot hs) (h.loc hv.1.1) (h.stores hv.1.2.1) hv.2.2.2.2.2 (h.fns F hm) h.room (h.gl hv.2.2.1) h.tk (a.ok X W h) (fun env ds q => by rw [hv.2.2.2.2.1]; exact a.len env ds q) (okNm1 hv.2.2.2.1) hv.2.1 (swap_none rfl) hv.1.2.2.2 hv.1.2.2.1⟩
          else none
def cSetA (x : Str) (px : Pos) (e : Expr) (pos : Pos) : Option (RS C fr (.Assign [.Name x px] e pos)) := match e with
  | .Dict [] [] lp => (match hs : slot C x with
    | some i => if hm : (mdAt C.md i).dp = 2 ∧ isLoc (lk C x) = true ∧ (C.fn x || isLocal (lk C x)) = true then
        some ⟨dSet i (dC (.dic true [] [])), fun X W h => vs_newD h.nodup (h.slot hs) (h.loc hm.2.1) (h.stores hm.2.2) (swap_none rfl) hm.1⟩
      else cSet r C fr x px (.Dict [] [] lp) pos
    | none => none)
  | .Call (.Name f pf) es [] cpos => (match cSetCall r C fr x px f pf es cpos pos with
    | some v => some v
    | none => cSet r C fr x px (.Call (.Name f pf) es [] cpos) pos)
  | e => cSet r C fr x px e pos

/-! ### return -/
def cQ0 (e : Expr) : Option (RQ C e) := match r.e C e with
  | some v => (let v := v.imm true
    if hc : v.st = true ∧ v.nw = true then some ⟨v.f, fun X W h => ((v.ok X W h).to (by rw [hc.1]; rfl) (by rw [hc.2]; rfl)).vq⟩ else none)
  | none => none
/-- what makes a new list -/
def freshE : Expr → Bool
  | .ListComp _ _ _ _ => true
  | .List _ _ => true
  | .Call (.Name n _) _ _ _ => n == ("list" : Str) || n == ("sorted" : Str)
  | _ => false
def cQ (e : Expr) : Option (RQ C e) := match e with
  | .Name x pos => (match hs : slot C x with
    | some i => if hm : (mdAt C.md i).own = true ∧ (mdAt C.md i).nw = true ∧ isVis (lk C x) = true ∧ okNm x = true then some ⟨dVar i, fun X W h => vq_own (h.slot hs) (h.vis hm.2.2.1) (okNm1 hm.2.2.2) (okNm2 hm.2.2.2) hm.1 hm.2.1⟩ else cQ0 r C (.Name x pos)
    | none => cQ0 r C (.Name x pos))
  | e => if freshE e = true then (match r.f C true e with
      | some v => if hw : v.nw = true then some ⟨v.f, fun X W h => (hw ▸ v.ok X W h : VF X W C.md true _ _).vq⟩ else some ⟨dImmL v.f, fun X W h => (v.ok X W h).immL.vq⟩
      | none => none) else cQ0 r C e
def cQs : (es : List Expr) → Option (RQs C es)
  | [] => some ⟨dNil, fun X W h => vqs_nil⟩
  | e :: es => match cQ r C e, cQs es with
    | some a, some b => if hs : starless e = true then some ⟨dCons a.f b.f, fun X W h => vqs_cons (a.ok X W h) (b.ok X W h) (notStar hs)⟩ else none
    | _, _ => none
def cRet0 (e : Expr) (pos : Pos) : Option (RS C true (.Return (some e) pos)) := match r.f C true e with
  | some v => if hw : v.nw = true then some ⟨dRet v.f, fun X W h => vs_retF (hw ▸ v.ok X W h)⟩ else none
  | none => (match r.e C e with
    | some v => if hc : v.st = true ∧ v.nw = true then some ⟨dRetV v.f, fun X W h => vs_retV ((v.ok X W h).to (by rw [hc.1]; rfl) (by rw [hc.2]; rfl))⟩
        else some ⟨dRet (dImm v.f), fun X W h => vs_retI (v.ok X W h)⟩
    | none => none)
/-- a value that is no new list: constants, tests, operators, calls of what gives no list -/
def plainV : Expr → Bool
  | .BinOp _ _ _ _ => true
  | .Subscript _ _ _ => true
  | _ => false
def cRet (e : Expr) (pos : Pos) : Option (RS C fr (.Return (some e) pos)) := match fr with
  | true => (match e with
    | .Name x px => (match hs : slot C x with
      | some i => if hm : (mdAt C.md i).own = true ∧ (mdAt C.md i).nw = true ∧ isVis (lk C x) = true ∧ okNm x = true then some ⟨dRet (dVar i), fun X W h => vs_retO (h.slot hs) (h.vis hm.2.2.1) (okNm1 hm.2.2.2) (okNm2 hm.2.2.2) hm.1 hm.2.1⟩ else cRet0 r C (.Name x px) pos
      | none => cRet0 r C (.Name x px) pos)
    | .Tuple es k p => (match cQs r C es with
      | some v => some ⟨dRetV (dTup v.f), fun X W h => vs_retQ (vq_tup (v.ok X W h))⟩
      | none => none)
    | e => if C.pl pos.line then (match r.e C e with
        | some v => some ⟨dRet (dImm v.f), fun X W h => vs_retI (v.ok X W h)⟩
        | none => none) else cRet0 r C e pos)
  | false => (match r.e C e with
    | some v => if hc : v.st = true then some ⟨dRet v.f, fun X W h => vs_ret (nw := v.nw) ((v.ok X W h).to (by rw [hc]; rfl) (by cases v.nw <;> rfl))⟩ else none
    | none => none)

/-! ### other statements -/
def cApp (x : Str) (p2 : Pos) (at_ : Str) (apos : Pos) (a : Expr) (cpos pos : Pos) : Option (RS C fr (.Expr (.Call (.Attribute (.Name x p2) at_ apos) [a] [] cpos) pos)) := match hs : slot C x with
  | none => none
  | some i => match r.e C a with
    | none => none
    | some v => (let v := v.imm (mdAt C.md i).nw
      if hm : at_ = ("append" : Str) ∧ (mdAt C.md i).own = true ∧ isVis (lk C x) = true ∧ okNm x = true ∧ ((mdAt C.md i).nw && !v.nw) = false ∧ v.st = true ∧ starless a = true ∧ (apos.endLine == cpos.line) = true then
        some ⟨dApp i v.f, fun X W h => by
          rw [hm.1]
          exact vs_app (h.slot hs) (h.vis hm.2.2.1) (okNm1 hm.2.2.2.1) (okNm2 hm.2.2.2.1) hm.2.1 hm.2.2.2.2.1 ((v.ok X W h).to (by rw [hm.2.2.2.2.2.1]; rfl) (by cases v.nw <;> rfl)) hm.2.2.2.2.2.2.1 rfl hm.2.2.2.2.2.2.2⟩
      else none)
def cIns (x : Str) (p2 : Pos) (at_ : Str) (apos : Pos) (a b : Expr) (cpos pos : Pos) : Option (RS C fr (.Expr (.Call (.Attribute (.Name x p2) at_ apos) [a, b] [] cpos) pos)) := match hs : slot C x with
  | none => none
  | some i => match cArgsN r C (mdAt C.md i).nw [a, b] with
    | none => none
    | some v => if hm : at_ = ("insert" : Str) ∧ (mdAt C.md i).own = true ∧ isVis (lk C x) = true ∧ okNm x = true ∧ ((mdAt C.md i).nw && !v.nw) = false ∧ v.st = true ∧ starless a = true ∧ starless b = true ∧ (apos.endLine == cpos.line) = true then
        some ⟨dIns i v.f, fun X W h => by
          obtain ⟨h1, h2, h3, h4, h5, h6, h7, h8, h9⟩ := hm
          rw [h1]
          exact vs_ins (h.slot hs) (h.vis h3) (okNm1 h4) (okNm2 h4) h2 h5 ((v.ok X W h).to (by rw [h6]; rfl) (by cases v.nw <;> rfl)) h7 h8 rfl h9⟩
      else none
def cPut (x : Str) (p2 : Pos) (b : Expr) (spos : Pos) (e : Expr) (pos : Pos) : Option (RS C fr (.Assign [.Subscript (.Name x p2) b spos] e pos)) := match hs : slot C x with
  | none => none
  | some i => match r.e C b, r.e C e with
    | some k, some v => (let v := v.imm (mdAt C.md i).nw
      if hm : (mdAt C.md i).own = true ∧ isVis (lk C x) = true ∧ okNm x = true ∧ ((mdAt C.md i).nw && !v.nw) = false ∧ v.st = true ∧ plainIx b = true ∧ notComp e = true then
        some ⟨dPut i k.f v.f, fun X W h => vs_put (by have := h.room.un; omega) (h.slot hs) (h.vis hm.2.1) (okNm1 hm.2.2.1) (okNm2 hm.2.2.1) hm.1 hm.2.2.2.1 ((v.ok X W h).to (by rw [hm.2.2.2.2.1]; rfl) (by cases v.nw <;> rfl)) (k.ok X W h)
          (sole_none hm.2.2.2.2.2.2) (sws_none rfl rfl) rfl (fun w => by cases b <;> first | rfl | cases hm.2.2.2.2.2.1)⟩
      else none)
    | _, _ => none
/-- x[k] = [] of a dict of lists -/
def cPutN (x : Str) (p2 : Pos) (b : Expr) (spos lp pos : Pos) : Option (RS C fr (.Assign [.Subscript (.Name x p2) b spos] (.List [] lp) pos)) := match hs : slot C x with
  | none => none
  | some i => match r.e C b with
    | none => none
    | some k => if hm : (mdAt C.md i).dp = 2 ∧ isVis (lk C x) = true ∧ okNm x = true ∧ plainIx b = true then
        some ⟨dPutN i k.f, fun X W h => vs_putN (by have := h.room.un; omega) (h.slot hs) (h.vis hm.2.1) (okNm1 hm.2.2.1) (okNm2 hm.2.2.1) hm.1 (k.ok X W h) (sole_none rfl) (sws_none rfl rfl) rfl (fun w => by cases b <;> first | rfl | cases hm.2.2.2)⟩ else none
def cPutA (x : Str) (p2 : Pos) (b : Expr) (spos : Pos) (e : Expr) (pos : Pos) : Option (RS C fr (.Assign [.Subscript (.Name x p2) b spos] e pos)) := match e with
  | .List [] lp => (match cPutN r C fr x p2 b spos lp pos with
    | some v => some v
    | none => cPut r C fr x p2 b spos (.List [] lp) pos)
  | e => cPut r C fr x p2 b spos e pos
/-- x[k].append(e) of a dict of lists -/
def cAppD (x : Str) (p2 : Pos) (b : Expr) (spos : Pos) (at_ : Str) (apos : Pos) (a : Expr) (cpos pos : Pos) : Option (RS C fr (.Expr (.Call (.Attribute (.Subscript (.Name x p2) b spos) at_ apos) [a] [] cpos) pos)) := match hs : slot C x with
  | none => none
  | some i => match r.e C b, r.e C a with
    | some k, some v => if hm : at_ = ("append" : Str) ∧ (mdAt C.md i).dp = 2 ∧ isVis (lk C x) = true ∧ okNm x = true ∧ plainIx b = true ∧ starless a = true ∧ (apos.endLine == cpos.line) = true then
        some ⟨dAppD i k.f v.f, fun X W h => by
          rw [hm.1]
          exact vs_appD (by have := h.room.un; omega) (h.slot hs) (h.vis hm.2.2.1) (okNm1 hm.2.2.2.1) (okNm2 hm.2.2.2.1) hm.2.1 (k.ok X W h) (plainIx_ok hm.2.2.2.2.1) (v.ok X W h) hm.2.2.2.2.2.1 rfl hm.2.2.2.2.2.2⟩ else none
    | _, _ => none
def cUnp0 (es : List Expr) (k : Nat) (tp : Pos) (e : Expr) (pos : Pos) : Option (RS C fr (.Assign [.Tuple es k tp] e pos)) := match r.e C e with
  | some v => (match cTg C v.nw (.Tuple es k tp) with
    | some g => if hc : v.st = true ∧ notComp e = true ∧ isTupE e = false then some ⟨dUnp g.gd v.f, fun X W h => vs_unp ((v.ok X W h).to (by rw [hc.1]; rfl) (by cases v.nw <;> rfl)) (g.ok X W h) (sole_none hc.2.1) (sws_none (by rw [hc.2.2]; rfl) rfl) rfl⟩ else none
    | none => none)
  | none => none
def cUnp (es : List Expr) (k : Nat) (tp : Pos) (e : Expr) (pos : Pos) : Option (RS C fr (.Assign [.Tuple es k tp] e pos)) := match e with
  | .Name x0 p0 => (match hs : slot C x0 with
    | some i0 => if hm : (mdAt C.md i0).own = true ∧ isVis (lk C x0) = true ∧ okNm x0 = true then
        (match cTg C (mdAt C.md i0).nw (.Tuple es k tp) with
        | some g => some ⟨dUnpC i0 g.gd, fun X W h => vs_unpC (h.slot hs) (h.vis hm.2.1) (okNm1 hm.2.2) (okNm2 hm.2.2) hm.1 (g.ok X W h) (sole_none rfl) (sws_none rfl rfl) rfl⟩
        | none => none) else cUnp0 r C fr es k tp (.Name x0 p0) pos
    | none => cUnp0 r C fr es k tp (.Name x0 p0) pos)
  | e => cUnp0 r C fr es k tp e pos
theorem sws_cell2 {x y : Str} {px py pt pt2 : Pos} {kt k2 : Nat} {a b : Expr} {env : Env} (h : env.scope.names.lookup x = some .cell ∨ env.scope.names.lookup y = some .cell) : swappedStores [.Tuple [.Name x px, .Name y py] kt pt] (.Tuple [a, b] k2 pt2) env = pure none := by
  unfold swappedStores
  rcases h with h | h
  all_goals
    simp only [Env.kindOf, List.length_cons, List.length_nil, List.filterMap_cons, List.filterMap_nil, h]
    repeat' split
    all_goals first
      | rfl
      | (exfalso; simp_all; done)
      | (simp_all; done)
      | skip
def cParC (x y : Str) (px py pt pt2 : Pos) (kt k2 : Nat) (a b : Expr) (pos : Pos) : Option (RS C fr (.Assign [.Tuple [.Name x px, .Name y py] kt pt] (.Tuple [a, b] k2 pt2) pos)) := match r.e C (.Tuple [a, b] k2 pt2) with
  | some v => (match cTg C v.nw (.Tuple [.Name x px, .Name y py] kt pt) with
    | some g => if hc : v.st = true ∧ (lk C x = some .cell ∨ lk C y = some .cell) then some ⟨dUnp g.gd v.f, fun X W h => vs_unp ((v.ok X W h).to (by rw [hc.1]; rfl) (by cases v.nw <;> rfl)) (g.ok X W h) (sole_none rfl) (sws_cell2 (by rw [h.sc]; exact hc.2)) rfl⟩ else none
    | none => none)
  | none => none
def cPar2 (x y : Str) (px py pt pt2 : Pos) (kt k2 : Nat) (a b : Expr) (pos : Pos) : Option (RS C fr (.Assign [.Tuple [.Name x px, .Name y py] kt pt] (.Tuple [a, b] k2 pt2) pos)) := match hi : slot C x, hj : slot C y, cArgs r C [a, b] with
  | some i, some j, some v => if hm : i ≠ j ∧ isLocal (lk C x) = true ∧ isLocal (lk C y) = true ∧ v.st = true ∧ (py.line == px.line) = true ∧ x ≠ y ∧ starless a = true ∧ starless b = true ∧ [a, b].all (foldedForSure 8) = false ∧ [a, b].all (constantsAlone 8) = false ∧
        ((mdAt C.md i).own = false ∧ (mdAt C.md j).own = false ∧ (mdAt C.md i).dp = 0 ∧ (mdAt C.md j).dp = 0) ∧ ((mdAt C.md i).nw && !v.nw) = false ∧ ((mdAt C.md j).nw && !v.nw) = false then
      some ⟨dParL [i, j] v.f, fun X W h => by
        obtain ⟨h1, h2, h3, h4, h5, h6, h7, h8, h9, h10, ⟨h11, h12, h15, h16⟩, h13, h14⟩ := hm
        exact vs_par2 (nw := v.nw) h.calm h.nodup (h.slot hi) (h.slot hj) h1 (h.local h2) (h.local h3) ((v.ok X W h).to (by rw [h4]; rfl) (by cases v.nw <;> rfl)) (sws_two (by rw [h.sc]; exact h.kd) (h.local h2) (h.local h3) h5 h6 h7 h8 h9 h10) (sole_none rfl) h11 h12 h15 h16 h13 h14⟩ else none
  | _, _, _ => none
def cPar3 (x y z : Str) (px py pz pt pt2 : Pos) (kt k2 : Nat) (a b c : Expr) (pos : Pos) : Option (RS C fr (.Assign [.Tuple [.Name x px, .Name y py, .Name z pz] kt pt] (.Tuple [a, b, c] k2 pt2) pos)) := match hi : slot C x, hj : slot C y, hl : slot C z, cArgs r C [a, b, c] with
  | some i, some j, some l, some v => if hm : (i ≠ j ∧ i ≠ l ∧ j ≠ l) ∧ (isLocal (lk C x) = true ∧ isLocal (lk C y) = true ∧ isLocal (lk C z) = true) ∧ v.st = true ∧ ((py.line == px.line) = true ∧ (pz.line == px.line) = true) ∧ (x ≠ y ∧ x ≠ z ∧ y ≠ z) ∧ (starless a = true ∧ starless b = true ∧ starless c = true) ∧ [a, b, c].all (foldedForSure 8) = false ∧ [a, b, c].all (constantsAlone 8) = false ∧
        ((mdAt C.md i).own = false ∧ (mdAt C.md j).own = false ∧ (mdAt C.md l).own = false ∧ (mdAt C.md i).dp = 0 ∧ (mdAt C.md j).dp = 0 ∧ (mdAt C.md l).dp = 0) ∧ ((mdAt C.md i).nw && !v.nw) = false ∧ ((mdAt C.md j).nw && !v.nw) = false ∧ ((mdAt C.md l).nw && !v.nw) = false then
      some ⟨dParL [i, j, l] v.f, fun X W h => by
        obtain ⟨⟨a1, a2, a3⟩, ⟨b1, b2, b3⟩, c1, ⟨d1, d2⟩, ⟨e1, e2, e3⟩, ⟨f1, f2, f3⟩, g1, g2, ⟨i1, i2, i3, p1, p2, p3⟩, j1, j2, j3⟩ := hm
        exact vs_par3 (nw := v.nw) h.calm h.nodup (h.slot hi) (h.slot hj) (h.slot hl) a1 a2 a3 (h.local b1) (h.local b2) (h.local b3) ((v.ok X W h).to (by rw [c1]; rfl) (by cases v.nw <;> rfl)) (sws_three (by rw [h.sc]; exact h.kd) (h.local b1) (h.local b2) (h.local b3) d1 d2 e1 e2 e3 f1 f2 f3 g1 g2) (sole_none rfl) i1 i2 i3 p1 p2 p3 j1 j2 j3⟩ else none
  | _, _, _, _ => none
/-! ### raise E(..) -/
def findX (x : Str) : Option {E : ExEnt // E ∈ C.exs ∧ E.name = x} := match h : C.exs.find? (fun E => decide (E.name = x)) with
  | some E => some ⟨E, List.mem_of_find?_eq_some h, by simpa using List.find?_some h⟩
  | none => none
theorem COk.exAt {X : Cx} {W : WX} (h : COk C X W) {E : ExEnt} (m : E ∈ C.exs) : ∃ j, Room (j + 1) X.A ∧ ExAt X j E := by
  obtain ⟨j, hj, e⟩ := h.exs E m
  exact ⟨j, h.room.mono hj, e⟩
def cRaise (x : Str) (p : Pos) (es : List Expr) (pos pos2 : Pos) : Option (RS C fr (.Raise (some (.Call (.Name x p) es [] pos)) none pos2)) := match es with
  | [] => none
  | e :: es => match findX C x, cArgs r C (e :: es) with
    | some ⟨E, hm, hn⟩, some a => if hc : isGl (lk C x) = true ∧ okNm x = true ∧ (e :: es).all starless = true ∧ E.ps.length ≤ 1000 then
        some ⟨dRaise E a.f, fun X W h => by
          subst hn
          obtain ⟨j, hr, hE⟩ := h.exAt C hm
          exact vs_raise h.calm h.tk hE hr (h.gl hc.1) (okNm1 hc.2.1) hc.2.2.2 (a.ok X W h) hc.2.2.1⟩ else none
    | _, _ => none
def cExpr (e : Expr) (pos : Pos) : Option (RS C fr (.Expr e pos)) := match r.e C e with
  | some v => if hn : notComp e = true then some ⟨dDrop v.f, fun X W h => vs_expr (v.ok X W h) (swap_none hn)⟩ else none
  | none => none
end
/-- what the step before gives, of statements -/
structure RecS where
  s : ∀ (C : Cfg) (fr : Bool) (s : Stmt), Option (RS C fr s)
def cBlock (q : RecS) (C : Cfg) (fr : Bool) : (ss : List Stmt) → Option (RSs C fr ss)
  | [] => some ⟨dNext, fun X W h => vs_nil⟩
  | s :: ss => match q.s C fr s, cBlock q C fr ss with
    | some a, some b => some ⟨dSeq a.f b.f, fun X W h => vs_cons (a.ok X W h) (b.ok X W h)⟩
    | _, _ => none
/-! ### try .. except E as n: x = (n.f, ..) -/
def Cfg.noTr (C : Cfg) : Cfg := { C with tr := false }
theorem COk.noTr {C : Cfg} {X : Cx} {W W' : WX} (h : COk C X W) {pn : List (Addr × Obj)} {xe : Value → Shared → Prop} (tk : Takes (X.tr pn xe) W') (po : PassesOwn (model X.prog X.w) X.A X.env xe) : COk C.noTr (X.tr pn xe) W' :=
  ⟨h.n, h.nd, h.sc, h.calm, h.room, h.blt, fun F hF => ⟨(h.fns F hF).ex⟩, fun p hp => ⟨(h.cons p hp).ex⟩, tk, po, h.fn, h.kd, h.exs, fun z => nomatch z⟩
structure RUa (C : Cfg) (n : Nat) (es : List Expr) where
  fl : List Str
  ok : ∀ X W, COk C X W → ∀ (D a : Addr) (oe : Obj) (cls : Value) (d : Option Addr) (pn : List (Addr × Obj)), XfC X.K D → (∀ f ∈ fl, PySem.W.findIn X.K (.ref D) f = some none) → Zc cls d oe → (∃ vs, oe.data = .fields vs) → PA (X.suite a ((a, oe) :: pn)) es (tXs a cls d D n fl)
def uArgs (C : Cfg) (n : Nat) : (es : List Expr) → Option (RUa C n es)
  | [] => some ⟨[], fun X W h D a oe cls d pn _ _ _ _ => pa_nil⟩
  | .Attribute (.Name y p) f q :: es => (match hs : slot C y, uArgs C n es with
    | some i, some t => if hv : i = n ∧ isVis (lk C y) = true ∧ okNm y = true then
        some ⟨f :: t.fl, fun X W h D a oe cls d pn xf hn hz hd => pa_cons (pe_xf xf (hn f (by simp)) hz hd (pe_var (by rw [← hv.1]; exact h.slot hs) (h.vis hv.2.1) (okNm1 hv.2.2) (okNm2 hv.2.2)) rfl) (t.ok X W h D a oe cls d pn xf (fun g hg => hn g (by simp [hg])) hz hd) (notStar rfl)⟩ else none
    | _, _ => none)
  | _ => none
structure RU (C : Cfg) (n : Nat) (e : Expr) where
  tp : Bool
  fl : List Str
  te : Addr → Addr → Value → Option Addr → TE
  pe : ∀ X W, COk C X W → ∀ (D a : Addr) (oe : Obj) (cls : Value) (d : Option Addr) (pn : List (Addr × Obj)), XfC X.K D → (∀ f ∈ fl, PySem.W.findIn X.K (.ref D) f = some none) → Zc cls d oe → (∃ vs, oe.data = .fields vs) → PE (X.suite a ((a, oe) :: pn)) e (te D a cls d)
  rd : ∀ (K : PySem.W.Frag) (C a : Addr) (cls : Value) (dd : Addr) (σ : L2.St) (H : Hp) (ffs : List (Str × V)) (fs : Fields) (d : D) (Q : VK), cls = .ref C → σ[n]? = some (some (.ref a)) → H dd = some (.xd ffs) → (∀ p ∈ fs, Dl.imm p.2 = true ∧ ∃ v, ffs.lookup p.1 = some v ∧ Rp K H (fun _ => False) v p.2) →
      (pickF fs fl).bind (mkF tp) = some d → (∀ v H', Same H H' → Dl.imm d = true → (∀ A, Rp K H' A v d) → Q v H') → te C a cls (some dd) σ H Q
  sw : ∀ (t : Option Expr) (l : Nat) (env : Env), swapsWith e t l env = pure false
def uExp (C : Cfg) (n : Nat) (e : Expr) : Option (RU C n e) := match e with
  | .Tuple es k tp => (match uArgs C n es with
    | some t => some ⟨true, t.fl, fun D a cls d => tTup (tXs a cls d D n t.fl), fun X W h D a oe cls d pn xf hn hz hd => pe_tup (t.ok X W h D a oe cls d pn xf hn hz hd), fun K C a cls dd σ H ffs fs d Q hc hs hd hf hk q => by
        cases hp : pickF fs t.fl with
        | none => rw [hp] at hk; cases hk
        | some ds =>
          rw [hp] at hk
          have hk : (if ds.length ≤ sizeLine then some (Dl.D.tup ds) else none) = some d := hk
          by_cases z : ds.length ≤ sizeLine
          case neg => rw [if_neg z] at hk; cases hk
          rw [if_pos z] at hk
          cases hk
          obtain ⟨im, vs, g, rp⟩ := pick_ok hf hp
          exact g a cls dd C n σ _ hc hs hd ⟨by rw [rp.length]; exact z, fun p np => q _ _ (same_new np) (by unfold Dl.imm; exact im) fun A => Rp.tup.mpr ⟨p, vs, rfl, upd_same, (Rps.imm _ _ rp im).same (same_new np)⟩⟩, fun _ _ _ => rfl⟩
    | none => none)
  | .Attribute (.Name y p) f q => (match uArgs C n [.Attribute (.Name y p) f q], (match hs : slot C y with | some i => (if hv : i = n ∧ isVis (lk C y) = true ∧ okNm y = true then some (PLift.up (show slot C y = some n ∧ isVis (lk C y) = true ∧ okNm y = true from ⟨by rw [hs, hv.1], hv.2⟩)) else none) | none => none) with
    | some _, some ⟨hv⟩ => some ⟨false, [f], fun D a cls d => tXf a cls d D f (tVar n), fun X W h D a oe cls d pn xf hn hz hd => pe_xf xf (hn f (by simp)) hz hd (pe_var (h.slot hv.1) (h.vis hv.2.1) (okNm1 hv.2.2) (okNm2 hv.2.2)) rfl, fun K C a cls dd σ H ffs fs d Q hc hs hd hf hk q => by
        cases hp : pickF fs [f] with
        | none => rw [hp] at hk; cases hk
        | some ds =>
          rw [hp] at hk
          obtain ⟨im, vs, g, rp⟩ := pick_ok hf hp
          cases ds with
          | nil => cases hk
          | cons d1 r => cases r with
            | cons _ _ => cases hk
            | nil =>
              cases hk
              obtain ⟨v, r, rfl, rv, rn⟩ := rp.uncons
              have := rn.nil_eq
              subst this
              unfold imms at im
              rw [Bool.and_eq_true] at im
              have := g a cls dd C n σ (fun vs H1 => ∀ w, vs = [w] → Q w H1) hc hs hd (fun w e => by cases e; exact q v H (Same.refl _) im.1 fun A => Rp.imm _ _ rv im.1)
              obtain ⟨x, hx, e1, e2, dd', fs', w, e3, e4, e5, e6⟩ := this
              exact ⟨x, hx, e1, e2, dd', fs', w, e3, e4, e5, e6 w rfl⟩, fun _ _ _ => rfl⟩
    | _, _ => none)
  | _ => none
def stepS (r : Rec) (q : RecS) (C : Cfg) (fr : Bool) (s : Stmt) : Option (RS C fr s) := match s with
  | .Expr (.Call (.Attribute (.Name x p2) at_ apos) [a] [] cpos) pos => cApp r C fr x p2 at_ apos a cpos pos
  | .Expr (.Call (.Attribute (.Name x p2) at_ apos) [a, b] [] cpos) pos => cIns r C fr x p2 at_ apos a b cpos pos
  | .Expr (.Call (.Attribute (.Subscript (.Name x p2) b spos) at_ apos) [a] [] cpos) pos => cAppD r C fr x p2 b spos at_ apos a cpos pos
  | .Expr e pos => cExpr r C fr e pos
  | .Assign [.Name x px] e pos => cSetA r C fr x px e pos
  | .Assign [.Subscript (.Name x p2) b spos] e pos => cPutA r C fr x p2 b spos e pos
  | .Assign [.Tuple [.Name x px, .Name y py] kt pt] (.Tuple [a, b] k2 pt2) pos => (match cPar2 r C fr x y px py pt pt2 kt k2 a b pos with
    | some v => some v
    | none => cParC r C fr x y px py pt pt2 kt k2 a b pos)
  | .Assign [.Tuple [.Name x px, .Name y py, .Name z pz] kt pt] (.Tuple [a, b, c] k2 pt2) pos => cPar3 r C fr x y z px py pz pt pt2 kt k2 a b c pos
  | .Assign [.Tuple es k tp] e pos => cUnp r C fr es k tp e pos
  | .If c a b pos => (match r.t C c, cBlock q C fr a, cBlock q C fr b with
    | some x, some y, some z => some ⟨dIfS x.f y.f z.f, fun X W h => vs_if (x.ok X W h) (y.ok X W h) (z.ok X W h)⟩
    | _, _, _ => none)
  | .For tg iter body [] pos => (match cIt r C false tg iter with
    | some i => (match cTg C i.nw tg, cBlock q C fr body with
      | some g, some b => if hn : notSet iter = true then some ⟨dFor i.f g.gd b.f (C.kl pos.line), fun X W h => vs_for h.po h.calm (i.ok X W h) (g.ok X W h) (b.ok X W h) (fold_none hn)⟩ else none
      | _, _ => none)
    | none => (match iter with
      | .Name x0 p0 => (match hs : slot C x0 with
        | some i0 => if C.pl pos.line then (match cTg (C.setMd (mdK C.md i0)) true tg, cBlock q (C.setMd (mdK C.md i0)) fr body with
          | some g, some b => if hm : isVis (lk C x0) = true ∧ okNm x0 = true then
              (if ho : (mdAt C.md i0).own = true then some ⟨dForK i0 g.gd b.f (C.kl pos.line), fun X W h => vs_forK h.po h.calm (h.slot hs) (h.vis hm.1) (okNm1 hm.2) (okNm2 hm.2) ho (g.ok X W (h.setMd _)) (b.ok X W (h.setMd _)) (fold_none rfl)⟩
              else if hp : (mdAt C.md i0).dp = 2 then some ⟨dForK i0 g.gd b.f (C.kl pos.line), fun X W h => vs_forD h.po h.calm (h.slot hs) (h.vis hm.1) (okNm1 hm.2) (okNm2 hm.2) hp (g.ok X W (h.setMd _)) (b.ok X W (h.setMd _)) (fold_none rfl)⟩
              else none) else none
          | _, _ => none) else (match cTg C (mdAt C.md i0).nw tg, cBlock q C fr body with
          | some g, some b => if hm : (mdAt C.md i0).own = true ∧ isVis (lk C x0) = true ∧ okNm x0 = true then some ⟨dForC i0 g.gd b.f (C.kl pos.line), fun X W h => vs_forC h.po h.calm (h.slot hs) (h.vis hm.2.1) (okNm1 hm.2.2) (okNm2 hm.2.2) hm.1 (g.ok X W h) (b.ok X W h) (fold_none rfl)⟩ else none
          | _, _ => none)
        | none => none)
      | _ => none))
  | .Try body [.ExceptHandler (some (.Name hx np)) (some nm) [.Assign [.Name x px] e spos] pos'] [] [] pos => (match findX C hx, hn : slot C nm, hi : slot C x with
    | some ⟨E, hm, hE⟩, some n, some i => (match uExp C n e, cBlock q C.noTr fr body with
      | some u, some b => if hc : (isGl (lk C hx) = true ∧ okNm hx = true) ∧ isLocal (lk C nm) = true ∧ (isLoc (lk C x) = true ∧ (C.fn x || isLocal (lk C x)) = true) ∧ n ≠ i ∧ (u.fl.all fun f => E.ps.contains f) = true ∧ C.tr = true ∧ (mdAt C.md n).own = false ∧ (mdAt C.md i).dp = 0 then
          some ⟨dTryE E b.f n i u.tp u.fl, fun X W h => by
            subst hE
            obtain ⟨⟨c1, c2⟩, c3, ⟨c4, c5⟩, c6, c7, c8, c9, c10⟩ := hc
            obtain ⟨j, hr, hA⟩ := h.exAt C hm
            obtain ⟨s1, s2⟩ := h.tr c8
            have hfl : ∀ f ∈ u.fl, f ∈ E.ps := fun f hf => by simpa using List.all_eq_true.mp c7 f hf
            exact vs_tryE s1 s2 h.nodup (h.slot hn) (h.local c3) (h.slot hi) (h.loc c4) (h.stores c5) c6 hA (h.gl c1) (okNm1 c2) h.tk (fun W' pn xe tk po => b.ok _ _ (h.noTr tk po)) (fun D a oe cls d pn xf hno hz hd => u.pe X W h D a oe cls d pn xf (fun f hf => hno f (hfl f hf)) hz hd) (fun C a cls dd σ H ffs fs d Q a1 a2 a3 a4 a5 a6 => u.rd X.K C a cls dd σ H ffs fs d Q a1 a2 a3 a4 a5 a6) (fun env => u.sw _ _ env) c9 c10⟩ else none
      | _, _ => none)
    | _, _, _ => none)
  | .Return (some e) pos => cRet r C fr e pos
  | .Return none pos => some ⟨fun _ => .rt .non, fun X W h => vs_retN⟩
  | .Pass pos => some ⟨dNext, fun X W h => vs_pass⟩
  | .Break pos => some ⟨dBreak, fun X W h => vs_break⟩
  | .Continue pos => some ⟨dCont, fun X W h => vs_cont⟩
  | .Raise (some (.Call (.Name x p) es [] pos)) none pos2 => (match cRaise r C fr x p es pos pos2 with
    | some v => some v
    | none => some ⟨dNever, fun X W h => vs_never⟩)
  | .Raise a b pos => some ⟨dNever, fun X W h => vs_never⟩
  | _ => none
def mkRecS (r : Rec) : Nat → RecS
  | 0 => ⟨fun _ _ _ => none⟩
  | n + 1 => ⟨fun C fr s => stepS r (mkRecS r n) C fr s⟩

/-! ### a def -/
/-- the things of a def that the reader is told -/
structure DefC where
  name : Str
  N : List Str
  ps : List Str
  md : Mds
  fr : Bool
  kl : Nat → List Nat
  pl : Nat → Bool
  dt : Bool
  exs : List ExEnt := []
def DefC.cfg (d : DefC) (st : Stmt) (k : Nat) (blts : List Str) (fns : List FEnt) (cons : List (Str × D)) : Cfg :=
  { N := d.N, sc := defScope st, fn := fun _ => true, dt := d.dt, kl := d.kl, pl := d.pl, k := k, blts := blts, fns := fns, cons := cons, md := d.md, exs := d.exs, tr := true }
def scopeOk (N ps : List Str) (sc : Scope) : Bool := (match sc.kind with | .function => true | _ => false) && !sc.isCoroutine && !sc.isGenerator && decide N.Nodup && decide (N.take ps.length = ps) &&
  (ps.all fun x => decide (sc.names.lookup x = some .local) || decide (sc.names.lookup x = some .cell)) && (sc.names.all fun y => decide (y.2 ≠ .free))
theorem scope_ok {N ps : List Str} {sc : Scope} (h : scopeOk N ps sc = true) : FnScope N ps sc := by
  unfold scopeOk at h
  simp only [Bool.and_eq_true, List.all_eq_true, decide_eq_true_eq, Bool.or_eq_true, Bool.not_eq_true'] at h
  obtain ⟨⟨⟨⟨⟨⟨h1, h2⟩, h3⟩, h4⟩, h5⟩, h6⟩, h7⟩ := h
  refine ⟨?_, h2, h3, h4, h5, h6, h7⟩
  split at h1
  · assumption
  · cases h1
def mdOk (md : Mds) : Bool := (md.all fun m => !m.own || decide (m.dp = 0)) && (List.range md.length).all fun i => (List.range md.length).all fun j => decide ((mdAt md i).dp = 0) || (decide ((mdAt md j).dp = 0) || decide (i = j))
theorem mdAt_out {md : Mds} {i : Nat} (h : md.length ≤ i) : mdAt md i = {} := by
  unfold mdAt
  rw [List.getElem?_eq_none h]
  rfl
theorem md_ok {md : Mds} (h : mdOk md = true) : MdOk md := by
  unfold mdOk at h
  rw [Bool.and_eq_true] at h
  obtain ⟨h1, h2⟩ := h
  refine ⟨fun i ho => ?_, fun i j hi hj => ?_⟩
  · by_cases hl : i < md.length
    · have h3 := List.all_eq_true.mp h1 _ (List.getElem_mem hl)
      have e : mdAt md i = md[i] := by
        unfold mdAt
        rw [List.getElem?_eq_getElem hl]
        rfl
      rw [e] at ho ⊢
      rw [ho] at h3
      simpa using h3
    · rw [mdAt_out (by omega)]
  · have li : i < md.length := by
      apply Classical.byContradiction
      intro z
      rw [mdAt_out (by omega)] at hi
      exact hi rfl
    have lj : j < md.length := by
      apply Classical.byContradiction
      intro z
      rw [mdAt_out (by omega)] at hj
      exact hj rfl
    have h3 := List.all_eq_true.mp (List.all_eq_true.mp h2 i (List.mem_range.mpr li)) j (List.mem_range.mpr lj)
    simp only [Bool.or_eq_true, decide_eq_true_eq] at h3
    rcases h3 with h3 | h3 | h3
    · exact absurd h3 hi
    · exact absurd h3 hj
    · exact h3
def parOk (ps : List Str) (md : Mds) : Bool := (List.range ps.length).all fun i => !(mdAt md i).own && (!(mdAt md i).nw && decide ((mdAt md i).dp = 0))
theorem par_ok {ps : List Str} {md : Mds} (h : parOk ps md = true) : ∀ i, i < ps.length → mdAt md i = {} := fun i hi => by
  unfold parOk at h
  have := List.all_eq_true.mp h i (List.mem_range.mpr hi)
  rw [Bool.and_eq_true, Bool.and_eq_true] at this
  obtain ⟨a, b, c⟩ := this
  cases e : mdAt md i with
  | mk o w p =>
    rw [e] at a b c
    simp only [Bool.not_eq_true', decide_eq_true_eq] at a b c
    rw [a, b, c]
/-- the head of a def's reading fits its text -/
def headOk (d : DefC) (st : Stmt) : Bool := scopeOk d.N d.ps (defScope st) && (parOk d.ps d.md && (decide (d.ps.length ≤ d.N.length) && mdOk d.md))
def readDef (n m : Nat) (d : DefC) (st : Stmt) (k : Nat) (blts : List Str) (fns : List FEnt) (cons : List (Str × D)) : Option (RSs (d.cfg st k blts fns cons) d.fr (defBody st)) :=
  cBlock (mkRecS (mkRec n) m) (d.cfg st k blts fns cons) d.fr (defBody st)
def DefC.ent (d : DefC) (den : DS) : FEnt := ⟨d.name, d.ps.length, d.fr, runF d.N.length den⟩
/-- what the module gives to all defs -/
structure ModOk (P : Program) (w : World) (K : PySem.W.Frag) (mg : Str → Option Value) (base : Heap) (blts : List Str) (cons : List (Str × D)) : Prop where
  blt : ∀ x, x ∈ blts → mg x = none
  cons : ∀ p, p ∈ cons → ∃ v u, mg p.1 = some u ∧ RelV v u ∧ ∀ H A, Rp K H A v p.2
/-- a def of the module with its meaning -/
structure HasF (P : Program) (w : World) (K : PySem.W.Frag) (mg : Str → Option Value) (base : Heap) (k : Nat) (F : FEnt) : Prop where
  ex : ∃ f fd ps, FnOk P w K mg base (L2.CX P w) k f fd ps (spD K mg F.ar F.fresh F.den) ∧ mg F.name = some (.ref f) ∧ PySem.W.keepIn K (.ref f) = true ∧ Binds K fd ps []
theorem fn_read {P : Program} {w : World} {K : PySem.W.Frag} {mg : Str → Option Value} {base : Heap} {st : Stmt} {x qual : Str} {f : Addr} {fd : FuncData} {d : DefC} {k : Nat} {blts : List Str} {fns : List FEnt} {cons : List (Str × D)}
    (F : Fun K x qual st f fd) (M : ModOk P w K mg base blts cons) (hF : ∀ F, F ∈ fns → HasF P w K mg base k F) (hX : ∀ E, E ∈ d.exs → ∃ j, j + 1 ≤ k ∧ HasX P w K mg base j E) (hh : headOk d st = true) (b : RSs (d.cfg st k blts fns cons) d.fr (defBody st)) :
    FnOk P w K mg base (L2.CX P w) (k + 1) f fd d.ps (spD K mg d.ps.length d.fr (runF d.N.length b.f)) := by
  unfold headOk at hh
  simp only [Bool.and_eq_true, decide_eq_true_eq] at hh
  have S := scope_ok hh.1
  refine fn_ok F S rfl hh.2.2.1 (par_ok hh.2.1) (md_ok hh.2.2.2) fun cdv A outer s H E hr => b.ok _ _ ?_
  exact ⟨rfl, S.nd, rfl, rfl, hr, M.blt, fun F hm => ⟨(hF F hm).ex⟩, fun p hp => ⟨M.cons p hp⟩, takes_of rfl rfl rfl rfl, passes_of rfl, fun _ _ => rfl, S.kind, hX, fun _ => ⟨rfl, rfl⟩⟩
end Dl

/-! Dl13: the head's facts, the defs of the module, the end. -/
namespace Dl
open PySem PySem.Spec PyProof.Rows L2

/-! ### constants of the module -/
def conF : D → Value → Bool
  | .int i, u => (match u with
    | .int j _ => decide (i = j)
    | _ => false)
  | .str x, u => (match u with
    | .str y _ => decide (x = y)
    | _ => false)
  | _, _ => false
def conFs : List D → List Value → Bool
  | [], [] => true
  | d :: ds, u :: us => conF d u && conFs ds us
  | _, _ => false
def conB (K : PySem.W.Frag) (d : D) (u : Value) : Bool := match d with
  | .ktp ds => (match u with
    | .ref a => (match K.lookup a with
      | some ⟨.type c, _, .seq its _, _⟩ => decide (c = "tuple") && (decide (its.size ≤ sizeLine) && conFs ds its.toList)
      | _ => false)
    | _ => false)
  | d => conF d u
section
variable {K : PySem.W.Frag}
theorem conF_ok (d : D) (u : Value) (h : conF d u = true) : ∃ v, RelV v u ∧ ∀ (H : Hp) (A : Pred), Rp K H A v d := by
  unfold conF at h
  split at h
  · next i =>
    split at h
    · next j t => exact ⟨.int i, ⟨t, by rw [of_decide_eq_true h]⟩, fun _ _ => Rp.int.mpr rfl⟩
    · cases h
  · next x =>
    split at h
    · next j t => exact ⟨.str x, ⟨t, by rw [of_decide_eq_true h]⟩, fun _ _ => Rp.str.mpr rfl⟩
    · cases h
  · cases h
theorem conFs_ok : ∀ (ds : List D) (us : List Value), conFs ds us = true → ∃ vs, Vals vs us ∧ ∀ (H : Hp) (A : Pred), Rps K H A vs ds
  | [], [], _ => ⟨[], .nil, fun _ _ => .nil⟩
  | [], _ :: _, h => by cases h
  | _ :: _, [], h => by cases h
  | d :: ds, u :: us, h => by
    have h : (conF d u && conFs ds us) = true := h
    rw [Bool.and_eq_true] at h
    obtain ⟨v, r1, p1⟩ := conF_ok (K := K) d u h.1
    obtain ⟨vs, r2, p2⟩ := conFs_ok ds us h.2
    exact ⟨v :: vs, .cons r1 r2, fun H A => .cons (p1 H A) (p2 H A)⟩
theorem conB_ok (d : D) (u : Value) (h : conB K d u = true) : ∃ v, RelV v u ∧ ∀ (H : Hp) (A : Pred), Rp K H A v d := by
  unfold conB at h
  split at h
  · next ds =>
    split at h
    · next a =>
      split at h
      · next c od its n sl q =>
        simp only [Bool.and_eq_true, decide_eq_true_eq] at h
        obtain ⟨h1, h2, h3⟩ := h
        obtain ⟨vs, rv, rp⟩ := conFs_ok (K := K) ds its.toList h3
        exact ⟨.ref a, rfl, fun H A => Rp.ktp.mpr ⟨a, vs, rfl, .inr ⟨_, its, n, q, congrArg Value.type h1, rfl, h2, rv⟩, rp H A⟩⟩
      · cases h
    · cases h
  · exact conF_ok d u h
end
def conOk (K : PySem.W.Frag) (p : Str × D) : Bool := match PySem.W.nsIn K mainGlobals p.1 with
  | some (some u) => conB K p.2 u
  | _ => false

/-! ### own exceptions of the module -/
structure XEnt where
  E : ExEnt
  self : Str
  fs : List Str
  qual : Str
  st : Stmt
def oexB (K : PySem.W.Frag) (C : Addr) : Bool := (match K.lookup C with
  | some ⟨.type "type", _, .cls cd, sl⟩ => (match cd.mro, sl.toList with
    | .ref C' :: bm, [_, _, _, _, some (.builtin n), _] => C' == C && n == "ValueError.__new__" && !cd.hasDel && cd.hasDict && PySem.HandSPX.refsVE bm
    | _, _ => false)
  | _ => false) && (decide (PySem.W.findIn K (.ref C) "__setattr__" = some (some (.builtin "object.__setattr__"))) && (decide (PySem.W.subIn K (.ref C) (.type "BaseException") = some true) && (decide (PySem.W.typeIn K (.ref C) = some (.type "type")) && PySem.W.keepIn K (.ref C))))
theorem oexB_ok {K : PySem.W.Frag} {C : Addr} (h : oexB K C = true) : OexC K C := by
  unfold oexB at h
  rw [Bool.and_eq_true, Bool.and_eq_true, Bool.and_eq_true, Bool.and_eq_true, decide_eq_true_eq, decide_eq_true_eq, decide_eq_true_eq] at h
  obtain ⟨q, h1, h2, h3, h4⟩ := h
  refine ⟨?_, h1, h2, h3, h4⟩
  split at q
  · rename_i dd cd sl ho
    split at q
    · rename_i C' bm k0 k1 k2 k3 n k5 hm hs
      simp only [Bool.and_eq_true, beq_iff_eq, Bool.not_eq_true'] at q
      obtain ⟨⟨⟨⟨rfl, rfl⟩, hdel⟩, hdct⟩, hv⟩ := q
      obtain ⟨nm, bs, mro, ns, qn, hd, sn, sub, ab, col, del⟩ := cd
      dsimp only at hm hdel hdct
      subst hm hdel hdct
      have hsl : sl = #[k0, k1, k2, k3, some (.builtin "ValueError.__new__"), k5] := by
        obtain ⟨l⟩ := sl
        simp only at hs
        rw [hs]
      subst hsl
      exact ⟨nm, qn, ns, bs, bm, sn, sub, ab, col, dd, k0, k1, k2, k3, k5, ho, hv⟩
    · cases q
  · cases q
def exB (K : PySem.W.Frag) (x : XEnt) : Bool := oexB K (He.ga K x.E.name) && (decide (PySem.W.findIn K (.ref (He.ga K x.E.name)) "__init__" = some (some (.ref (He.ma K (He.ga K x.E.name) "__init__")))) && (decide (PySem.W.typeIn K (.ref (He.ma K (He.ga K x.E.name) "__init__")) = some (.type "function")) &&
  (xfB K (He.ga K x.E.name) && ((x.fs.all fun f => decide (PySem.W.findIn K (.ref (He.ga K x.E.name)) f = some none)) && decide (PySem.W.exmOne K (.ref (He.ga K x.E.name)) (.ref (He.ga K x.E.name)) = some true)))))

/-! ### the Hook -/
abbrev AlM : Type := Bool × He.AlD
def obsM (cs : List (Str × D)) (xs : List XEnt) (fa : List He.Fa) (fn : List He.DefD) (K : PySem.W.Frag) : AlM := (cs.all (conOk K) && xs.all (exB K), He.obsD fa fn K)
def valM (fn : List He.DefD) : AlM := (true, He.valD fn)
def SaysM (cs : List (Str × D)) (xs : List XEnt) (fa : List He.Fa) (fn : List He.DefD) (K : PySem.W.Frag) : Prop := obsM cs xs fa fn K = valM fn
def obsMG (n : Nat) (cs : List (Str × D)) (xs : List XEnt) (fa : List He.Fa) (fn : List He.DefD) (g : Addr → Option Obj) : AlM := obsM cs xs fa fn (He.frG g (He.asD g n))
def hookM (n : Nat) (cs : List (Str × D)) (xs : List XEnt) (fa : List He.Fa) (fn : List He.DefD) : PySem.W.Hook where
  α := AlM
  obs := fun s => obsMG n cs xs fa fn s.heap.get?
  val := fun _ => valM fn
  says := fun _ h => ∃ K : PySem.W.Frag, K.In h ∧ SaysM cs xs fa fn K
  of := fun _ _ e => ⟨_, He.frG_in, e⟩
  keeps := fun _ _ _ ⟨K, hK, c⟩ k => ⟨K, PySem.W.Frag.In.keeps hK k, c⟩
theorem obsMG_eq {n : Nat} {cs : List (Str × D)} {xs : List XEnt} {fa : List He.Fa} {fn : List He.DefD} {g : Addr → Option Obj} {s : Shared} (h : ∀ a, g a = s.heap.get? a) : obsMG n cs xs fa fn g = (hookM n cs xs fa fn).obs s := by
  have e : g = s.heap.get? := funext h
  rw [e] <;> rfl
theorem SaysM.d {cs : List (Str × D)} {xs : List XEnt} {fa : List He.Fa} {fn : List He.DefD} {K : PySem.W.Frag} (c : SaysM cs xs fa fn K) : He.SaysD fa fn K := congrArg (fun z : AlM => z.2) c
theorem SaysM.con {cs : List (Str × D)} {xs : List XEnt} {fa : List He.Fa} {fn : List He.DefD} {K : PySem.W.Frag} (c : SaysM cs xs fa fn K) : (∀ p, p ∈ cs → conOk K p = true) ∧ ∀ x, x ∈ xs → exB K x = true := by
  have := congrArg (fun z : AlM => z.1) c
  have this : (cs.all (conOk K) && xs.all (exB K)) = true := this
  rw [Bool.and_eq_true] at this
  exact ⟨List.all_eq_true.mp this.1, List.all_eq_true.mp this.2⟩

/-! ### the module's defs -/
def faOf (names blts : List Str) : List He.Fa := names.map He.Fa.glo ++ blts.map He.Fa.free
def ddOf (name : Str) (st : Stmt) : He.DefD := { at_ := (name, none), name := name, qual := name, params := defArgs st, body := defBody st, scope := defScope st }
def dxOf (x : XEnt) : He.DefD := { at_ := (x.E.name, some "__init__"), name := "__init__", qual := x.qual, params := defArgs x.st, body := defBody x.st, scope := defScope x.st }
def fnOfM (defs : List (Str × Stmt)) (xs : List XEnt) : List He.DefD := defs.map (fun p => ddOf p.1 p.2) ++ xs.map dxOf
def nmOfM (defs : List (Str × Stmt)) (xs : List XEnt) : List Str := defs.map (·.1) ++ xs.map (·.E.name)
/-- how the module stands: names with their defs, built-ins, constants, own exceptions -/
structure Mods (defs : List (Str × Stmt)) (blts : List Str) (cons : List (Str × D)) (xs : List XEnt) (K : PySem.W.Frag) (mg : Str → Option Value) (base : Heap) : Prop where
  X : K.In base
  G : base.Ns mainGlobals mg
  c : SaysM cons xs (faOf (nmOfM defs xs) blts) (fnOfM defs xs) K
section
variable {P : Program} {w : World} {K : PySem.W.Frag} {mg : Str → Option Value} {base : Heap} {defs : List (Str × Stmt)} {blts : List Str} {cons : List (Str × D)} {xs : List XEnt}
theorem Mods.mod (T : Mods defs blts cons xs K mg base) : ModOk P w K mg base blts cons := ⟨fun x hx => by
  have : He.Fa.free x ∈ faOf (nmOfM defs xs) blts := List.mem_append_right _ (List.mem_map.mpr ⟨x, hx, rfl⟩)
  obtain ⟨i, hi⟩ := List.getElem?_of_mem this
  exact He.free_ok T.X T.G (T.c.d.fact i (f := .free x) hi), fun p hp => by
  have h := T.c.con.1 p hp
  unfold conOk at h
  split at h
  · next u q =>
    obtain ⟨v, r, rp⟩ := conB_ok p.2 u h
    exact ⟨v, u, PySem.W.mg_of T.X T.G q, r, rp⟩
  · cases h⟩
theorem Mods.glo (T : Mods defs blts cons xs K mg base) {i : Nat} {p : Str × Stmt} (h : defs[i]? = some p) : mg p.1 = some (.ref (He.ga K p.1)) := by
  have : He.Fa.glo p.1 ∈ faOf (nmOfM defs xs) blts := List.mem_append_left _ (List.mem_map.mpr ⟨p.1, List.mem_append_left _ (List.mem_map.mpr ⟨p, List.mem_of_getElem? h, rfl⟩), rfl⟩)
  obtain ⟨j, hj⟩ := List.getElem?_of_mem this
  exact He.glo_ok T.X T.G (T.c.d.fact j (f := .glo p.1) hj)
theorem Mods.fd (T : Mods defs blts cons xs K mg base) {i : Nat} {p : Str × Stmt} (h : defs[i]? = some p) : ∃ fd, L2.FunD K p.1 p.1 (defArgs p.2) (defBody p.2) (defScope p.2) [] [] (He.ga K p.1) fd :=
  T.c.d.def_ i (d := ddOf p.1 p.2) (by
    unfold fnOfM
    have hl : i < defs.length := (List.getElem?_eq_some_iff.mp h).1
    rw [List.getElem?_append_left (by simpa using hl), List.getElem?_map, h]
    rfl)
theorem Mods.gloX (T : Mods defs blts cons xs K mg base) {x : XEnt} (h : x ∈ xs) : mg x.E.name = some (.ref (He.ga K x.E.name)) := by
  have : He.Fa.glo x.E.name ∈ faOf (nmOfM defs xs) blts := List.mem_append_left _ (List.mem_map.mpr ⟨_, List.mem_append_right _ (List.mem_map.mpr ⟨x, h, rfl⟩), rfl⟩)
  obtain ⟨j, hj⟩ := List.getElem?_of_mem this
  exact He.glo_ok T.X T.G (T.c.d.fact j (f := .glo x.E.name) hj)
theorem Mods.fdX (T : Mods defs blts cons xs K mg base) {x : XEnt} (h : x ∈ xs) : ∃ fd, L2.FunD K "__init__" x.qual (defArgs x.st) (defBody x.st) (defScope x.st) [] [] (He.ma K (He.ga K x.E.name) "__init__") fd := by
  have : dxOf x ∈ fnOfM defs xs := List.mem_append_right _ (List.mem_map.mpr ⟨x, h, rfl⟩)
  obtain ⟨j, hj⟩ := List.getElem?_of_mem this
  exact T.c.d.def_ j (d := dxOf x) hj
theorem fun_ofD {x qual : Str} {st : Stmt} {f : Addr} {fd : FuncData} (F : FunD K x qual (defArgs st) (defBody st) (defScope st) [] [] f fd) : Fun K x qual st f fd := by
  obtain ⟨oc, od, dV, kV, doc, pm, an, cdv, ct, osl, rfl, lk, hcd, hD, hK⟩ := F.ex
  rcases hD with ⟨_, rfl⟩ | ⟨e, _⟩
  · exact ⟨⟨oc, od, kV, doc, pm, an, cdv, ct, osl, rfl, lk, hcd⟩, F.kp⟩
  · exact absurd rfl e
def BindsQ (st : Stmt) (x qual : Str) (ps : List Str) : Prop := ∀ (kV doc pm : Value) (an : Option Addr) (cdv ct : Value) (us : List Value), us.length = ps.length → bindArgs (PySem.W.fnOf x qual (defArgs st) (defBody st) (defScope st) .none kV doc pm an cdv ct) ⟨us, []⟩ = pure (ps.zip us)
theorem fun_ofD' {x qual : Str} {st : Stmt} {f : Addr} {fd : FuncData} (F : FunD K x qual (defArgs st) (defBody st) (defScope st) [] [] f fd) : Fun K x qual st f fd := by
  obtain ⟨oc, od, dV, kV, doc, pm, an, cdv, ct, osl, rfl, lk, hcd, hD, hK⟩ := F.ex
  rcases hD with ⟨_, rfl⟩ | ⟨e, _⟩
  · exact ⟨⟨oc, od, kV, doc, pm, an, cdv, ct, osl, rfl, lk, hcd⟩, F.kp⟩
  · exact absurd rfl e
theorem has_x (T : Mods defs blts cons xs K mg base) {x : XEnt} (h : x ∈ xs) (hs : scopeOk (x.self :: x.E.ps) (x.self :: x.E.ps) (defScope x.st) = true) (hb : BindsQ x.st "__init__" x.qual (x.self :: x.E.ps)) (r : RIl (initCfg (x.self :: x.E.ps) x.st 0) (defBody x.st)) (hl : linesOk x.E.ps r.l = true)
    (hn : (r.l.all fun p => x.fs.contains p.1) = true) (hf : (x.E.ps.all fun f => x.fs.contains f) = true) : HasX P w K mg base 1 x.E := by
  have e := T.c.con.2 x h
  unfold exB at e
  rw [Bool.and_eq_true, Bool.and_eq_true, Bool.and_eq_true, Bool.and_eq_true, Bool.and_eq_true, decide_eq_true_eq, decide_eq_true_eq, decide_eq_true_eq, List.all_eq_true] at e
  obtain ⟨e1, e2, e3, e4, e5, e6⟩ := e
  have e5 : ∀ f ∈ x.fs, PySem.W.findIn K (.ref (He.ga K x.E.name)) f = some none := fun f hf => by simpa using e5 f hf
  obtain ⟨fd, F⟩ := T.fdX h
  have F' := fun_ofD' F
  refine ⟨_, _, fd, x.self, T.gloX h, oexB_ok e1, e2, e3, init_ok F' (scope_ok hs) (oexB_ok e1) r hl (fun p hp => e5 _ (by simpa using List.all_eq_true.mp hn p hp)), F'.binds hb, xfB_ok e4, fun f hm => e5 f (by simpa using List.all_eq_true.mp hf f hm), e6⟩
theorem exs_nil {k : Nat} : ∀ E, E ∈ ([] : List ExEnt) → ∃ j, j + 1 ≤ k ∧ HasX P w K mg base j E := fun E h => nomatch h
theorem exs_cons {k : Nat} {E : ExEnt} {es : List ExEnt} (h : HasX P w K mg base 1 E) (l : 2 ≤ k) (t : ∀ F, F ∈ es → ∃ j, j + 1 ≤ k ∧ HasX P w K mg base j F) : ∀ G, G ∈ E :: es → ∃ j, j + 1 ≤ k ∧ HasX P w K mg base j G := fun G m => by
  rcases List.mem_cons.mp m with e | m
  · rw [e]; exact ⟨1, l, h⟩
  · exact t G m
/-- how its arguments bind -/
def BindsEq (st : Stmt) (x : Str) (ps : List Str) : Prop := ∀ (kV doc pm : Value) (an : Option Addr) (cdv ct : Value) (us : List Value), us.length = ps.length → bindArgs (PySem.W.fnOf x x (defArgs st) (defBody st) (defScope st) .none kV doc pm an cdv ct) ⟨us, []⟩ = pure (ps.zip us)
theorem has_of (T : Mods defs blts cons xs K mg base) {i : Nat} {d : DefC} {st : Stmt} (h : defs[i]? = some (d.name, st)) (hb : BindsEq st d.name d.ps) (hh : headOk d st = true) {k : Nat} {fns : List FEnt} (hF : ∀ F, F ∈ fns → HasF P w K mg base k F) (hX : ∀ E, E ∈ d.exs → ∃ j, j + 1 ≤ k ∧ HasX P w K mg base j E)
    (b : RSs (d.cfg st k blts fns cons) d.fr (defBody st)) : HasF P w K mg base (k + 1) (d.ent b.f) := by
  obtain ⟨fd, F⟩ := T.fd h
  exact ⟨He.ga K d.name, fd, d.ps, fn_read (fun_ofD F) T.mod hF hX hh b, T.glo h, F.kp, (fun_ofD F).binds hb⟩
/-- nothing promised: the ground of a recursion -/
theorem has_none (T : Mods defs blts cons xs K mg base) {i : Nat} {p : Str × Stmt} (h : defs[i]? = some p) {ps : List Str} (hb : BindsEq p.2 p.1 ps) {ar : Nat} {fr : Bool} (k : Nat) : HasF P w K mg base k ⟨p.1, ar, fr, fun _ => .bad⟩ := by
  obtain ⟨fd, F⟩ := T.fd h
  refine ⟨He.ga K p.1, fd, ps, ⟨fun vs H Q E z => ?_, fun A outer s H args us vs Q E _ _ _ _ z => ?_⟩, T.glo h, F.kp, (fun_ofD F).binds hb⟩
  · obtain ⟨T, ds, _, _, _, z⟩ := z
    exact z.elim
  · obtain ⟨T, ds, _, _, _, z⟩ := z
    exact z.elim
theorem HasF.mono {j k : Nat} {F : FEnt} (h : HasF P w K mg base j F) (l : j ≤ k) : HasF P w K mg base k F := by
  obtain ⟨f, fd, ps, ok, z⟩ := h.ex
  exact ⟨f, fd, ps, ok.mono l, z⟩
theorem fns_nil {k : Nat} : ∀ F, F ∈ ([] : List FEnt) → HasF P w K mg base k F := fun F h => nomatch h
theorem fns_cons {j k : Nat} {F : FEnt} {fs : List FEnt} (h : HasF P w K mg base j F) (l : j ≤ k) (t : ∀ F, F ∈ fs → HasF P w K mg base k F) : ∀ G, G ∈ F :: fs → HasF P w K mg base k G := fun G m => by
  rcases List.mem_cons.mp m with e | m
  · rw [e]; exact h.mono l
  · exact t G m
end
/-! ### the end -/
def frScript (ns : List Int) : D := .frl (ns.map D.int)
theorem ints_rp {K : PySem.W.Frag} {H : Hp} {A : Pred} : ∀ ns : List Int, Rps K H A (ns.map V.int) (ns.map D.int)
  | [] => .nil
  | n :: ns => .cons (Rp.int.mpr rfl) (ints_rp ns)
theorem script_rp {K : PySem.W.Frag} {H : Hp} {a : Addr} {ns : List Int} (hO : Only H) (hS : SqL K H a (ns.map V.int)) : Rp K H (fun _ => False) (.ref a) (frScript ns) := by
  refine Rp.frl.mpr ⟨a, _, rfl, ?_, ints_rp ns⟩
  rcases hS with (h | h) | h
  · rcases hO a with e | ⟨o, xs, e⟩ <;> rw [e] at h <;> cases h
  · exact .inl h
  · exact .inr h
theorem law_end {l : PySem.W.OpenLaw} {n k m : Nat} {q : Program} {loose : List Str} {XP : (Str → Option Value) → Heap → Prop} {dr : DefRec} {x : Str} {defs : List (Str × Stmt)} {blts : List Str} {cons : List (Str × D)} {xs : List XEnt} {i : Nat} {d : DefC} {st : Stmt} {fns : List FEnt}
    (hn : l.most = some n) (hn2 : n ≤ sizeLine) (hdf : dr.params.defaults = []) (hr : Room (k + 1) callerA) (hname : dr.name = d.name) (hi : defs[i]? = some (d.name, st)) (hps : d.ps = [x]) (hb : BindsEq st d.name d.ps) (hh : headOk d st = true)
    (hF : ∀ (w : World) (K : PySem.W.Frag) (mg : Str → Option Value) (base : Heap), Mods defs blts cons xs K mg base → ∀ F, F ∈ fns → HasF l.prog w K mg base k F) (hX : ∀ (w : World) (K : PySem.W.Frag) (mg : Str → Option Value) (base : Heap), Mods defs blts cons xs K mg base → ∀ E, E ∈ d.exs → ∃ j, j + 1 ≤ k ∧ HasX l.prog w K mg base j E) (b : RSs (d.cfg st k blts fns cons) d.fr (defBody st))
    (hden : ∀ ns : List Int, ns.length ≤ n → runF d.N.length b.f [frScript ns] = .ok (.bl true)) :
    PySem.W.WalkO q loose XP (hookM m cons xs (faOf (nmOfM defs xs) blts) (fnOfM defs xs)).says l.row.toRowW dr [] (fun f vs => PySem.call f vs) := by
  refine Att.attach_call hn hdf fun w s₀ s₁ mg mb fa o pm cd doc a vs ns G Y ho hd hcd hmg hobj hints hlen hg => ?_
  obtain ⟨K, KX, c⟩ := Y
  have T0 : Mods defs blts cons xs K mg _ := ⟨KX, G.T.g, c⟩
  obtain ⟨fd, F⟩ := T0.fd hi
  have e := hmg.symm.trans ((congrArg mg hname).trans (T0.glo hi))
  cases e
  have e1 : d.ps.length = 1 := by rw [hps]; rfl
  refine law_call (x := x) (fd := fd) (k := k + 1) (sp := spD K mg d.ps.length d.fr (runF d.N.length b.f)) (CX := L2.CX l.prog w) KX G.T.g G.T.b G.T.builtins G.T.nolimit hg hobj hints (Nat.le_trans hlen hn2) hr
    (fun base Kb Gb => ?_) (fun s u => ?_) (fun H hO hS => ?_) (fun H e s' h => ?_)
  · have T1 : Mods defs blts cons xs K mg base := ⟨Kb, Gb, c⟩
    rw [← hps]
    exact fn_read (fun_ofD F) T1.mod (hF w K mg base T1) (hX w K mg base T1) hh b
  · have := FunD.bindsA (ps := d.ps) F hb s [u] (by rw [hps]; rfl)
    rw [hps] at this
    exact this
  · refine ⟨fun _ => False, [frScript ns], fun _ z => z.elim, .cons (script_rp hO hS) .nil, by rw [e1]; rfl, ?_⟩
    rw [hden ns hlen]
    intro v H' s r
    generalize d.fr = fr at r
    cases fr with
    | true => exact Rp.bl.mp (show Rp K H' (fun a => ∃ o, H' a = some o) v (.bl true) from Rp.imm _ _ (show Rp K H' (fun a => ∃ o, H a = some o) v (.bl true) from r) rfl)
    | false => exact Rp.bl.mp (show Rp K H' (fun _ => False) v (.bl true) from r)
  · obtain ⟨_, _, _, _, _, _, _, _, _, _, _, _, z⟩ := h
    exact z
end Dl

/-! Dl14: meanings reckoned: rules for simp, loops, comprehensions. -/
namespace Dl
open PySem PySem.Spec PyProof.Rows L2

/-! ### outcomes -/
section
variable {α β : Type} {env : DEnv}
@[simp] theorem bind_ok {a : α} {k : α → RG β} : (RG.ok a).bind k = k a := (rfl)
@[simp] theorem bind_bad {k : α → RG β} : (RG.bad : RG α).bind k = .bad := (rfl)
@[simp] theorem bind_exc {c : Str} {fs : Fields} {k : α → RG β} : (RG.exc c fs : RG α).bind k = .exc c fs := (rfl)
@[simp] theorem bind_ite {p : Prop} [Decidable p] {a b : RG α} {k : α → RG β} : (if p then a else b).bind k = if p then a.bind k else b.bind k := by split <;> rfl
@[simp] theorem ofO_some {a : α} : RG.ofO (some a) = .ok a := (rfl)
@[simp] theorem ofO_none : RG.ofO (none : Option α) = .bad := (rfl)
@[simp] theorem ofO_ite {p : Prop} [Decidable p] {a b : Option α} : RG.ofO (if p then a else b) = if p then RG.ofO a else RG.ofO b := by split <;> rfl
@[simp] theorem out_ok {a : α} {k : α → Out} : (RG.ok a).out env k = k a := (rfl)
@[simp] theorem out_bad {k : α → Out} : (RG.bad : RG α).out env k = .bad := (rfl)
@[simp] theorem out_exc {c : Str} {fs : Fields} {k : α → Out} : (RG.exc c fs : RG α).out env k = .exc c fs env := (rfl)
@[simp] theorem out_ite {p : Prop} [Decidable p] {a b : RG α} {k : α → Out} : (if p then a else b).out env k = if p then a.out env k else b.out env k := by split <;> rfl
def seqO (o : Out) (k : DEnv → Out) : Out := match o with
  | .nx e => k e
  | o => o
@[simp] theorem seqO_nx {e : DEnv} {k : DEnv → Out} : seqO (.nx e) k = k e := (rfl)
@[simp] theorem seqO_rt {d : D} {k : DEnv → Out} : seqO (.rt d) k = .rt d := (rfl)
@[simp] theorem seqO_bk {e : DEnv} {k : DEnv → Out} : seqO (.bk e) k = .bk e := (rfl)
@[simp] theorem seqO_ct {e : DEnv} {k : DEnv → Out} : seqO (.ct e) k = .ct e := (rfl)
@[simp] theorem seqO_bad {k : DEnv → Out} : seqO .bad k = .bad := (rfl)
@[simp] theorem seqO_exc {c : Str} {fs : Fields} {e : DEnv} {k : DEnv → Out} : seqO (.exc c fs e) k = .exc c fs e := (rfl)
@[simp] theorem seqO_ite {p : Prop} [Decidable p] {a b : Out} {k : DEnv → Out} : seqO (if p then a else b) k = if p then seqO a k else seqO b k := by split <;> rfl
@[simp] theorem dSeq_eq {f g : DS} : dSeq f g env = seqO (f env) g := by
  unfold dSeq seqO
  cases f env <;> rfl
def retO (o : Out) : RG D := match o with
  | .nx _ => .ok .non
  | .rt d => .ok d
  | .exc c fs _ => .exc c fs
  | _ => .bad
@[simp] theorem retO_nx {e : DEnv} : retO (.nx e) = .ok .non := (rfl)
@[simp] theorem retO_rt {d : D} : retO (.rt d) = .ok d := (rfl)
@[simp] theorem retO_exc {c : Str} {fs : Fields} {e : DEnv} : retO (.exc c fs e) = .exc c fs := (rfl)
@[simp] theorem retO_ite {p : Prop} [Decidable p] {a b : Out} : retO (if p then a else b) = if p then retO a else retO b := by split <;> rfl
theorem runF_eq {n : Nat} {f : DS} {ds : List D} : runF n f ds = retO (f (ds.map some ++ List.replicate (n - ds.length) none)) := by
  unfold runF retO
  cases f (ds.map some ++ List.replicate (n - ds.length) none) <;> rfl
/-- by a truth -/
def selB {γ : Type} (d : D) (a b c : γ) : γ := match d with
  | .bl true => a
  | .bl false => b
  | _ => c
@[simp] theorem selB_bl {γ : Type} {x : Bool} {a b c : γ} : selB (.bl x) a b c = if x = true then a else b := by cases x <;> rfl
@[simp high] theorem selB_and {x y : Bool} : selB (.bl x) (RG.ok (D.bl y)) (RG.ok (D.bl false)) RG.bad = RG.ok (D.bl (x && y)) := by cases x <;> rfl
@[simp high] theorem selB_or {x y : Bool} : selB (.bl x) (RG.ok (D.bl true)) (RG.ok (D.bl y)) RG.bad = RG.ok (D.bl (x || y)) := by cases x <;> rfl
@[simp] theorem dIfS_eq {c : DX} {f g : DS} : dIfS c f g env = (c env).out env fun d => selB d (f env) (g env) .bad := by
  unfold dIfS selB
  first
    | rfl
    | (congr 1; done)
    | (congr 1; funext d; cases d with
      | bl b => cases b <;> rfl
      | _ => rfl)
@[simp] theorem dAnd_eq {a b : DX} : dAnd a b env = (a env).bind fun d => selB d (b env) (.ok (.bl false)) .bad := by
  unfold dAnd selB
  first
    | rfl
    | (congr 1; done)
    | (congr 1; funext d; cases d with
      | bl b => cases b <;> rfl
      | _ => rfl)
@[simp] theorem dOr_eq {a b : DX} : dOr a b env = (a env).bind fun d => selB d (.ok (.bl true)) (b env) .bad := by
  unfold dOr selB
  first
    | rfl
    | (congr 1; done)
    | (congr 1; funext d; cases d with
      | bl b => cases b <;> rfl
      | _ => rfl)
@[simp] theorem dIf_eq {c a b : DX} : dIf c a b env = (c env).bind fun d => selB d (a env) (b env) .bad := by
  unfold dIf selB
  first
    | rfl
    | (congr 1; done)
    | (congr 1; funext d; cases d with
      | bl b => cases b <;> rfl
      | _ => rfl)
/-! ### the simple meanings -/
def getV (o : Option (Option D)) : RG D := match o with
  | some (some d) => .ok d
  | _ => .bad
@[simp] theorem getV_some {d : D} : getV (some (some d)) = .ok d := (rfl)
@[simp] theorem dVar_eq {i : Nat} : dVar i env = getV (env[i]?) := by
  unfold dVar getV
  cases env[i]? with
  | none => rfl
  | some o => cases o <;> rfl
@[simp] theorem dC_eq {d : D} : dC d env = .ok d := (rfl)
@[simp] theorem dBin_eq {g : D → D → Option D} {a b : DX} : dBin g a b env = (a env).bind fun x => (b env).bind fun y => .ofO (g x y) := (rfl)
@[simp] theorem dUn_eq {g : D → Option D} {a : DX} : dUn g a env = (a env).bind fun x => .ofO (g x) := (rfl)
def notB : D → RG D
  | .bl b => .ok (.bl (!b))
  | _ => .bad
@[simp] theorem notB_bl {b : Bool} : notB (.bl b) = .ok (.bl (!b)) := (rfl)
@[simp] theorem dNot_eq {a : DX} : dNot a env = (a env).bind notB := by
  unfold dNot
  first
    | rfl
    | (congr 1; done)
    | (congr 1; funext d; cases d <;> rfl)
@[simp] theorem dNil_eq : dNil env = .ok [] := (rfl)
@[simp] theorem dCons_eq {f : DX} {fs : DXs} : dCons f fs env = (f env).bind fun x => (fs env).bind fun xs => .ok (x :: xs) := (rfl)
@[simp] theorem dTup_eq {fs : DXs} : dTup fs env = (fs env).bind fun ds => if ds.length ≤ sizeLine then .ok (.tup ds) else .bad := (rfl)
@[simp] theorem dLst_eq {fs : DXs} : dLst fs env = (fs env).bind fun ds => if ds.length ≤ sizeLine then .ok (.lst ds) else .bad := (rfl)
@[simp] theorem dImm_eq {f : DX} : dImm f env = (f env).bind fun d => if imm d then .ok d else .bad := (rfl)
@[simp] theorem dImmL_eq {f : DX} : dImmL f env = (f env).bind fun d => if immL d then .ok d else .bad := (rfl)
@[simp] theorem dDict_eq {ks : List Str} {fs : DXs} : dDict ks fs env = (fs env).bind fun ws => if ws.all isIntD && decide (ws.length = ks.length) then .ok (.dic false (ks.map D.str) ws) else .bad := (rfl)
@[simp] theorem isIntD_int {i : Int} : isIntD (.int i) = true := (rfl)
@[simp] theorem dDictOf_eq {fs : DXs} : dDictOf fs env = (fs env).bind (oneO gDictL) := (rfl)
@[simp] theorem gDictL_lst {ds : List D} : gDictL (.lst ds) = (pairsK ds).map fun ps => .dic true (dictK ps ([], [])).1 (dictK ps ([], [])).2 := (rfl)
@[simp] theorem dRevL_eq {f : DX} : dRevL f env = (f env).bind fun x => .ofO (gRevL x) := (rfl)
@[simp] theorem gRevL_lst {ds : List D} : gRevL (.lst ds) = some (.lst ds.reverse) := (rfl)
@[simp] theorem dCall_eq {g : DF'} {fs : DXs} : dCall g fs env = (fs env).bind g := (rfl)
@[simp] theorem dCallF_eq {g : DF'} {fs : DXs} : dCallF g fs env = (fs env).bind fun ds => (g ds).bind onlyL := (rfl)
@[simp] theorem dDict1_eq {fk fv : DX} : dDict1 fk fv env = (fk env).bind fun k => (fv env).bind fun v => if keyFits true k && imm v then .ok (.dic true [k] [v]) else .bad := (rfl)
@[simp] theorem endK_nx {i : Nat} {e : DEnv} : endK i (.nx e) = .nx (e.set i none) := (rfl)
@[simp] theorem endK_rt {i : Nat} {d : D} : endK i (.rt d) = .rt d := (rfl)
theorem dForK_eq {i : Nat} {gd : D → DEnv → Option DEnv} {body : DS} {ks : List Nat} {t : Bool} {keys ws : List D} (h : env[i]? = some (some (.dic t keys ws))) : dForK i gd body ks env = endK i (forGo gd body ks keys env) := by
  unfold dForK
  rw [h]
@[simp] theorem dCallA_eq {g : DF'} {fs : DXs} : dCallA g fs env = (fs env).bind fun ds => (g ds).bind anyL := (rfl)
@[simp] theorem anyL_lst {ds : List D} : anyL (.lst ds) = .ok (.lst ds) := (rfl)
@[simp] theorem anyL_dic {t : Bool} {ks ws : List D} : anyL (.dic t ks ws) = .ok (.dic t ks ws) := (rfl)
@[simp] theorem anyL_tup {ds : List D} : anyL (.tup ds) = if imm (.tup ds) then .ok (.tup ds) else .bad := (rfl)
@[simp] theorem anyL_non : anyL .non = .ok .non := (rfl)
@[simp] theorem anyL_int {i : Int} : anyL (.int i) = .ok (.int i) := (rfl)
@[simp] theorem anyL_bl {b : Bool} : anyL (.bl b) = .ok (.bl b) := (rfl)
@[simp] theorem anyL_str {s : Str} : anyL (.str s) = .ok (.str s) := (rfl)
@[simp] theorem onlyL_lst {ds : List D} : onlyL (.lst ds) = .ok (.lst ds) := (rfl)
@[simp] theorem onlyL_dic {t : Bool} {ks ws : List D} : onlyL (.dic t ks ws) = .ok (.dic t ks ws) := (rfl)
@[simp] theorem dCallO_eq {g : List D → Option D} {fs : DXs} : dCallO g fs env = (fs env).bind fun ds => .ofO (g ds) := (rfl)
def lstO (o : Option (List D)) : RG D := match o with
  | some xs => .ok (.lst xs)
  | none => .bad
@[simp] theorem lstO_some {xs : List D} : lstO (some xs) = .ok (.lst xs) := (rfl)
def oneL (ds : List D) : RG D := match ds with
  | [d] => lstO (gList d)
  | _ => .bad
@[simp] theorem oneL_one {d : D} : oneL [d] = lstO (gList d) := (rfl)
@[simp] theorem dListOf_eq {fs : DXs} : dListOf fs env = (fs env).bind oneL := by
  unfold dListOf
  cases fs env with
  | ok ds =>
    match ds with
    | [] => rfl
    | [d] => show (match gList d with | some xs => RG.ok (D.lst xs) | none => RG.bad) = lstO (gList d); cases gList d <;> rfl
    | _ :: _ :: _ => rfl
  | exc c f => rfl
  | bad => rfl
@[simp] theorem dItems_eq {f : DX} : dItems f env = (f env).bind fun d => .ofO (itemsD d) := (rfl)
@[simp] theorem dIsT_eq {t : TyN} {f : DX} : dIsT t f env = (f env).bind fun d => .ofO (gIsT t d) := (rfl)
@[simp] theorem dNo_eq : dNo env = .ok none := (rfl)
def intO (d : D) : RG (Option Int) := match d with
  | .int i => .ok (some i)
  | _ => .bad
@[simp] theorem intO_int {i : Int} : intO (.int i) = .ok (some i) := (rfl)
@[simp] theorem dPart_eq {f : DX} : dPart f env = (f env).bind intO := by
  unfold dPart
  first
    | rfl
    | (congr 1; done)
    | (congr 1; funext d; cases d <;> rfl)
@[simp] theorem dSl_eq {f : DX} {l h : DEnv → RG (Option Int)} : dSl f l h env = (f env).bind fun x => (l env).bind fun i => (h env).bind fun j => .ofO (gSl x i j) := (rfl)
@[simp] theorem dSlL_eq {f : DX} {l h : DEnv → RG (Option Int)} : dSlL f l h env = (f env).bind fun x => (l env).bind fun i => (h env).bind fun j => .ofO (gSlL x i j) := (rfl)
@[simp] theorem dNext_eq : dNext env = .nx env := (rfl)
@[simp] theorem dBreak_eq : dBreak env = .bk env := (rfl)
@[simp] theorem dCont_eq : dCont env = .ct env := (rfl)
@[simp] theorem dNever_eq : dNever env = .bad := (rfl)
@[simp] theorem dDrop_eq {f : DX} : dDrop f env = (f env).out env fun _ => .nx env := (rfl)
@[simp] theorem dSet_eq {i : Nat} {f : DX} : dSet i f env = (f env).out env fun d => .nx (env.set i (some d)) := (rfl)
@[simp] theorem dParL_eq {is : List Nat} {fs : DXs} : dParL is fs env = (fs env).out env fun ds => if ds.length = is.length then .nx ((is.zip ds).foldl (fun e p => e.set p.1 (some p.2)) env) else .bad := (rfl)
@[simp] theorem dRet_eq {f : DX} : dRet f env = (f env).out env fun d => .rt d := (rfl)
@[simp] theorem dRetV_eq {f : DX} : dRetV f env = (f env).out env fun d => if isLD d then .bad else .rt d := (rfl)
def nxO (o : Option DEnv) : Out := match o with
  | some e => .nx e
  | none => .bad
@[simp] theorem nxO_some {e : DEnv} : nxO (some e) = .nx e := (rfl)
@[simp] theorem dUnp_eq {gd : D → DEnv → Option DEnv} {f : DX} : dUnp gd f env = (f env).out env fun d => nxO (gd d env) := by
  unfold dUnp nxO
  first
    | rfl
    | (congr 1; done)
    | (congr 1; funext d; cases gd d env <;> rfl)
@[simp] theorem gdName_eq {i : Nat} {d : D} : gdName i d env = some (env.set i (some d)) := (rfl)
@[simp] theorem gdNil_eq : gdNil [] env = some env := (rfl)
@[simp] theorem gdCons_eq {g : D → DEnv → Option DEnv} {gs : List D → DEnv → Option DEnv} {d : D} {r : List D} : gdCons g gs (d :: r) env = (g d env).bind (gs r) := (rfl)
@[simp] theorem gdTup_tup {n : Nat} {gs : List D → DEnv → Option DEnv} {ds : List D} : gdTup n gs (.tup ds) env = if ds.length = n then gs ds env else none := (rfl)
@[simp] theorem gdTup_lst {n : Nat} {gs : List D → DEnv → Option DEnv} {ds : List D} : gdTup n gs (.lst ds) env = if ds.length = n then gs ds env else none := (rfl)
@[simp] theorem gdTup_ktp {n : Nat} {gs : List D → DEnv → Option DEnv} {ds : List D} : gdTup n gs (.ktp ds) env = if ds.length = n then gs ds env else none := (rfl)
def appO (i : Nat) (env : DEnv) (o : Option (Option D)) (d : D) : Out := match o with
  | some (some (.lst ds)) => if ds.length < sizeLine then .nx (env.set i (some (.lst (ds ++ [d])))) else .bad
  | _ => .bad
@[simp] theorem appO_lst {i : Nat} {ds : List D} {d : D} : appO i env (some (some (.lst ds))) d = if ds.length < sizeLine then .nx (env.set i (some (.lst (ds ++ [d])))) else .bad := (rfl)
theorem dApp_eq {i : Nat} {f : DX} {ds : List D} {d : D} (h : env[i]? = some (some (.lst ds))) (hf : f env = .ok d) (hz : ds.length < sizeLine) : dApp i f env = .nx (env.set i (some (.lst (ds ++ [d])))) := by
  unfold dApp
  rw [h, hf]
  show (if ds.length < sizeLine then _ else _) = _
  rw [if_pos hz]
def putO (i : Nat) (env : DEnv) (o : Option D) : Out := match o with
  | some d => .nx (env.set i (some d))
  | none => .bad
@[simp] theorem putO_some {i : Nat} {d : D} : putO i env (some d) = .nx (env.set i (some d)) := (rfl)
theorem dPut_eq {i : Nat} {fk f : DX} {d k w d' : D} (h : env[i]? = some (some d)) (hf : f env = .ok w) (hk : fk env = .ok k) (hp : putD d k w = some d') : dPut i fk f env = .nx (env.set i (some d')) := by
  unfold dPut
  rw [hf, h, hk]
  show (match putD d k w with | some d' => _ | none => _) = _
  rw [hp]
theorem dMove_eq {i j : Nat} {d : D} (h : env[j]? = some (some d)) (hl : isLD d = true) : dMove i j env = .nx ((env.set j none).set i (some d)) := by
  unfold dMove
  rw [h]
  show (if isLD d = true then _ else _) = _
  rw [if_pos hl]
def lstSel (o : Option (Option D)) (k : List D → Out) : Out := match o with
  | some (some (.lst ds)) => k ds
  | _ => .bad
@[simp] theorem lstSel_lst {ds : List D} {k : List D → Out} : lstSel (some (some (.lst ds))) k = k ds := (rfl)
@[simp] theorem dApp_simp {i : Nat} {f : DX} : dApp i f env = lstSel (env[i]?) fun ds => (f env).out env fun d => if ds.length < sizeLine then .nx (env.set i (some (.lst (ds ++ [d])))) else .bad := by
  unfold dApp lstSel
  cases env[i]? with
  | none => rfl
  | some o =>
    cases o with
    | none => rfl
    | some d => cases d <;> rfl
def getSel (o : Option (Option D)) (k : D → Out) : Out := match o with
  | some (some d) => k d
  | _ => .bad
@[simp] theorem getSel_some {d : D} {k : D → Out} : getSel (some (some d)) k = k d := (rfl)
@[simp] theorem dPut_simp {i : Nat} {fk f : DX} : dPut i fk f env = (f env).out env fun w => getSel (env[i]?) fun d => (fk env).out env fun k => putO i env (putD d k w) := by
  unfold dPut
  cases f env with
  | exc c fs => rfl
  | bad => rfl
  | ok w =>
    show (match env[i]? with | some (some d) => _ | _ => _) = getSel (env[i]?) _
    cases env[i]? with
    | none => rfl
    | some o =>
      cases o with
      | none => rfl
      | some d =>
        show (fk env).out env _ = (fk env).out env _
        cases fk env with
        | exc c fs => rfl
        | bad => rfl
        | ok k =>
          show (match putD d k w with | some d' => _ | none => _) = putO i env (putD d k w)
          cases putD d k w <;> rfl
@[simp] theorem dMove_simp {i j : Nat} : dMove i j env = getSel (env[j]?) fun d => if isLD d = true then .nx ((env.set j none).set i (some d)) else .bad := by
  unfold dMove getSel
  cases env[j]? with
  | none => rfl
  | some o => cases o <;> rfl
@[simp] theorem isLD_lst {ds : List D} : isLD (.lst ds) = true := (rfl)
@[simp] theorem isLD_dic {t : Bool} {ks ws : List D} : isLD (.dic t ks ws) = true := (rfl)
/-! exceptions -/
def tryO (E : ExEnt) (n i : Nat) (tp : Bool) (fl : List Str) (o : Out) : Out := match o with
  | .exc c fs e => if c = E.name ∧ n < e.length then (match (pickF fs fl).bind (mkF tp) with
    | some d => .nx (((e.set n none).set i (some d)).set n none)
    | none => .bad) else .bad
  | o => o
@[simp] theorem dTryE_eq {E : ExEnt} {f : DS} {n i : Nat} {tp : Bool} {fl : List Str} : dTryE E f n i tp fl env = tryO E n i tp fl (f env) := by
  unfold dTryE tryO
  cases f env <;> rfl
@[simp] theorem tryO_nx {E : ExEnt} {n i : Nat} {tp : Bool} {fl : List Str} {e : DEnv} : tryO E n i tp fl (.nx e) = .nx e := (rfl)
def setO (e : DEnv) (n i : Nat) (o : Option D) : Out := match o with
  | some d => .nx (((e.set n none).set i (some d)).set n none)
  | none => .bad
@[simp] theorem setO_some {e : DEnv} {n i : Nat} {d : D} : setO e n i (some d) = .nx (((e.set n none).set i (some d)).set n none) := (rfl)
theorem tryO_exc {E : ExEnt} {n i : Nat} {tp : Bool} {fl : List Str} {c : Str} {fs : Fields} {e : DEnv} (hc : c = E.name) (hn : n < e.length) : tryO E n i tp fl (.exc c fs e) = setO e n i ((pickF fs fl).bind (mkF tp)) := by
  show (if c = E.name ∧ n < e.length then _ else _) = _
  rw [if_pos ⟨hc, hn⟩]
  rfl
@[simp] theorem dRaise_eq {E : ExEnt} {fs : DXs} : dRaise E fs env = (fs env).out env fun ds => if decide (ds.length = E.ps.length) && ds.all smallD then .exc E.name (E.ps.zip ds) env else .bad := (rfl)
theorem smallD_int {i : Int} (h0 : 0 ≤ i) (h1 : i < 1000) : smallD (.int i) = true := by
  show (decide (0 ≤ i) && decide (i < 1000)) = true
  rw [decide_eq_true h0, decide_eq_true h1]
  rfl
theorem smallD_str {x : Str} (h : x.length ≤ 1000) : smallD (.str x) = true := decide_eq_true h
/-! insert, get -/
def insO (i : Nat) (env : DEnv) (ds as : List D) : Out := match as with
  | [.int j, d] => if decide (ds.length < sizeLine) && (decide (0 ≤ j) && lim62 j) then .nx (env.set i (some (.lst (ds.take j.toNat ++ [d] ++ ds.drop j.toNat)))) else .bad
  | _ => .bad
@[simp] theorem dIns_simp {i : Nat} {fs : DXs} : dIns i fs env = lstSel (env[i]?) fun ds => (fs env).out env fun as => insO i env ds as := by
  unfold dIns lstSel
  cases env[i]? with
  | none => rfl
  | some o => cases o with
    | none => rfl
    | some d => cases d <;> rfl
theorem insO_ok {i : Nat} {ds : List D} {j : Nat} {d : D} (h1 : ds.length < sizeLine) (h2 : j < 2 ^ 62) : insO i env ds [.int (j : Int), d] = .nx (env.set i (some (.lst (ds.take j ++ [d] ++ ds.drop j)))) := by
  show (if decide (ds.length < sizeLine) && (decide (0 ≤ (j : Int)) && lim62 (j : Int)) then _ else _) = _
  have : lim62 (j : Int) = true := by
    unfold lim62
    rw [Bool.and_eq_true, decide_eq_true_eq, decide_eq_true_eq]
    omega
  rw [decide_eq_true h1, decide_eq_true (Int.natCast_nonneg j), this]
  rfl
@[simp] theorem dGet_eq {fo fk fd : DX} : dGet fo fk fd env = (fo env).bind fun d => if isDicD d = false then .bad else (fk env).bind fun k => (fd env).bind fun z => .ofO (gGet d k z) := (rfl)
@[simp] theorem isDicD_dic {t : Bool} {ks ws : List D} : isDicD (.dic t ks ws) = true := (rfl)
@[simp] theorem killD_nil : killD env [] = env := (rfl)
@[simp] theorem killD_cons {k : Nat} {ks : List Nat} : killD env (k :: ks) = killD (env.set k none) ks := (rfl)
@[simp] theorem wipeD_nil : wipeD env [] = env := (rfl)
@[simp] theorem wipeD_cons {k : Nat} {ks : List Nat} : wipeD env (k :: ks) = (wipeD env ks).set k none := (rfl)
end

/-! ### operators -/
@[simp] theorem gAdd_int {i j : Int} : gAdd (.int i) (.int j) = some (.int (i + j)) := (rfl)
@[simp] theorem gAdd_lst {xs ys : List D} : gAdd (.lst xs) (.lst ys) = if xs.length + ys.length ≤ sizeLine then some (.lst (xs ++ ys)) else none := (rfl)
@[simp] theorem gAdd_tup {xs ys : List D} : gAdd (.tup xs) (.tup ys) = if xs.length + ys.length ≤ sizeLine then some (.tup (xs ++ ys)) else none := (rfl)
@[simp] theorem gCatL_lst {xs ys : List D} : gCatL (.lst xs) (.lst ys) = if xs.length + ys.length ≤ sizeLine then some (.lst (xs ++ ys)) else none := (rfl)
@[simp] theorem gSubI_int {i j : Int} : gSubI (.int i) (.int j) = some (.int (i - j)) := (rfl)
theorem lim64_of {i : Int} (h : -(2 ^ 63) ≤ i) (h' : i ≤ 2 ^ 63) : lim64 i = true := by
  unfold lim64
  simp only [Bool.and_eq_true, decide_eq_true_eq]
  omega
@[simp] theorem gMulI_r {i j : Int} (h : -(2 ^ 63) ≤ j) (h' : j ≤ 2 ^ 63) : gMulI (.int i) (.int j) = some (.int (i * j)) := by
  show (if (lim64 i || lim64 j) = true then some (D.int (i * j)) else none) = _
  rw [if_pos (by rw [lim64_of h h', Bool.or_true])]
@[simp] theorem gMulI_l {i j : Int} (h : -(2 ^ 63) ≤ i) (h' : i ≤ 2 ^ 63) : gMulI (.int i) (.int j) = some (.int (i * j)) := by
  show (if (lim64 i || lim64 j) = true then some (D.int (i * j)) else none) = _
  rw [if_pos (by rw [lim64_of h h', Bool.true_or])]
@[simp] theorem gModI_pos {i j : Int} (h : 0 < j) : gModI (.int i) (.int j) = some (.int (i % j)) := by
  show (if decide (0 < j) = true then some (D.int (i % j)) else none) = _
  rw [if_pos (decide_eq_true h)]
@[simp] theorem gFdivI_pos {i j : Int} (h : 0 < j) (h' : j < 1073741824) : gFdivI (.int i) (.int j) = some (.int (i / j)) := by
  show (if (decide (0 < j) && decide (j < 1073741824)) = true then some (D.int (i / j)) else none) = _
  rw [if_pos (by rw [decide_eq_true h, decide_eq_true h']; rfl)]
@[simp] theorem gPowI_ok {i j : Int} (h0 : 0 ≤ j) (h1 : j ≤ 1000000) (h2 : -(2 ^ 63) ≤ i) (h3 : i ≤ 2 ^ 63) : gPowI (.int i) (.int j) = some (.int (i ^ j.toNat)) := by
  have h4 : i.natAbs < 2 ^ 64 := by omega
  show (if (decide (0 ≤ j) && (decide (j ≤ 1000000) && decide (i.natAbs < 2 ^ 64))) = true then some (D.int (i ^ j.toNat)) else none) = _
  rw [if_pos (by rw [decide_eq_true h0, decide_eq_true h1, decide_eq_true h4]; rfl)]
@[simp] theorem gNeg_int {i : Int} : gNeg (.int i) = some (.int (-i)) := (rfl)
@[simp] theorem gCmpI_int {p : Int → Int → Bool} {i j : Int} : gCmpI p (.int i) (.int j) = some (.bl (p i j)) := (rfl)
@[simp] theorem gLt_int {i j : Int} : gLt (.int i) (.int j) = some (.bl (decide (i < j))) := (rfl)
@[simp] theorem gIsN_non {d : D} : gIsN d .non = some (.bl (isNon d)) := (rfl)
@[simp] theorem gNotN_non {d : D} : gNotN d .non = some (.bl (!isNon d)) := (rfl)
@[simp] theorem isNon_non : isNon .non = true := (rfl)
@[simp] theorem isNon_int {i : Int} : isNon (.int i) = false := (rfl)
@[simp] theorem isNon_bl {i : Bool} : isNon (.bl i) = false := (rfl)
@[simp] theorem isNon_str {i : Str} : isNon (.str i) = false := (rfl)
@[simp] theorem isNon_tup {i : List D} : isNon (.tup i) = false := (rfl)
@[simp] theorem isNon_lst {i : List D} : isNon (.lst i) = false := (rfl)
@[simp] theorem imm_int {i : Int} : imm (.int i) = true := (rfl)
@[simp] theorem imm_bl {i : Bool} : imm (.bl i) = true := (rfl)
@[simp] theorem imm_str {i : Str} : imm (.str i) = true := (rfl)
@[simp] theorem imm_non : imm .non = true := (rfl)
@[simp] theorem imm_tup {ds : List D} : imm (.tup ds) = imms ds := by simp [imm]
@[simp] theorem imms_nil : imms [] = true := (rfl)
@[simp] theorem imms_cons {d : D} {ds : List D} : imms (d :: ds) = (imm d && imms ds) := (rfl)
@[simp] theorem immL_lst {ds : List D} : immL (.lst ds) = imms ds := (rfl)
@[simp] theorem isLD_tup {ds : List D} : isLD (.tup ds) = false := (rfl)
@[simp] theorem isLD_int {ds : Int} : isLD (.int ds) = false := (rfl)
@[simp] theorem isLD_bl {ds : Bool} : isLD (.bl ds) = false := (rfl)
@[simp] theorem isLD_str {ds : Str} : isLD (.str ds) = false := (rfl)
@[simp] theorem isLD_non : isLD .non = false := (rfl)
@[simp] theorem gList_lst {ds : List D} : gList (.lst ds) = some ds := (rfl)
@[simp] theorem gList_dic {ks ws : List D} : gList (.dic true ks ws) = some ks := (rfl)
@[simp] theorem gTuple_lst {ds : List D} : gTuple [.lst ds] = some (.tup ds) := (rfl)
@[simp] theorem gTuple_tup {ds : List D} : gTuple [.tup ds] = some (.tup ds) := (rfl)
@[simp] theorem itemsD_lst {ds : List D} : itemsD (.lst ds) = some ds := (rfl)
@[simp] theorem itemsD_tup {ds : List D} : itemsD (.tup ds) = some ds := (rfl)
@[simp] theorem itemsD_frl {ds : List D} : itemsD (.frl ds) = some ds := (rfl)
@[simp] theorem itemsD_ktp {ds : List D} : itemsD (.ktp ds) = some ds := (rfl)
@[simp] theorem gLen_lst {ds : List D} : gLen [.lst ds] = some (.int ds.length) := (rfl)
@[simp] theorem gLen_tup {ds : List D} : gLen [.tup ds] = some (.int ds.length) := (rfl)
@[simp] theorem gLen_frl {ds : List D} : gLen [.frl ds] = some (.int ds.length) := (rfl)
@[simp] theorem gMax_two {i j : Int} : gMax [.int i, .int j] = some (.int (maxI i j)) := (rfl)
@[simp] theorem gMin_two {i j : Int} : gMin [.int i, .int j] = some (.int (minI i j)) := (rfl)
@[simp] theorem gAbs_int {i : Int} : gAbs [.int i] = some (.int (if i < 0 then -i else i)) := (rfl)
theorem intsOf_map : ∀ ns : List Int, intsOf (ns.map D.int) = some ns
  | [] => rfl
  | n :: ns => by
    show (intsOf (ns.map D.int)).map (n :: ·) = _
    rw [intsOf_map ns]
    rfl
theorem blsOf_map : ∀ ns : List Bool, blsOf (ns.map D.bl) = some ns
  | [] => rfl
  | n :: ns => by
    show (blsOf (ns.map D.bl)).map (n :: ·) = _
    rw [blsOf_map ns]
    rfl
@[simp] theorem gAll_map {bs : List Bool} : gAll [.lst (bs.map D.bl)] = some (.bl (bs.all id)) := by
  show (blsOf (bs.map D.bl)).map _ = _
  rw [blsOf_map]
  rfl
@[simp] theorem gAny_map {bs : List Bool} : gAny [.lst (bs.map D.bl)] = some (.bl (bs.any id)) := by
  show (blsOf (bs.map D.bl)).map _ = _
  rw [blsOf_map]
  rfl
@[simp] theorem gSum_map {ns : List Int} : gSum [.lst (ns.map D.int)] = some (.int ns.sum) := by
  show (intsOf (ns.map D.int)).map _ = _
  rw [intsOf_map]
  rfl
@[simp] theorem gSl_lst {ds : List D} {l h : Option Int} : gSl (.lst ds) l h = some (.lst (cutD ds l h)) := (rfl)
@[simp] theorem gSl_frl {ds : List D} {l h : Option Int} : gSl (.frl ds) l h = some (.lst (cutD ds l h)) := (rfl)
@[simp] theorem gSl_tup {ds : List D} {l h : Option Int} : gSl (.tup ds) l h = some (.tup (cutD ds l h)) := (rfl)
@[simp] theorem gSlL_lst {ds : List D} {l h : Option Int} : gSlL (.lst ds) l h = some (.lst (cutD ds l h)) := (rfl)
@[simp] theorem gSlL_frl {ds : List D} {l h : Option Int} : gSlL (.frl ds) l h = some (.lst (cutD ds l h)) := (rfl)
@[simp] theorem gIx_lst {ds : List D} {i : Int} : gIx (.lst ds) (.int i) = atI ds i := (rfl)
@[simp] theorem gIx_tup {ds : List D} {i : Int} : gIx (.tup ds) (.int i) = atI ds i := (rfl)
@[simp] theorem gIx_ktp {ds : List D} {i : Int} : gIx (.ktp ds) (.int i) = atI ds i := (rfl)
@[simp] theorem gIx_frl {ds : List D} {i : Int} : gIx (.frl ds) (.int i) = atI ds i := (rfl)
theorem atI_of {α : Type} {xs : List α} {i : Int} {x : α} (h0 : 0 ≤ i) (h : xs[i.toNat]? = some x) : atI xs i = some x := by
  have hl := (List.getElem?_eq_some_iff.mp h).1
  unfold atI ixN
  rw [if_pos h0, if_pos (by omega)]
  exact h
@[simp] theorem atI_zero {α : Type} {x : α} {xs : List α} : atI (x :: xs) 0 = some x := atI_of (by decide) rfl
theorem atI_natL0 {α : Type} (l : List α) (m : Nat) : atI l (Int.ofNat m) = l[m]? := by
  unfold atI ixN
  rw [if_pos (by simp)]
  by_cases h : m < l.length
  · rw [if_pos (by simpa using h)]; rfl
  · rw [if_neg (by simpa using h), List.getElem?_eq_none (by omega)]; rfl
@[simp] theorem atI_lit {α : Type} (l : List α) (n : Nat) : atI l (no_index (OfNat.ofNat n : Int)) = l[n]? := atI_natL0 l n
theorem atI_natL {α : Type} (l : List α) (m : Nat) : atI l (m : Int) = l[m]? := by
  unfold atI ixN
  rw [if_pos (by simp)]
  by_cases h : m < l.length
  · rw [if_pos (by simpa using h)]; rfl
  · rw [if_neg (by simpa using h), List.getElem?_eq_none (by omega)]; rfl
theorem atI_lastL {α : Type} (l : List α) : atI l (-1) = l.getLast? := by
  unfold atI ixN
  rw [if_neg (by decide)]
  cases l with
  | nil => rfl
  | cons x r =>
    rw [if_pos (by simp; omega), List.getLast?_eq_getElem?]
    show (x :: r)[((-1 : Int) + ((x :: r).length : Int)).toNat]? = _
    have : ((-1 : Int) + ((x :: r).length : Int)).toNat = (x :: r).length - 1 := by omega
    rw [this]
@[simp] theorem le_size {n : Nat} (h : n ≤ 1000000) : n ≤ sizeLine := Nat.le_trans h (by decide)
@[simp] theorem lt_size {n : Nat} (h : n ≤ 1000000) : n < sizeLine := Nat.lt_of_le_of_lt h (by decide)
theorem ifle {n : Nat} {α : Type} {a b : α} (h : n ≤ 1000000) : (if n ≤ sizeLine then a else b) = a := if_pos (le_size h)
theorem iflt {n : Nat} {α : Type} {a b : α} (h : n ≤ 1000000) : (if n < sizeLine then a else b) = a := if_pos (lt_size h)
@[simp] theorem gIsT_eq {t : TyN} {d : D} (h : noDict d = true) : gIsT t d = some (.bl (isTy t d)) := by
  unfold gIsT
  rw [if_pos h]

/-! ### loops -/
section
variable {gd : D → DEnv → Option DEnv} {body : DS} {ks : List Nat}
theorem forGo_nil {env : DEnv} : forGo gd body ks [] env = .nx env := rfl
def forK (gd : D → DEnv → Option DEnv) (body : DS) (ks : List Nat) (r : List D) (o : Out) : Out := match o with
  | .nx e2 => forGo gd body ks r (killD e2 ks)
  | .ct e2 => forGo gd body ks r (killD e2 ks)
  | .bk e2 => .nx e2
  | o => o
theorem forGo_cons {d : D} {r : List D} {env e1 : DEnv} (h : gd d env = some e1) : forGo gd body ks (d :: r) env = forK gd body ks r (body e1) := by
  have e : forGo gd body ks (d :: r) env = (match gd d env with | none => Out.bad | some e1 => forK gd body ks r (body e1)) := by
    conv => lhs; unfold forGo
    cases gd d env with
    | none => rfl
    | some e =>
      unfold forK
      dsimp only
      try (cases body e <;> rfl)
  rw [e, h]
theorem forGo_inv0 {α : Type} {enc : α → D} (all : List α) (I : List α → DEnv → Prop) (step : ∀ (pre : List α) (x : α) (post : List α) (env : DEnv), all = pre ++ x :: post → I pre env → ∃ e1, gd (enc x) env = some e1 ∧ ∃ e2, (body e1 = .nx e2 ∨ body e1 = .ct e2) ∧ I (pre ++ [x]) (killD e2 ks)) :
    ∀ (xs pre : List α) (env : DEnv), all = pre ++ xs → I pre env → ∃ env', forGo gd body ks (xs.map enc) env = .nx env' ∧ I all env'
  | [], pre, env, ha, h => ⟨env, rfl, by rw [List.append_nil] at ha; rw [ha]; exact h⟩
  | x :: xs, pre, env, ha, h => by
    obtain ⟨e1, h1, e2, h2, h3⟩ := step pre x xs env ha h
    obtain ⟨env', h4, h5⟩ := forGo_inv0 all I step xs (pre ++ [x]) (killD e2 ks) (by simp [ha]) h3
    refine ⟨env', ?_, h5⟩
    rw [List.map_cons, forGo_cons h1]
    rcases h2 with h2 | h2 <;> rw [h2] <;> exact h4
/-- a loop that is gone through: I holds between the turns -/
theorem forGo_inv {α : Type} {enc : α → D} (I : List α → DEnv → Prop) (xs : List α) {env : DEnv} (h : I [] env) (step : ∀ (pre : List α) (x : α) (post : List α) (env : DEnv), xs = pre ++ x :: post → I pre env → ∃ e1, gd (enc x) env = some e1 ∧ ∃ e2, (body e1 = .nx e2 ∨ body e1 = .ct e2) ∧ I (pre ++ [x]) (killD e2 ks)) :
    ∃ env', forGo gd body ks (xs.map enc) env = .nx env' ∧ I xs env' := forGo_inv0 xs I step xs [] env rfl h
theorem forGo_exit0 {α : Type} {enc : α → D} (all : List α) (I : List α → DEnv → Prop) (E : Out → Prop) (step : ∀ (pre : List α) (x : α) (post : List α) (env : DEnv), all = pre ++ x :: post → I pre env → ∃ e1, gd (enc x) env = some e1 ∧ ((∃ e2, (body e1 = .nx e2 ∨ body e1 = .ct e2) ∧ I (pre ++ [x]) (killD e2 ks)) ∨ (∃ d, body e1 = .rt d ∧ E (.rt d)) ∨ (∃ e2, body e1 = .bk e2 ∧ E (.nx e2)) ∨ ∃ c fs e2, body e1 = .exc c fs e2 ∧ E (.exc c fs e2))) :
    ∀ (xs pre : List α) (env : DEnv), all = pre ++ xs → I pre env → E (forGo gd body ks (xs.map enc) env) ∨ ∃ env', forGo gd body ks (xs.map enc) env = .nx env' ∧ I all env'
  | [], pre, env, ha, h => .inr ⟨env, rfl, by rw [List.append_nil] at ha; rw [ha]; exact h⟩
  | x :: xs, pre, env, ha, h => by
    obtain ⟨e1, h1, h2⟩ := step pre x xs env ha h
    rw [List.map_cons, forGo_cons h1]
    rcases h2 with ⟨e2, h2, h3⟩ | ⟨d, h2, h3⟩ | ⟨e2, h2, h3⟩ | ⟨c, fs, e2, h2, h3⟩
    · rcases forGo_exit0 all I E step xs (pre ++ [x]) (killD e2 ks) (by simp [ha]) h3 with h4 | ⟨env', h4, h5⟩
      · refine .inl ?_
        rcases h2 with h2 | h2 <;> rw [h2] <;> exact h4
      · refine .inr ⟨env', ?_, h5⟩
        rcases h2 with h2 | h2 <;> rw [h2] <;> exact h4
    · rw [h2]; exact .inl h3
    · rw [h2]; exact .inl h3
    · rw [h2]; exact .inl h3
/-- a loop that may be left by a return or a break -/
theorem forGo_exit {α : Type} {enc : α → D} (I : List α → DEnv → Prop) (E : Out → Prop) (xs : List α) {env : DEnv} (h : I [] env) (step : ∀ (pre : List α) (x : α) (post : List α) (env : DEnv), xs = pre ++ x :: post → I pre env → ∃ e1, gd (enc x) env = some e1 ∧ ((∃ e2, (body e1 = .nx e2 ∨ body e1 = .ct e2) ∧ I (pre ++ [x]) (killD e2 ks)) ∨ (∃ d, body e1 = .rt d ∧ E (.rt d)) ∨ (∃ e2, body e1 = .bk e2 ∧ E (.nx e2)) ∨ ∃ c fs e2, body e1 = .exc c fs e2 ∧ E (.exc c fs e2))) :
    E (forGo gd body ks (xs.map enc) env) ∨ ∃ env', forGo gd body ks (xs.map enc) env = .nx env' ∧ I xs env' := forGo_exit0 xs I E step xs [] env rfl h
theorem forGo_fold0 {α β : Type} {enc : α → D} (en : β → DEnv) (f : β → α → β) (P : List α → β → Prop) (all : List α) (step : ∀ (pre : List α) (x : α) (post : List α) (b : β), all = pre ++ x :: post → P pre b → ∃ e1, gd (enc x) (en b) = some e1 ∧ ∃ e2, (body e1 = .nx e2 ∨ body e1 = .ct e2) ∧ killD e2 ks = en (f b x) ∧ P (pre ++ [x]) (f b x)) :
    ∀ (xs pre : List α) (b : β), all = pre ++ xs → P pre b → forGo gd body ks (xs.map enc) (en b) = .nx (en (xs.foldl f b)) ∧ P all (xs.foldl f b)
  | [], pre, b, ha, h => ⟨rfl, by rw [List.append_nil] at ha; rw [ha]; exact h⟩
  | x :: xs, pre, b, ha, h => by
    obtain ⟨e1, h1, e2, h2, h3, h4⟩ := step pre x xs b ha h
    obtain ⟨h5, h6⟩ := forGo_fold0 en f P all step xs (pre ++ [x]) (f b x) (by simp [ha]) h4
    refine ⟨?_, h6⟩
    rw [List.map_cons, forGo_cons h1, List.foldl_cons, ← h5, ← h3]
    rcases h2 with h2 | h2 <;> rw [h2] <;> rfl
/-- a loop that folds -/
theorem forGo_fold {α β : Type} {enc : α → D} (en : β → DEnv) (f : β → α → β) (P : List α → β → Prop) (xs : List α) (b : β) (h : P [] b) (step : ∀ (pre : List α) (x : α) (post : List α) (b : β), xs = pre ++ x :: post → P pre b → ∃ e1, gd (enc x) (en b) = some e1 ∧ ∃ e2, (body e1 = .nx e2 ∨ body e1 = .ct e2) ∧ killD e2 ks = en (f b x) ∧ P (pre ++ [x]) (f b x)) :
    forGo gd body ks (xs.map enc) (en b) = .nx (en (xs.foldl f b)) ∧ P xs (xs.foldl f b) := forGo_fold0 en f P xs step xs [] b rfl h
end
theorem pre_lt {α : Type} {xs pre post : List α} {x : α} (h : xs = pre ++ x :: post) : pre.length < xs.length := by rw [h]; simp
theorem pre_mem {α : Type} {xs pre post : List α} {x : α} (h : xs = pre ++ x :: post) : x ∈ xs := by rw [h]; simp
theorem pre_range {n : Nat} {pre post : List Nat} {x : Nat} (h : List.range n = pre ++ x :: post) : x = pre.length ∧ pre.length < n := by
  have h1 : (List.range n)[pre.length]? = some x := by rw [h]; simp
  obtain ⟨h2, h3⟩ := List.getElem?_eq_some_iff.mp h1
  rw [List.getElem_range] at h3
  exact ⟨h3.symm, by simpa using h2⟩
theorem dFor_ok {src : DXs} {gd : D → DEnv → Option DEnv} {body : DS} {ks : List Nat} {env : DEnv} {ds : List D} (h : src env = .ok ds) : dFor src gd body ks env = forGo gd body ks ds env := by
  unfold dFor
  rw [h]
  rfl
theorem dForC_ok {i : Nat} {gd : D → DEnv → Option DEnv} {body : DS} {ks : List Nat} {env : DEnv} {ds : List D} (h : env[i]? = some (some (.lst ds))) : dForC i gd body ks env = forGo gd body ks ds (env.set i none) := by
  unfold dForC
  rw [h]
@[simp] theorem dForC_eq {i : Nat} {gd : D → DEnv → Option DEnv} {body : DS} {ks : List Nat} {env : DEnv} : dForC i gd body ks env = lstSel (env[i]?) fun ds => forGo gd body ks ds (env.set i none) := by
  unfold dForC lstSel
  cases env[i]? with
  | none => rfl
  | some o =>
    cases o with
    | none => rfl
    | some d => cases d <;> rfl
@[simp] theorem dUnpC_eq {i : Nat} {gd : D → DEnv → Option DEnv} {env : DEnv} : dUnpC i gd env = lstSel (env[i]?) fun ds => nxO (gd (.lst ds) (env.set i none)) := by
  unfold dUnpC lstSel nxO
  cases env[i]? with
  | none => rfl
  | some o =>
    cases o with
    | none => rfl
    | some d =>
      cases d with
      | lst ds =>
        rfl
      | _ => rfl
theorem rangeD_map {lo c : Int} {n : Nat} : rangeD lo c n = (List.range n).map fun (i : Nat) => D.int (lo + (i : Int) * c) := rfl
/-- (the test by choice, so that nothing reckons it) -/
noncomputable def rng (j : Int) : RG (List D) := @ite _ (lim62 j = true) (Classical.propDecidable _) (.ok (rangeD 0 1 j.toNat)) .bad
noncomputable def rngO (d : D) : RG (List D) := match d with
  | .int j => rng j
  | _ => .bad
theorem rngO_int0 {j : Int} : rngO (.int j) = rng j := rfl
@[simp] theorem rngO_int {j : Int} : rngO (.int j) = rng j := by rw [rngO_int0]
@[simp] theorem dRange1_eq {f : DX} {env : DEnv} : dRange1 f env = (f env).bind rngO := by
  unfold dRange1
  cases f env with
  | ok d =>
    cases d with
    | int j =>
      show (if lim62 j = true then RG.ok (rangeD 0 1 j.toNat) else RG.bad) = rng j
      unfold rng
      by_cases h : lim62 j = true
      · rw [if_pos h, if_pos h]
      · rw [if_neg h, if_neg h]
    | _ => rfl
  | exc c fs => rfl
  | bad => rfl
theorem rng_ok {j : Int} (h : j < 2 ^ 62) (h' : -(2 ^ 62) ≤ j) : rng j = .ok ((List.range j.toNat).map fun (i : Nat) => D.int (i : Int)) := by
  unfold rng
  rw [if_pos (by unfold lim62; simp only [Bool.and_eq_true, decide_eq_true_eq]; omega)]
  unfold rangeD
  congr 1
  apply List.map_congr_left
  intro i _
  congr 1
  omega
theorem rng_nat {n : Nat} (h : n < 2 ^ 62) : rng (n : Int) = .ok ((List.range n).map fun (i : Nat) => D.int (i : Int)) := by
  rw [rng_ok (by omega) (by omega)]
  simp

/-! ### comprehensions -/
section
variable {gd : D → DEnv → Option DEnv} {tt fe : DX} {env : DEnv}
theorem compGo_map {α : Type} {enc h : α → D} : ∀ (xs : List α), (∀ x ∈ xs, ∃ e1, gd (enc x) env = some e1 ∧ tt e1 = .ok (.bl true) ∧ fe e1 = .ok (h x)) → compGo gd tt fe env (xs.map enc) = some (xs.map h)
  | [], _ => rfl
  | x :: xs, H => by
    obtain ⟨e1, h1, h2, h3⟩ := H x (by simp)
    have ih := compGo_map xs fun y hy => H y (by simp [hy])
    rw [List.map_cons, List.map_cons]
    unfold compGo
    rw [h1]
    show (match tt e1 with | .ok (.bl true) => _ | .ok (.bl false) => _ | _ => _) = _
    rw [h2]
    show (match fe e1 with | .ok y => _ | _ => _) = _
    rw [h3]
    show (compGo gd tt fe env (xs.map enc)).map (h x :: ·) = _
    rw [ih]
    rfl
theorem compGo_filter {α : Type} {enc h : α → D} (p : α → Bool) : ∀ (xs : List α), (∀ x ∈ xs, ∃ e1, gd (enc x) env = some e1 ∧ tt e1 = .ok (.bl (p x)) ∧ (p x = true → fe e1 = .ok (h x))) → compGo gd tt fe env (xs.map enc) = some ((xs.filter p).map h)
  | [], _ => rfl
  | x :: xs, H => by
    obtain ⟨e1, h1, h2, h3⟩ := H x (by simp)
    have ih := compGo_filter p xs fun y hy => H y (by simp [hy])
    rw [List.map_cons]
    unfold compGo
    rw [h1]
    show (match tt e1 with | .ok (.bl true) => _ | .ok (.bl false) => _ | _ => _) = _
    rw [h2]
    cases hp : p x with
    | false =>
      rw [List.filter_cons_of_neg (by rw [hp]; exact Bool.false_ne_true)]
      exact ih
    | true =>
      rw [List.filter_cons_of_pos hp]
      show (match fe e1 with | .ok y => _ | _ => _) = _
      rw [h3 hp]
      show (compGo gd tt fe env (xs.map enc)).map (h x :: ·) = _
      rw [ih]
      rfl
theorem dComp_map {α : Type} {enc h : α → D} {src : DXs} {vs : List Nat} (xs : List α) (hs : src env = .ok (xs.map enc)) (hz : xs.length ≤ 1000000) (H : ∀ x ∈ xs, ∃ e1, gd (enc x) (wipeD env vs) = some e1 ∧ tt e1 = .ok (.bl true) ∧ fe e1 = .ok (h x)) :
    dComp src gd tt fe vs env = .ok (.lst (xs.map h)) := by
  unfold dComp
  rw [hs]
  show (if (xs.map enc).length ≤ sizeLine then _ else _) = _
  rw [if_pos (by rw [List.length_map]; exact le_size hz), compGo_map xs H]
theorem dComp_filter {α : Type} {enc h : α → D} {src : DXs} {vs : List Nat} (p : α → Bool) (xs : List α) (hs : src env = .ok (xs.map enc)) (hz : xs.length ≤ 1000000) (H : ∀ x ∈ xs, ∃ e1, gd (enc x) (wipeD env vs) = some e1 ∧ tt e1 = .ok (.bl (p x)) ∧ (p x = true → fe e1 = .ok (h x))) :
    dComp src gd tt fe vs env = .ok (.lst ((xs.filter p).map h)) := by
  unfold dComp
  rw [hs]
  show (if (xs.map enc).length ≤ sizeLine then _ else _) = _
  rw [if_pos (by rw [List.length_map]; exact le_size hz), compGo_filter p xs H]
end

/-! ### slices -/
theorem cut_nat {α : Type} (xs : List α) {a b : Nat} (h : a ≤ b) (hb : b ≤ xs.length) : cutD xs (some (a : Int)) (some (b : Int)) = (xs.drop a).take (b - a) := by
  unfold cutD
  rw [HT.sIx_nat, HT.sIx_nat, Nat.min_eq_left hb, Nat.min_eq_left (by omega)]
theorem cut_to {α : Type} (xs : List α) {b : Nat} : cutD xs none (some (b : Int)) = xs.take b := by
  unfold cutD
  rw [HT.sIx_nat]
  show (xs.drop 0).take (min b xs.length - 0) = _
  rw [List.drop_zero, Nat.sub_zero]
  by_cases h : b ≤ xs.length
  · rw [Nat.min_eq_left h]
  · rw [Nat.min_eq_right (by omega), List.take_of_length_le (Nat.le_refl _), List.take_of_length_le (by omega)]
@[simp] theorem cut_lit {α : Type} (xs : List α) (b : Nat) : cutD xs none (some (no_index (OfNat.ofNat b : Int))) = xs.take b := cut_to xs
theorem cut_map {α β : Type} (f : α → β) (xs : List α) (l h : Option Int) : cutD (xs.map f) l h = (cutD xs l h).map f := by
  unfold cutD
  rw [List.length_map, List.map_take, List.map_drop]
theorem cut_from {α : Type} (xs : List α) {a : Nat} : cutD xs (some (a : Int)) none = xs.drop a := by
  unfold cutD
  rw [HT.sIx_nat]
  show (xs.drop (min a xs.length)).take (xs.length - min a xs.length) = _
  by_cases h : a ≤ xs.length
  · rw [Nat.min_eq_left h, List.take_of_length_le (by simp)]
  · rw [Nat.min_eq_right (by omega), List.drop_eq_nil_of_le (Nat.le_refl _), List.drop_eq_nil_of_le (by omega)]
    simp
end Dl

/-! Lib: the meanings of the defs, printed by gen.py. -/
namespace Lw
open PySem PySem.Spec PyProof.Rows L2 Dl
/-- k01: _law_numbers(_law_script, _law_many, _law_row, _law_seed, _law_cell, _law_rest, _law_k) -/
def M_law_numbers_l1 : DS := (dSeq (dIfS (dBin gLt (dCallO gLen (dCons (dVar 2) dNil)) (dVar 1)) (dSeq (dSet 3 (dBin gModI (dBin gAdd (dBin gAdd (dBin gAdd (dBin gPowI (dVar 3) (dC (.int (3)))) (dBin gMulI (dC (.int (40692))) (dVar 3))) (dBin gMulI (dC (.int (7))) (dVar 6))) (dC (.int (5)))) (dC (.int (2147483629))))) (dSeq (dApp 2 (dBin gModI (dBin gFdivI (dVar 3) (dC (.int (1009)))) (dC (.int (1000))))) dNext)) dNext) dNext)
def M_law_numbers_l2 : DS := (dSeq (dIfS (dBin (gCmpI fun i j => decide (j < i)) (dVar 5) (dC (.int (0)))) (dSeq (dApp 2 (dBin gModI (dVar 5) (dC (.int (1000))))) (dSeq (dSet 5 (dBin gFdivI (dVar 5) (dC (.int (1000))))) dNext)) dNext) dNext)
def M_law_numbers_l3 : DS := (dSeq (dSet 3 (dBin gModI (dBin gAdd (dBin gAdd (dBin gMulI (dVar 3) (dC (.int (69621)))) (dBin gModI (dVar 4) (dC (.int (999983))))) (dC (.int (7)))) (dC (.int (2147483629))))) (dSeq (dSet 5 (dBin gSubI (dVar 4) (dBin gPowI (dC (.int (10))) (dC (.int (18)))))) (dSeq (dIfS (dBin gLt (dVar 5) (dC (.int (0)))) (dSeq (dApp 2 (dBin gModI (dVar 4) (dC (.int (1000))))) dNext) dNext) (dSeq (dFor (dRange1 (dC (.int (60)))) (gdName 6) M_law_numbers_l2 [6]) dNext))))
def M_law_numbers : DS := (dSeq (dSet 2 (dLst dNil)) (dSeq (dSet 3 (dC (.int (29)))) (dSeq (dFor (dItems (dSl (dVar 0) dNo (dPart (dC (.int (63)))))) (gdName 4) M_law_numbers_l3 [4, 5, 6]) (dSeq (dFor (dRange1 (dVar 1)) (gdName 6) M_law_numbers_l1 [6]) (dSeq (dRet (dSlL (dVar 2) dNo (dPart (dVar 1)))) dNext)))))
/-- k01: _law_wide(_law_d, _law_x, _law_y, _law_low, _law_right, _law_far) -/
def M_law_wide : DS := (dSeq (dSet 1 (dBin gSubI (dBin gMulI (dBin gIx (dVar 0) (dC (.int (0)))) (dC (.int (4)))) (dC (.int (2000))))) (dSeq (dSet 2 (dBin gSubI (dBin gMulI (dBin gIx (dVar 0) (dC (.int (1)))) (dC (.int (4)))) (dC (.int (2000))))) (dSeq (dSet 3 (dBin gModI (dBin gIx (dVar 0) (dC (.int (4)))) (dC (.int (6))))) (dSeq (dSet 4 (dCallO gMin (dCons (dC (.int (2000))) (dCons (dBin gAdd (dVar 1) (dBin gIx (dLst (dCons (dBin gModI (dBin gIx (dVar 0) (dC (.int (2)))) (dC (.int (3)))) (dCons (dBin gMulI (dBin gIx (dVar 0) (dC (.int (2)))) (dC (.int (3)))) dNil))) (dBin gModI (dBin gIx (dVar 0) (dC (.int (6)))) (dC (.int (2)))))) dNil)))) (dSeq (dSet 5 (dCallO gMin (dCons (dC (.int (2000))) (dCons (dBin gAdd (dVar 2) (dBin gIx (dLst (dCons (dBin gModI (dBin gIx (dVar 0) (dC (.int (3)))) (dC (.int (3)))) (dCons (dBin gMulI (dBin gIx (dVar 0) (dC (.int (3)))) (dC (.int (3)))) dNil))) (dBin gModI (dBin gFdivI (dBin gIx (dVar 0) (dC (.int (6)))) (dC (.int (2)))) (dC (.int (2)))))) dNil)))) (dSeq (dRetV (dTup (dCons (dImm (dVar 1)) (dCons (dImm (dVar 2)) (dCons (dImm (dVar 4)) (dCons (dImm (dVar 5)) (dCons (dImm (dVar 3)) (dCons (dImm (dBin gAdd (dVar 3) (dBin gModI (dBin gIx (dVar 0) (dC (.int (5)))) (dBin gSubI (dC (.int (6))) (dVar 3))))) dNil)))))))) dNext))))))
/-- k01: _law_near(_law_low, _law_high, _law_d, _law_some) -/
def M_law_near : DS := (dSeq (dSet 3 (dLst (dCons (dBin gSubI (dVar 0) (dC (.int (1)))) (dCons (dVar 0) (dCons (dBin gAdd (dVar 0) (dC (.int (1)))) (dCons (dBin gFdivI (dBin gAdd (dVar 0) (dVar 1)) (dC (.int (2)))) (dCons (dBin gSubI (dVar 1) (dC (.int (1)))) (dCons (dVar 1) (dCons (dBin gAdd (dVar 1) (dC (.int (1)))) dNil))))))))) (dSeq (dRet (dImm (dCallO gMax (dCons (dUn gNeg (dC (.int (2000)))) (dCons (dCallO gMin (dCons (dC (.int (2000))) (dCons (dBin gIx (dVar 3) (dBin gModI (dVar 2) (dC (.int (7))))) dNil))) dNil))))) dNext))
/-- k01: _law_same(_law_found, _law_due, _law_one, _law_other) -/
def M_law_same (rec : DF') : DS := (dSeq (dIfS (dOr (dIsT .list (dVar 1)) (dIsT .tuple (dVar 1))) (dSeq (dIfS (dOr (dBin gNe (dIsT .list (dVar 0)) (dIsT .list (dVar 1))) (dBin gNe (dIsT .tuple (dVar 0)) (dIsT .tuple (dVar 1)))) (dSeq (dRet (dImm (dC (.bl false)))) dNext) dNext) (dSeq (dRet (dImm (dAnd (dBin gEq (dCallO gLen (dCons (dVar 0) dNil)) (dCallO gLen (dCons (dVar 1) dNil))) (dCallO gAll (dCons (dComp (dZip (dVar 0) (dVar 1)) (gdTup 2 (gdCons (gdName 2) (gdCons (gdName 3) gdNil))) (dC (.bl true)) (dCall rec (dCons (dVar 2) (dCons (dVar 3) dNil))) [2, 3]) dNil))))) dNext)) dNext) (dSeq (dIfS (dOr (dBin gIsN (dVar 0) (dC .non)) (dBin gIsN (dVar 1) (dC .non))) (dSeq (dRet (dImm (dAnd (dBin gIsN (dVar 0) (dC .non)) (dBin gIsN (dVar 1) (dC .non))))) dNext) dNext) (dSeq (dIfS (dOr (dBin gNe (dIsT .bool (dVar 0)) (dIsT .bool (dVar 1))) (dBin gNe (dIsT .int (dVar 0)) (dIsT .int (dVar 1)))) (dSeq (dRet (dImm (dC (.bl false)))) dNext) dNext) (dSeq (dRet (dImm (dBin gEq (dVar 0) (dVar 1)))) dNext))))
/-- k01: inside(box, x, y, height, x1, y1, x2, y2, low, high) -/
def M_inside : DS := (dSeq (dUnp (gdTup 6 (gdCons (gdName 4) (gdCons (gdName 5) (gdCons (gdName 6) (gdCons (gdName 7) (gdCons (gdName 8) (gdCons (gdName 9) gdNil))))))) (dVar 0)) (dSeq (dIfS (dOr (dBin gLt (dVar 1) (dVar 4)) (dBin (gCmpI fun i j => decide (j < i)) (dVar 1) (dVar 6))) (dSeq (dRet (dImm (dC (.bl false)))) dNext) dNext) (dSeq (dIfS (dOr (dBin gLt (dVar 2) (dVar 5)) (dBin (gCmpI fun i j => decide (j < i)) (dVar 2) (dVar 7))) (dSeq (dRet (dImm (dC (.bl false)))) dNext) dNext) (dSeq (dRet (dImm (dAnd (dBin (gCmpI fun i j => decide (i ≤ j)) (dVar 8) (dVar 3)) (dBin (gCmpI fun i j => decide (i ≤ j)) (dVar 3) (dVar 9))))) dNext))))
/-- k01: _law_in(_law_box, _law_x, _law_y, _law_z) -/
def M_law_in : DS := (dSeq (dRet (dImm (dAnd (dBin (gCmpI fun i j => decide (i ≤ j)) (dBin gIx (dVar 0) (dC (.int (0)))) (dVar 1)) (dAnd (dBin (gCmpI fun i j => decide (i ≤ j)) (dVar 1) (dBin gIx (dVar 0) (dC (.int (2))))) (dAnd (dBin (gCmpI fun i j => decide (i ≤ j)) (dBin gIx (dVar 0) (dC (.int (1)))) (dVar 2)) (dAnd (dBin (gCmpI fun i j => decide (i ≤ j)) (dVar 2) (dBin gIx (dVar 0) (dC (.int (3))))) (dAnd (dBin (gCmpI fun i j => decide (i ≤ j)) (dBin gIx (dVar 0) (dC (.int (4)))) (dVar 3)) (dBin (gCmpI fun i j => decide (i ≤ j)) (dVar 3) (dBin gIx (dVar 0) (dC (.int (5)))))))))))) dNext)
/-- k02: good_box(box, x1, y1, x2, y2, low, high) -/
def M_good_box : DS := (dSeq (dUnp (gdTup 6 (gdCons (gdName 1) (gdCons (gdName 2) (gdCons (gdName 3) (gdCons (gdName 4) (gdCons (gdName 5) (gdCons (gdName 6) gdNil))))))) (dVar 0)) (dSeq (dIfS (dOr (dBin gLt (dVar 1) (dUn gNeg (dC (.int (999))))) (dOr (dBin (gCmpI fun i j => decide (j < i)) (dVar 3) (dC (.int (999)))) (dBin (gCmpI fun i j => decide (j < i)) (dVar 1) (dVar 3)))) (dSeq (dRet (dImm (dC (.bl false)))) dNext) dNext) (dSeq (dIfS (dOr (dBin gLt (dVar 2) (dUn gNeg (dC (.int (999))))) (dOr (dBin (gCmpI fun i j => decide (j < i)) (dVar 4) (dC (.int (999)))) (dBin (gCmpI fun i j => decide (j < i)) (dVar 2) (dVar 4)))) (dSeq (dRet (dImm (dC (.bl false)))) dNext) dNext) (dSeq (dRet (dImm (dAnd (dBin (gCmpI fun i j => decide (i ≤ j)) (dC (.int (0))) (dVar 5)) (dAnd (dBin (gCmpI fun i j => decide (i ≤ j)) (dVar 5) (dVar 6)) (dBin (gCmpI fun i j => decide (i ≤ j)) (dVar 6) (dC (.int (5)))))))) dNext))))
/-- k02: _law_good(_law_box, _law_x1, _law_y1, _law_x2, _law_y2, _law_low, _law_high) -/
def M_law_good : DS := (dSeq (dUnp (gdTup 6 (gdCons (gdName 1) (gdCons (gdName 2) (gdCons (gdName 3) (gdCons (gdName 4) (gdCons (gdName 5) (gdCons (gdName 6) gdNil))))))) (dVar 0)) (dSeq (dIfS (dOr (dBin gLt (dCallO gMin (dCons (dVar 1) (dCons (dVar 2) dNil))) (dUn gNeg (dC (.int (999))))) (dBin (gCmpI fun i j => decide (j < i)) (dCallO gMax (dCons (dVar 3) (dCons (dVar 4) dNil))) (dC (.int (999))))) (dSeq (dRet (dImm (dC (.bl false)))) dNext) dNext) (dSeq (dRet (dImm (dAnd (dBin (gCmpI fun i j => decide (i ≤ j)) (dVar 1) (dVar 3)) (dAnd (dBin (gCmpI fun i j => decide (i ≤ j)) (dVar 2) (dVar 4)) (dAnd (dBin (gCmpI fun i j => decide (i ≤ j)) (dC (.int (0))) (dVar 5)) (dAnd (dBin (gCmpI fun i j => decide (i ≤ j)) (dVar 5) (dVar 6)) (dBin (gCmpI fun i j => decide (i ≤ j)) (dVar 6) (dC (.int (5)))))))))) dNext)))
/-- k03: _law_due(_law_one, _law_other, _law_found, _law_k, _law_step, _law_first, _law_last) -/
def M_law_due_l1 : DS := (dSeq (dSet 4 (dBin gIx (dLst (dCons (dC (.int (2))) (dCons (dC (.int (1))) dNil))) (dBin gFdivI (dVar 3) (dC (.int (4)))))) (dSeq (dSet 5 (dBin gIx (dLst (dCons (dBin gIx (dVar 0) (dVar 3)) (dCons (dBin gIx (dVar 1) (dVar 3)) dNil))) (dCallO gInt (dCons (dBin (gCmpI fun i j => decide (j < i)) (dBin gIx (dVar 1) (dVar 3)) (dBin gIx (dVar 0) (dVar 3))) dNil)))) (dSeq (dSet 6 (dBin gIx (dLst (dCons (dBin gIx (dVar 0) (dBin gAdd (dVar 3) (dVar 4))) (dCons (dBin gIx (dVar 1) (dBin gAdd (dVar 3) (dVar 4))) dNil))) (dCallO gInt (dCons (dBin gLt (dBin gIx (dVar 1) (dBin gAdd (dVar 3) (dVar 4))) (dBin gIx (dVar 0) (dBin gAdd (dVar 3) (dVar 4)))) dNil)))) (dSeq (dIfS (dBin (gCmpI fun i j => decide (j < i)) (dVar 5) (dVar 6)) (dSeq (dRet (dImm (dC .non))) dNext) dNext) (dSeq (dApp 2 (dImm (dTup (dCons (dVar 5) (dCons (dVar 6) dNil))))) dNext)))))
def M_law_due : DS := (dSeq (dSet 2 (dLst dNil)) (dSeq (dFor (dItems (dTup (dCons (dC (.int (0))) (dCons (dC (.int (1))) (dCons (dC (.int (4))) dNil))))) (gdName 3) M_law_due_l1 [3, 4, 5, 6]) (dSeq (dRetV (dTup (dCons (dBin gIx (dBin gIx (dVar 2) (dC (.int (0)))) (dC (.int (0)))) (dCons (dBin gIx (dBin gIx (dVar 2) (dC (.int (1)))) (dC (.int (0)))) (dCons (dBin gIx (dBin gIx (dVar 2) (dC (.int (0)))) (dC (.int (1)))) (dCons (dBin gIx (dBin gIx (dVar 2) (dC (.int (1)))) (dC (.int (1)))) (dCons (dBin gIx (dBin gIx (dVar 2) (dC (.int (2)))) (dC (.int (0)))) (dCons (dBin gIx (dBin gIx (dVar 2) (dC (.int (2)))) (dC (.int (1)))) dNil)))))))) dNext)))
/-- k03: _law_box(_law_d, _law_base, _law_x, _law_y, _law_low) -/
def M_law_box : DS := (dSeq (dSet 2 (dBin gSubI (dBin gAdd (dBin gIx (dVar 1) (dC (.int (0)))) (dBin gModI (dBin gIx (dVar 0) (dC (.int (0)))) (dC (.int (9))))) (dC (.int (4))))) (dSeq (dSet 3 (dBin gSubI (dBin gAdd (dBin gIx (dVar 1) (dC (.int (1)))) (dBin gModI (dBin gIx (dVar 0) (dC (.int (1)))) (dC (.int (9))))) (dC (.int (4))))) (dSeq (dSet 4 (dBin gModI (dBin gIx (dVar 0) (dC (.int (4)))) (dC (.int (6))))) (dSeq (dRetV (dTup (dCons (dImm (dVar 2)) (dCons (dImm (dVar 3)) (dCons (dImm (dBin gAdd (dVar 2) (dBin gModI (dBin gIx (dVar 0) (dC (.int (2)))) (dC (.int (4)))))) (dCons (dImm (dBin gAdd (dVar 3) (dBin gModI (dBin gIx (dVar 0) (dC (.int (3)))) (dC (.int (4)))))) (dCons (dImm (dVar 4)) (dCons (dImm (dBin gAdd (dVar 4) (dBin gModI (dBin gIx (dVar 0) (dC (.int (5)))) (dBin gSubI (dC (.int (6))) (dVar 4))))) dNil)))))))) dNext))))
/-- k03: shared(one, other, x1, y1, x2, y2, low, high) -/
def M_shared : DS := (dSeq (dSet 2 (dCallO gMax (dCons (dBin gIx (dVar 0) (dC (.int (0)))) (dCons (dBin gIx (dVar 1) (dC (.int (0)))) dNil)))) (dSeq (dSet 3 (dCallO gMax (dCons (dBin gIx (dVar 0) (dC (.int (1)))) (dCons (dBin gIx (dVar 1) (dC (.int (1)))) dNil)))) (dSeq (dSet 4 (dCallO gMin (dCons (dBin gIx (dVar 0) (dC (.int (2)))) (dCons (dBin gIx (dVar 1) (dC (.int (2)))) dNil)))) (dSeq (dSet 5 (dCallO gMin (dCons (dBin gIx (dVar 0) (dC (.int (3)))) (dCons (dBin gIx (dVar 1) (dC (.int (3)))) dNil)))) (dSeq (dSet 6 (dCallO gMax (dCons (dBin gIx (dVar 0) (dC (.int (4)))) (dCons (dBin gIx (dVar 1) (dC (.int (4)))) dNil)))) (dSeq (dSet 7 (dCallO gMin (dCons (dBin gIx (dVar 0) (dC (.int (5)))) (dCons (dBin gIx (dVar 1) (dC (.int (5)))) dNil)))) (dSeq (dIfS (dOr (dBin (gCmpI fun i j => decide (j < i)) (dVar 2) (dVar 4)) (dOr (dBin (gCmpI fun i j => decide (j < i)) (dVar 3) (dVar 5)) (dBin (gCmpI fun i j => decide (j < i)) (dVar 6) (dVar 7)))) (dSeq (dRet (dImm (dC .non))) dNext) dNext) (dSeq (dRetV (dTup (dCons (dImm (dVar 2)) (dCons (dImm (dVar 3)) (dCons (dImm (dVar 4)) (dCons (dImm (dVar 5)) (dCons (dImm (dVar 6)) (dCons (dImm (dVar 7)) dNil)))))))) dNext))))))))
/-- k04: around(spots, x1, y1, low, x2, y2, high, x, y, height) -/
def M_around_l1 : DS := (dSeq (dSet 1 (dCallO gMin (dCons (dVar 1) (dCons (dVar 7) dNil)))) (dSeq (dSet 2 (dCallO gMin (dCons (dVar 2) (dCons (dVar 8) dNil)))) (dSeq (dSet 4 (dCallO gMax (dCons (dVar 4) (dCons (dVar 7) dNil)))) (dSeq (dSet 5 (dCallO gMax (dCons (dVar 5) (dCons (dVar 8) dNil)))) (dSeq (dSet 3 (dCallO gMin (dCons (dVar 3) (dCons (dVar 9) dNil)))) (dSeq (dSet 6 (dCallO gMax (dCons (dVar 6) (dCons (dVar 9) dNil)))) dNext))))))
def M_around : DS := (dSeq (dIfS (dBin gEq (dCallO gLen (dCons (dVar 0) dNil)) (dC (.int (0)))) (dSeq (dRet (dImm (dC .non))) dNext) dNext) (dSeq (dUnp (gdTup 3 (gdCons (gdName 1) (gdCons (gdName 2) (gdCons (gdName 3) gdNil)))) (dBin gIx (dVar 0) (dC (.int (0))))) (dSeq (dUnp (gdTup 3 (gdCons (gdName 4) (gdCons (gdName 5) (gdCons (gdName 6) gdNil)))) (dBin gIx (dVar 0) (dC (.int (0))))) (dSeq (dFor (dItems (dVar 0)) (gdTup 3 (gdCons (gdName 7) (gdCons (gdName 8) (gdCons (gdName 9) gdNil)))) M_around_l1 [7, 8, 9]) (dSeq (dRetV (dTup (dCons (dImm (dVar 1)) (dCons (dImm (dVar 2)) (dCons (dImm (dVar 4)) (dCons (dImm (dVar 5)) (dCons (dImm (dVar 3)) (dCons (dImm (dVar 6)) dNil)))))))) dNext)))))
/-- k05: _law_wind(_law_winds, _law_hour, _law_height, _law_some, _law_k) -/
def M_law_wind : DS := (dSeq (dSet 3 (dComp (dRange1 (dCallO gLen (dCons (dVar 0) dNil))) (gdName 4) (dAnd (dBin gEq (dBin gIx (dBin gIx (dVar 0) (dVar 4)) (dC (.int (1)))) (dVar 2)) (dBin (gCmpI fun i j => decide (i ≤ j)) (dBin gIx (dBin gIx (dVar 0) (dVar 4)) (dC (.int (0)))) (dVar 1))) (dTup (dCons (dBin gIx (dBin gIx (dVar 0) (dVar 4)) (dC (.int (0)))) (dCons (dVar 4) dNil))) [4])) (dSeq (dIfS (dBin gEq (dCallO gLen (dCons (dVar 3) dNil)) (dC (.int (0)))) (dSeq (dRetV (dTup (dCons (dC (.int (0))) (dCons (dC (.int (0))) dNil)))) dNext) dNext) (dSeq (dRet (dImm (dSl (dBin gIx (dVar 0) (dBin gIx (dCallO gMaxA (dCons (dVar 3) dNil)) (dC (.int (1))))) (dPart (dC (.int (2)))) dNo))) dNext)))
/-- k05: wind_at(winds, hour, height, found, latest, first, level, dx, dy) -/
def M_wind_at_l1 : DS := (dSeq (dIfS (dAnd (dBin gEq (dVar 6) (dVar 2)) (dAnd (dBin (gCmpI fun i j => decide (i ≤ j)) (dVar 5) (dVar 1)) (dBin (gCmpI fun i j => decide (j ≤ i)) (dVar 5) (dVar 4)))) (dSeq (dSet 3 (dTup (dCons (dVar 7) (dCons (dVar 8) dNil)))) (dSeq (dSet 4 (dVar 5)) dNext)) dNext) dNext)
def M_wind_at : DS := (dSeq (dSet 3 (dTup (dCons (dC (.int (0))) (dCons (dC (.int (0))) dNil)))) (dSeq (dSet 4 (dUn gNeg (dC (.int (1))))) (dSeq (dFor (dItems (dVar 0)) (gdTup 4 (gdCons (gdName 5) (gdCons (gdName 6) (gdCons (gdName 7) (gdCons (gdName 8) gdNil))))) M_wind_at_l1 [5, 6, 7, 8]) (dSeq (dRet (dImm (dVar 3))) dNext))))
/-- k05: _law_goes(_law_winds, _law_hours, _law_hour, _law_level, _law_handed, _law_due) of wind_at, _law_same, _law_wind -/
def M_law_goes_l1 (c0 : DF') (c1 : DF') (c2 : DF') : DS := (dSeq (dSet 4 (dListOf (dCons (dVar 0) dNil))) (dSeq (dSet 5 (dCall c2 (dCons (dVar 0) (dCons (dVar 2) (dCons (dVar 3) dNil))))) (dSeq (dIfS (dOr (dNot (dCall c1 (dCons (dCall c0 (dCons (dVar 4) (dCons (dVar 2) (dCons (dVar 3) dNil)))) (dCons (dVar 5) dNil)))) (dBin gNe (dVar 4) (dVar 0))) (dSeq (dRet (dImm (dC (.bl false)))) dNext) dNext) dNext)))
def M_law_goes_l2 (c0 : DF') (c1 : DF') (c2 : DF') : DS := (dSeq (dFor (dRange1 (dC (.int (6)))) (gdName 3) (M_law_goes_l1 c0 c1 c2) [3, 4, 5]) dNext)
def M_law_goes (c0 : DF') (c1 : DF') (c2 : DF') : DS := (dSeq (dFor (dItems (dVar 1)) (gdName 2) (M_law_goes_l2 c0 c1 c2) [2, 3, 4, 5]) (dSeq (dRet (dImm (dC (.bl true)))) dNext))
/-- k05: _law_sky(_law_d, _law_base, _law_hour, _law_hills, _law_j, _law_cool, _law_one, _law_winds, _law_w, _law_first, _law_shuts, _law_s, _law_level) of _law_box -/
def M_law_sky_l1 (c0 : DF') : DS := (dSeq (dSet 11 (dSl (dVar 0) (dPart (dBin gAdd (dC (.int (91))) (dBin gMulI (dC (.int (8))) (dVar 4)))) (dPart (dBin gAdd (dC (.int (99))) (dBin gMulI (dC (.int (8))) (dVar 4)))))) (dSeq (dSet 9 (dBin gIx (dLst (dCons (dBin gModI (dBin gIx (dVar 11) (dC (.int (6)))) (dC (.int (25)))) (dCons (dVar 2) dNil))) (dBin gModI (dBin gIx (dVar 11) (dC (.int (7)))) (dC (.int (2)))))) (dSeq (dApp 10 (dImm (dBin gAdd (dCall c0 (dCons (dVar 11) (dCons (dVar 1) dNil))) (dTup (dCons (dVar 9) (dCons (dBin gAdd (dVar 9) (dBin gModI (dBin gFdivI (dBin gIx (dVar 11) (dC (.int (7)))) (dC (.int (2)))) (dBin gSubI (dC (.int (25))) (dVar 9)))) dNil)))))) dNext)))
def M_law_sky_l2 (c0 : DF') : DS := (dSeq (dSet 8 (dSl (dVar 0) (dPart (dBin gAdd (dC (.int (22))) (dBin gMulI (dC (.int (4))) (dVar 4)))) (dPart (dBin gAdd (dC (.int (26))) (dBin gMulI (dC (.int (4))) (dVar 4)))))) (dSeq (dSet 9 (dBin gIx (dLst (dCons (dBin gModI (dBin gIx (dVar 8) (dC (.int (0)))) (dC (.int (24)))) (dCons (dBin gModI (dBin gAdd (dVar 2) (dBin gModI (dBin gFdivI (dBin gIx (dVar 8) (dC (.int (0)))) (dC (.int (7)))) (dC (.int (6))))) (dC (.int (24)))) dNil))) (dBin gModI (dBin gFdivI (dBin gIx (dVar 8) (dC (.int (1)))) (dC (.int (6)))) (dC (.int (2)))))) (dSeq (dApp 7 (dImm (dTup (dCons (dVar 9) (dCons (dBin gModI (dBin gIx (dVar 8) (dC (.int (1)))) (dC (.int (6)))) (dCons (dBin gSubI (dBin gModI (dBin gIx (dVar 8) (dC (.int (2)))) (dC (.int (5)))) (dC (.int (2)))) (dCons (dBin gSubI (dBin gModI (dBin gIx (dVar 8) (dC (.int (3)))) (dC (.int (5)))) (dC (.int (2)))) dNil))))))) dNext)))
def M_law_sky_l3 (c0 : DF') : DS := (dSeq (dSet 6 (dBin gIx (dLst (dCons (dBin gModI (dBin gIx (dVar 0) (dBin gAdd (dC (.int (16))) (dVar 4))) (dC (.int (24)))) (dCons (dBin gModI (dBin gAdd (dVar 2) (dBin gModI (dBin gIx (dVar 0) (dBin gAdd (dC (.int (16))) (dVar 4))) (dC (.int (4))))) (dC (.int (24)))) dNil))) (dBin gModI (dBin gFdivI (dBin gIx (dVar 0) (dC (.int (0)))) (dC (.int (30)))) (dC (.int (2)))))) (dSeq (dIfS (dBin gNotIn (dVar 6) (dVar 5)) (dSeq (dApp 5 (dImm (dVar 6))) dNext) dNext) dNext))
def M_law_sky_l4 (c0 : DF') : DS := (dSeq (dApp 3 (dTup (dCons (dBin gSubI (dBin gAdd (dBin gIx (dVar 1) (dC (.int (0)))) (dBin gModI (dBin gIx (dVar 0) (dBin gAdd (dBin gMulI (dC (.int (3))) (dVar 4)) (dC (.int (1))))) (dC (.int (9))))) (dC (.int (4)))) (dCons (dBin gSubI (dBin gAdd (dBin gIx (dVar 1) (dC (.int (1)))) (dBin gModI (dBin gIx (dVar 0) (dBin gAdd (dBin gMulI (dC (.int (3))) (dVar 4)) (dC (.int (2))))) (dC (.int (9))))) (dC (.int (4)))) (dCons (dBin gAdd (dC (.int (1))) (dBin gModI (dBin gIx (dVar 0) (dBin gAdd (dBin gMulI (dC (.int (3))) (dVar 4)) (dC (.int (3))))) (dC (.int (5))))) dNil))))) dNext)
def M_law_sky (c0 : DF') : DS := (dSeq (dSet 3 (dLst dNil)) (dSeq (dFor (dRange1 (dBin gModI (dBin gIx (dVar 0) (dC (.int (0)))) (dC (.int (6))))) (gdName 4) (M_law_sky_l4 c0) [4]) (dSeq (dSet 5 (dLst dNil)) (dSeq (dFor (dRange1 (dBin gModI (dBin gFdivI (dBin gIx (dVar 0) (dC (.int (0)))) (dC (.int (6)))) (dC (.int (5))))) (gdName 4) (M_law_sky_l3 c0) [4, 6]) (dSeq (dSet 7 (dLst dNil)) (dSeq (dIfS (dBin (gCmpI fun i j => decide (j < i)) (dBin gModI (dBin gIx (dVar 0) (dC (.int (21)))) (dC (.int (4)))) (dC (.int (0)))) (dSeq (dSet 7 (dComp (dRange1 (dC (.int (6)))) (gdName 12) (dC (.bl true)) (dImm (dTup (dCons (dC (.int (0))) (dCons (dVar 12) (dCons (dBin gSubI (dBin gModI (dBin gIx (dVar 0) (dBin gAdd (dC (.int (78))) (dBin gMulI (dC (.int (2))) (dVar 12)))) (dC (.int (5)))) (dC (.int (2)))) (dCons (dBin gSubI (dBin gModI (dBin gIx (dVar 0) (dBin gAdd (dC (.int (79))) (dBin gMulI (dC (.int (2))) (dVar 12)))) (dC (.int (5)))) (dC (.int (2)))) dNil)))))) [12])) dNext) dNext) (dSeq (dFor (dRange1 (dBin gModI (dBin gFdivI (dBin gIx (dVar 0) (dC (.int (21)))) (dC (.int (4)))) (dC (.int (14))))) (gdName 4) (M_law_sky_l2 c0) [4, 8, 9]) (dSeq (dSet 10 (dLst dNil)) (dSeq (dFor (dRange1 (dBin gModI (dBin gIx (dVar 0) (dC (.int (90)))) (dC (.int (4))))) (gdName 4) (M_law_sky_l1 c0) [4, 11, 9]) (dSeq (dRetV (dTup (dCons (dVar 3) (dCons (dVar 5) (dCons (dVar 7) (dCons (dVar 10) dNil)))))) dNext))))))))))
/-- k06: _law_due(_law_winds, _law_level, _law_found, _law_hour, _law_wind_here) of _law_wind -/
def M_law_due_2_l1 (c0 : DF') : DS := (dSeq (dSet 4 (dCall c0 (dCons (dVar 0) (dCons (dVar 3) (dCons (dVar 1) dNil))))) (dSeq (dIfS (dAnd (dBin (gCmpI fun i j => decide (j < i)) (dVar 3) (dC (.int (0)))) (dBin gEq (dCall c0 (dCons (dVar 0) (dCons (dBin gSubI (dVar 3) (dC (.int (1)))) (dCons (dVar 1) dNil)))) (dVar 4))) (dSeq (dPut 2 (dUn gNeg (dC (.int (1)))) (dImm (dBin gAdd (dTup (dCons (dBin gIx (dBin gIx (dVar 2) (dUn gNeg (dC (.int (1))))) (dC (.int (0)))) (dCons (dVar 3) dNil))) (dVar 4)))) dNext) (dSeq (dApp 2 (dImm (dBin gAdd (dTup (dCons (dVar 3) (dCons (dVar 3) dNil))) (dVar 4)))) dNext)) dNext))
def M_law_due_2 (c0 : DF') : DS := (dSeq (dSet 2 (dLst dNil)) (dSeq (dFor (dRange1 (dC (.int (24)))) (gdName 3) (M_law_due_2_l1 c0) [3, 4]) (dSeq (dRet (dVar 2)) dNext)))
/-- k06: spells(winds, height, found, hour, dx, dy) of wind_at -/
def M_spells_l1 (c0 : DF') : DS := (dSeq (dUnp (gdTup 2 (gdCons (gdName 4) (gdCons (gdName 5) gdNil))) (dCall c0 (dCons (dVar 0) (dCons (dVar 3) (dCons (dVar 1) dNil))))) (dSeq (dIfS (dAnd (dBin (gCmpI fun i j => decide (j < i)) (dCallO gLen (dCons (dVar 2) dNil)) (dC (.int (0)))) (dBin gEq (dSl (dBin gIx (dVar 2) (dUn gNeg (dC (.int (1))))) (dPart (dC (.int (2)))) dNo) (dTup (dCons (dVar 4) (dCons (dVar 5) dNil))))) (dSeq (dPut 2 (dUn gNeg (dC (.int (1)))) (dImm (dTup (dCons (dBin gIx (dBin gIx (dVar 2) (dUn gNeg (dC (.int (1))))) (dC (.int (0)))) (dCons (dVar 3) (dCons (dVar 4) (dCons (dVar 5) dNil))))))) dNext) (dSeq (dApp 2 (dImm (dTup (dCons (dVar 3) (dCons (dVar 3) (dCons (dVar 4) (dCons (dVar 5) dNil))))))) dNext)) dNext))
def M_spells (c0 : DF') : DS := (dSeq (dSet 2 (dLst dNil)) (dSeq (dFor (dRange1 (dBin gAdd (dC (.int (23))) (dC (.int (1))))) (gdName 3) (M_spells_l1 c0) [3, 4, 5]) (dSeq (dRet (dVar 2)) dNext)))
/-- k07: _law_base(_law_d) -/
def M_law_base : DS := (dSeq (dIfS (dBin gEq (dBin gModI (dBin gIx (dVar 0) (dC (.int (0)))) (dC (.int (5)))) (dC (.int (1)))) (dSeq (dRetV (dTup (dCons (dBin gSubI (dBin gIx (dVar 0) (dC (.int (1)))) (dC (.int (500)))) (dCons (dBin gSubI (dBin gIx (dVar 0) (dC (.int (2)))) (dC (.int (500)))) dNil)))) dNext) dNext) (dSeq (dIfS (dBin gEq (dBin gModI (dBin gIx (dVar 0) (dC (.int (0)))) (dC (.int (5)))) (dC (.int (2)))) (dSeq (dRetV (dTup (dCons (dBin gMulI (dBin gSubI (dBin gModI (dBin gIx (dVar 0) (dC (.int (1)))) (dC (.int (3)))) (dC (.int (1)))) (dC (.int (985)))) (dCons (dBin gMulI (dBin gSubI (dBin gModI (dBin gIx (dVar 0) (dC (.int (2)))) (dC (.int (3)))) (dC (.int (1)))) (dC (.int (985)))) dNil)))) dNext) dNext) (dSeq (dRetV (dTup (dCons (dC (.int (0))) (dCons (dC (.int (0))) dNil)))) dNext)))
/-- k07: _law_ground(_law_hills, _law_x, _law_y, _law_a, _law_b, _law_top) -/
def M_law_ground : DS := (dSeq (dRet (dImm (dCallO gMaxA (dCons (dBin gAdd (dLst (dCons (dC (.int (0))) dNil)) (dComp (dItems (dVar 0)) (gdTup 3 (gdCons (gdName 3) (gdCons (gdName 4) (gdCons (gdName 5) gdNil)))) (dAnd (dBin gEq (dVar 3) (dVar 1)) (dBin gEq (dVar 4) (dVar 2))) (dVar 5) [3, 4, 5])) dNil)))) dNext)
/-- k07: ground_at(hills, x, y, found, hill_x, hill_y, top) -/
def M_ground_at_l1 : DS := (dSeq (dIfS (dAnd (dBin gEq (dVar 4) (dVar 1)) (dBin gEq (dVar 5) (dVar 2))) (dSeq (dSet 3 (dCallO gMax (dCons (dVar 3) (dCons (dVar 6) dNil)))) dNext) dNext) dNext)
def M_ground_at : DS := (dSeq (dSet 3 (dC (.int (0)))) (dSeq (dFor (dItems (dVar 0)) (gdTup 3 (gdCons (gdName 4) (gdCons (gdName 5) (gdCons (gdName 6) gdNil)))) M_ground_at_l1 [4, 5, 6]) (dSeq (dRet (dImm (dVar 3))) dNext)))
/-- k07: on_ground(hills, state) of ground_at -/
def M_on_ground (c0 : DF') : DS := (dSeq (dRet (dImm (dBin gEq (dBin gIx (dVar 1) (dC (.int (2)))) (dCall c0 (dCons (dVar 0) (dCons (dBin gIx (dVar 1) (dC (.int (0)))) (dCons (dBin gIx (dVar 1) (dC (.int (1)))) dNil))))))) dNext)
/-- k08: _law_shuts(_law_numbers_here, _law_base_here, _law_shuts_here, _law_k, _law_d, _law_first) of _law_box -/
def M_law_shuts_l1 (c0 : DF') : DS := (dSeq (dSet 4 (dSl (dVar 0) (dPart (dBin gAdd (dC (.int (1))) (dBin gMulI (dC (.int (9))) (dVar 3)))) (dPart (dBin gAdd (dC (.int (10))) (dBin gMulI (dC (.int (9))) (dVar 3)))))) (dSeq (dSet 5 (dBin gModI (dBin gIx (dVar 4) (dC (.int (6)))) (dC (.int (25))))) (dSeq (dIfS (dAnd (dBin gEq (dBin gModI (dBin gIx (dVar 4) (dC (.int (8)))) (dC (.int (3)))) (dC (.int (1)))) (dBin (gCmpI fun i j => decide (j < i)) (dVar 3) (dC (.int (0))))) (dSeq (dSet 5 (dBin gModI (dBin gAdd (dBin gIx (dBin gIx (dVar 2) (dUn gNeg (dC (.int (1))))) (dC (.int (7)))) (dBin gModI (dBin gFdivI (dBin gIx (dVar 4) (dC (.int (8)))) (dC (.int (3)))) (dC (.int (3))))) (dC (.int (25))))) dNext) dNext) (dSeq (dApp 2 (dImm (dBin gAdd (dCall c0 (dCons (dVar 4) (dCons (dVar 1) dNil))) (dTup (dCons (dVar 5) (dCons (dBin gAdd (dVar 5) (dBin gModI (dBin gIx (dVar 4) (dC (.int (7)))) (dBin gSubI (dC (.int (25))) (dVar 5)))) dNil)))))) (dSeq (dIfS (dBin gEq (dBin gModI (dBin gIx (dVar 4) (dC (.int (8)))) (dC (.int (5)))) (dC (.int (2)))) (dSeq (dPut 2 (dUn gNeg (dC (.int (1)))) (dImm (dBin gAdd (dSl (dBin gIx (dVar 2) (dUn gNeg (dC (.int (1))))) dNo (dPart (dC (.int (6))))) (dTup (dCons (dVar 5) (dCons (dCallO gMin (dCons (dC (.int (24))) (dCons (dBin gAdd (dVar 5) (dBin gModI (dBin gIx (dVar 4) (dC (.int (7)))) (dC (.int (3))))) dNil))) dNil)))))) dNext) dNext) dNext)))))
def M_law_shuts (c0 : DF') : DS := (dSeq (dSet 2 (dLst dNil)) (dSeq (dFor (dRange1 (dBin gModI (dBin gIx (dVar 0) (dC (.int (0)))) (dC (.int (9))))) (gdName 3) (M_law_shuts_l1 c0) [3, 4, 5]) (dSeq (dRet (dVar 2)) dNext)))
/-- k08: _law_shut(_law_shuts_here, _law_hour, _law_x, _law_y, _law_z, _law_one) of _law_in -/
def M_law_shut (c0 : DF') : DS := (dSeq (dRet (dImm (dBin gIn (dC (.bl true)) (dComp (dItems (dVar 0)) (gdName 5) (dAnd (dBin (gCmpI fun i j => decide (i ≤ j)) (dBin gIx (dVar 5) (dC (.int (6)))) (dVar 1)) (dBin (gCmpI fun i j => decide (i ≤ j)) (dVar 1) (dBin gIx (dVar 5) (dC (.int (7)))))) (dCall c0 (dCons (dSl (dVar 5) dNo (dPart (dC (.int (6))))) (dCons (dVar 2) (dCons (dVar 3) (dCons (dVar 4) dNil))))) [5])))) dNext)
/-- k08: _law_runs(_law_shuts_here, _law_x, _law_y, _law_z, _law_found, _law_hour) of _law_shut -/
def M_law_runs_l1 (c0 : DF') : DS := (dSeq (dIfS (dCall c0 (dCons (dVar 0) (dCons (dVar 5) (dCons (dVar 1) (dCons (dVar 2) (dCons (dVar 3) dNil)))))) (dSeq (dIfS (dAnd (dBin (gCmpI fun i j => decide (j < i)) (dCallO gLen (dCons (dVar 4) dNil)) (dC (.int (0)))) (dBin gEq (dBin gAdd (dBin gIx (dBin gIx (dVar 4) (dUn gNeg (dC (.int (1))))) (dC (.int (1)))) (dC (.int (1)))) (dVar 5))) (dSeq (dPut 4 (dUn gNeg (dC (.int (1)))) (dImm (dTup (dCons (dBin gIx (dBin gIx (dVar 4) (dUn gNeg (dC (.int (1))))) (dC (.int (0)))) (dCons (dVar 5) dNil))))) dNext) (dSeq (dApp 4 (dImm (dTup (dCons (dVar 5) (dCons (dVar 5) dNil))))) dNext)) dNext) dNext) dNext)
def M_law_runs (c0 : DF') : DS := (dSeq (dSet 4 (dLst dNil)) (dSeq (dFor (dRange1 (dC (.int (25)))) (gdName 5) (M_law_runs_l1 c0) [5]) (dSeq (dRet (dVar 4)) dNext)))
/-- k08: shut_at(shuts, hour, x, y, height, x1, y1, x2, y2, low, high, first, last) of inside -/
def M_shut_at_l1 (c0 : DF') : DS := (dSeq (dIfS (dAnd (dBin (gCmpI fun i j => decide (i ≤ j)) (dVar 11) (dVar 1)) (dAnd (dBin (gCmpI fun i j => decide (i ≤ j)) (dVar 1) (dVar 12)) (dCall c0 (dCons (dTup (dCons (dVar 5) (dCons (dVar 6) (dCons (dVar 7) (dCons (dVar 8) (dCons (dVar 9) (dCons (dVar 10) dNil))))))) (dCons (dVar 2) (dCons (dVar 3) (dCons (dVar 4) dNil))))))) (dSeq (dRet (dImm (dC (.bl true)))) dNext) dNext) dNext)
def M_shut_at (c0 : DF') : DS := (dSeq (dFor (dItems (dVar 0)) (gdTup 8 (gdCons (gdName 5) (gdCons (gdName 6) (gdCons (gdName 7) (gdCons (gdName 8) (gdCons (gdName 9) (gdCons (gdName 10) (gdCons (gdName 11) (gdCons (gdName 12) gdNil))))))))) (M_shut_at_l1 c0) [5, 6, 7, 8, 9, 10, 11, 12]) (dSeq (dRet (dImm (dC (.bl false)))) dNext))
/-- k08: closures(shuts, x, y, height, found, hour) of shut_at -/
def M_closures_l1 (c0 : DF') : DS := (dSeq (dIfS (dCall c0 (dCons (dVar 0) (dCons (dVar 5) (dCons (dVar 1) (dCons (dVar 2) (dCons (dVar 3) dNil)))))) (dSeq (dIfS (dAnd (dBin (gCmpI fun i j => decide (j < i)) (dCallO gLen (dCons (dVar 4) dNil)) (dC (.int (0)))) (dBin gEq (dBin gIx (dBin gIx (dVar 4) (dUn gNeg (dC (.int (1))))) (dC (.int (1)))) (dBin gSubI (dVar 5) (dC (.int (1)))))) (dSeq (dPut 4 (dUn gNeg (dC (.int (1)))) (dImm (dTup (dCons (dBin gIx (dBin gIx (dVar 4) (dUn gNeg (dC (.int (1))))) (dC (.int (0)))) (dCons (dVar 5) dNil))))) dNext) (dSeq (dApp 4 (dImm (dTup (dCons (dVar 5) (dCons (dVar 5) dNil))))) dNext)) dNext) dNext) dNext)
def M_closures (c0 : DF') : DS := (dSeq (dSet 4 (dLst dNil)) (dSeq (dFor (dRange1 (dBin gAdd (dC (.int (24))) (dC (.int (1))))) (gdName 5) (M_closures_l1 c0) [5]) (dSeq (dRet (dVar 4)) dNext)))
/-- k09: _law_copy(_law_sky_here) -/
def M_law_copy : DS := (dSeq (dRetV (dTup (dCons (dImmL (dListOf (dCons (dBin gIx (dVar 0) (dC (.int (0)))) dNil))) (dCons (dImmL (dListOf (dCons (dBin gIx (dVar 0) (dC (.int (1)))) dNil))) (dCons (dImmL (dListOf (dCons (dBin gIx (dVar 0) (dC (.int (2)))) dNil))) (dCons (dImmL (dListOf (dCons (dBin gIx (dVar 0) (dC (.int (3)))) dNil))) dNil)))))) dNext)
/-- k09: _law_state(_law_d, _law_base_here, _law_most, _law_x, _law_y) -/
def M_law_state : DS := (dSeq (dSet 3 (dBin gSubI (dBin gAdd (dBin gIx (dVar 1) (dC (.int (0)))) (dBin gModI (dBin gIx (dVar 0) (dC (.int (0)))) (dC (.int (7))))) (dC (.int (3))))) (dSeq (dSet 4 (dBin gSubI (dBin gAdd (dBin gIx (dVar 1) (dC (.int (1)))) (dBin gModI (dBin gIx (dVar 0) (dC (.int (1)))) (dC (.int (7))))) (dC (.int (3))))) (dSeq (dRetV (dTup (dCons (dImm (dVar 3)) (dCons (dImm (dVar 4)) (dCons (dBin gModI (dBin gIx (dVar 0) (dC (.int (2)))) (dC (.int (6)))) (dCons (dBin gModI (dBin gIx (dVar 0) (dC (.int (3)))) (dBin gAdd (dVar 2) (dC (.int (1))))) (dCons (dBin gModI (dBin gIx (dVar 0) (dC (.int (4)))) (dBin gAdd (dVar 2) (dC (.int (1))))) dNil))))))) dNext)))
/-- k09: standing(sky, hour, state, hills, cool, winds, shuts) of shut_at, ground_at -/
def M_standing (c0 : DF') (c1 : DF') : DS := (dSeq (dUnp (gdTup 4 (gdCons (gdName 3) (gdCons (gdName 4) (gdCons (gdName 5) (gdCons (gdName 6) gdNil))))) (dVar 0)) (dSeq (dIfS (dBin gLt (dBin gIx (dVar 2) (dC (.int (2)))) (dCall c1 (dCons (dVar 3) (dCons (dBin gIx (dVar 2) (dC (.int (0)))) (dCons (dBin gIx (dVar 2) (dC (.int (1)))) dNil))))) (dSeq (dRet (dImm (dC (.str ("hill" : Str))))) dNext) dNext) (dSeq (dIfS (dCall c0 (dCons (dVar 6) (dCons (dVar 1) (dCons (dBin gIx (dVar 2) (dC (.int (0)))) (dCons (dBin gIx (dVar 2) (dC (.int (1)))) (dCons (dBin gIx (dVar 2) (dC (.int (2)))) dNil)))))) (dSeq (dRet (dImm (dC (.str ("shut" : Str))))) dNext) dNext) (dSeq (dRet (dImm (dC (.str ("" : Str))))) dNext))))
/-- k09: may_stand(sky, hour, state) of standing -/
def M_may_stand (c0 : DF') : DS := (dSeq (dRet (dImm (dBin gEq (dCall c0 (dCons (dVar 0) (dCons (dVar 1) (dCons (dVar 2) dNil)))) (dC (.str ("" : Str)))))) dNext)
/-- k09: _law_stand(_law_sky_here, _law_hour, _law_state_here) of _law_shut, _law_ground -/
def M_law_stand (c0 : DF') (c1 : DF') : DS := (dSeq (dIfS (dBin gLt (dBin gIx (dVar 2) (dC (.int (2)))) (dCall c1 (dCons (dBin gIx (dVar 0) (dC (.int (0)))) (dCons (dBin gIx (dVar 2) (dC (.int (0)))) (dCons (dBin gIx (dVar 2) (dC (.int (1)))) dNil))))) (dSeq (dRet (dImm (dC (.str ("hill" : Str))))) dNext) dNext) (dSeq (dIfS (dCall c0 (dCons (dBin gIx (dVar 0) (dC (.int (3)))) (dCons (dVar 1) (dCons (dBin gIx (dVar 2) (dC (.int (0)))) (dCons (dBin gIx (dVar 2) (dC (.int (1)))) (dCons (dBin gIx (dVar 2) (dC (.int (2)))) dNil)))))) (dSeq (dRet (dImm (dC (.str ("shut" : Str))))) dNext) dNext) (dSeq (dRet (dImm (dC (.str ("" : Str))))) dNext)))
/-- k10: _law_led(_law_sky_here, _law_hour, _law_state_here, _law_order, _law_x, _law_y, _law_z, _law_sacks, _law_puffs, _law_step, _law_dx, _law_dy) of _law_wind -/
def M_law_led (c0 : DF') : DS := (dSeq (dUnp (gdTup 5 (gdCons (gdName 4) (gdCons (gdName 5) (gdCons (gdName 6) (gdCons (gdName 7) (gdCons (gdName 8) gdNil)))))) (dVar 2)) (dSeq (dSet 9 (dBin gIx (dDict [("up" : Str), ("level" : Str), ("down" : Str)] (dCons (dC (.int (1))) (dCons (dC (.int (0))) (dCons (dUn gNeg (dC (.int (1)))) dNil)))) (dVar 3))) (dSeq (dSet 6 (dBin gAdd (dVar 6) (dVar 9))) (dSeq (dIfS (dAnd (dBin gIn (dVar 1) (dBin gIx (dVar 0) (dC (.int (1))))) (dBin (gCmpI fun i j => decide (j < i)) (dVar 6) (dC (.int (0))))) (dSeq (dSet 6 (dBin gSubI (dVar 6) (dC (.int (1))))) dNext) dNext) (dSeq (dUnp (gdTup 2 (gdCons (gdName 10) (gdCons (gdName 11) gdNil))) (dCall c0 (dCons (dBin gIx (dVar 0) (dC (.int (2)))) (dCons (dVar 1) (dCons (dVar 6) dNil))))) (dSeq (dRetV (dTup (dCons (dImm (dBin gAdd (dVar 4) (dVar 10))) (dCons (dImm (dBin gAdd (dVar 5) (dVar 11))) (dCons (dImm (dVar 6)) (dCons (dBin gSubI (dVar 7) (dCallO gMax (dCons (dC (.int (0))) (dCons (dVar 9) dNil)))) (dCons (dBin gSubI (dVar 8) (dCallO gMax (dCons (dC (.int (0))) (dCons (dUn gNeg (dVar 9)) dNil)))) dNil))))))) dNext))))))
/-- k10: _law_steered(_law_sky_here, _law_hour, _law_state_here, _law_d, _law_order, _law_later, _law_hills, _law_cool, _law_winds, _law_shuts, _law_first, _law_box_here) of _law_copy, _law_led -/
def M_law_steered (c0 : DF') (c1 : DF') : DS := (dSeq (dSet 4 (dBin gIx (dLst (dCons (dC (.str ("up" : Str))) (dCons (dC (.str ("level" : Str))) (dCons (dC (.str ("down" : Str))) dNil)))) (dBin gModI (dBin gIx (dVar 3) (dC (.int (0)))) (dC (.int (3)))))) (dSeq (dIfS (dOr (dAnd (dBin gEq (dBin gIx (dVar 2) (dC (.int (3)))) (dC (.int (0)))) (dBin gEq (dVar 4) (dC (.str ("up" : Str))))) (dAnd (dBin gEq (dBin gIx (dVar 2) (dC (.int (4)))) (dC (.int (0)))) (dBin gEq (dVar 4) (dC (.str ("down" : Str)))))) (dSeq (dSet 4 (dC (.str ("level" : Str)))) dNext) dNext) (dSeq (dIfS (dOr (dAnd (dBin gEq (dBin gIx (dVar 2) (dC (.int (2)))) (dC (.int (5)))) (dBin gEq (dVar 4) (dC (.str ("up" : Str))))) (dAnd (dBin gEq (dBin gIx (dVar 2) (dC (.int (2)))) (dC (.int (0)))) (dBin gEq (dVar 4) (dC (.str ("down" : Str)))))) (dSeq (dSet 4 (dC (.str ("level" : Str)))) dNext) dNext) (dSeq (dSet 5 (dCall c1 (dCons (dVar 0) (dCons (dVar 1) (dCons (dVar 2) (dCons (dVar 4) dNil)))))) (dSeq (dUnp (gdTup 4 (gdCons (gdName 6) (gdCons (gdName 7) (gdCons (gdName 8) (gdCons (gdName 9) gdNil))))) (dCall c0 (dCons (dVar 0) dNil))) (dSeq (dIfS (dBin (gCmpI fun i j => decide (j < i)) (dBin gModI (dBin gIx (dVar 3) (dC (.int (1)))) (dC (.int (3)))) (dC (.int (0)))) (dSeq (dIns 6 (dCons (dBin gModI (dBin gIx (dVar 3) (dC (.int (2)))) (dBin gAdd (dCallO gLen (dCons (dVar 6) dNil)) (dC (.int (1))))) (dCons (dImm (dTup (dCons (dBin gIx (dVar 5) (dC (.int (0)))) (dCons (dBin gIx (dVar 5) (dC (.int (1)))) (dCons (dCallO gMax (dCons (dC (.int (1))) (dCons (dCallO gMin (dCons (dC (.int (5))) (dCons (dBin gSubI (dBin gAdd (dBin gIx (dVar 5) (dC (.int (2)))) (dBin gModI (dBin gIx (dVar 3) (dC (.int (3)))) (dC (.int (3))))) (dC (.int (1)))) dNil))) dNil))) dNil))))) dNil))) dNext) dNext) (dSeq (dIfS (dBin (gCmpI fun i j => decide (j < i)) (dBin gModI (dBin gIx (dVar 3) (dC (.int (4)))) (dC (.int (3)))) (dC (.int (0)))) (dSeq (dSet 10 (dCallO gMax (dCons (dC (.int (0))) (dCons (dCallO gMin (dCons (dC (.int (24))) (dCons (dBin gAdd (dVar 1) (dBin gModI (dBin gIx (dVar 3) (dC (.int (5)))) (dC (.int (4))))) dNil))) dNil)))) (dSeq (dSet 11 (dTup (dCons (dBin gSubI (dBin gIx (dVar 5) (dC (.int (0)))) (dBin gModI (dBin gIx (dVar 3) (dC (.int (6)))) (dC (.int (2))))) (dCons (dBin gIx (dVar 5) (dC (.int (1)))) (dCons (dBin gIx (dVar 5) (dC (.int (0)))) (dCons (dBin gAdd (dBin gIx (dVar 5) (dC (.int (1)))) (dBin gModI (dBin gFdivI (dBin gIx (dVar 3) (dC (.int (6)))) (dC (.int (2)))) (dC (.int (2))))) (dCons (dBin gIx (dVar 5) (dC (.int (2)))) (dCons (dBin gIx (dVar 5) (dC (.int (2)))) dNil)))))))) (dSeq (dIns 9 (dCons (dBin gModI (dBin gIx (dVar 3) (dC (.int (2)))) (dBin gAdd (dCallO gLen (dCons (dVar 9) dNil)) (dC (.int (1))))) (dCons (dImm (dBin gAdd (dVar 11) (dTup (dCons (dVar 10) (dCons (dBin gAdd (dVar 10) (dBin gModI (dBin gIx (dVar 3) (dC (.int (7)))) (dBin gSubI (dC (.int (25))) (dVar 10)))) dNil))))) dNil))) dNext))) dNext) (dSeq (dRetV (dTup (dCons (dVar 6) (dCons (dImm (dVar 7)) (dCons (dImm (dVar 8)) (dCons (dVar 9) dNil)))))) dNext))))))))
/-- k10: _law_why(_law_sky_here, _law_hour, _law_state_here, _law_order) of _law_led, _law_stand -/
def M_law_why (c0 : DF') (c1 : DF') : DS := (dSeq (dIfS (dAnd (dBin gEq (dVar 3) (dC (.str ("up" : Str)))) (dBin gEq (dBin gIx (dVar 2) (dC (.int (3)))) (dC (.int (0))))) (dSeq (dRet (dImm (dC (.str ("sacks" : Str))))) dNext) dNext) (dSeq (dIfS (dAnd (dBin gEq (dVar 3) (dC (.str ("down" : Str)))) (dBin gEq (dBin gIx (dVar 2) (dC (.int (4)))) (dC (.int (0))))) (dSeq (dRet (dImm (dC (.str ("puffs" : Str))))) dNext) dNext) (dSeq (dIfS (dAnd (dBin gEq (dVar 3) (dC (.str ("up" : Str)))) (dBin gEq (dBin gIx (dVar 2) (dC (.int (2)))) (dC (.int (5))))) (dSeq (dRet (dImm (dC (.str ("high" : Str))))) dNext) dNext) (dSeq (dIfS (dAnd (dBin gEq (dVar 3) (dC (.str ("down" : Str)))) (dBin gEq (dBin gIx (dVar 2) (dC (.int (2)))) (dC (.int (0))))) (dSeq (dRet (dImm (dC (.str ("low" : Str))))) dNext) dNext) (dSeq (dRet (dImm (dCall c1 (dCons (dVar 0) (dCons (dBin gAdd (dVar 1) (dC (.int (1)))) (dCons (dCall c0 (dCons (dVar 0) (dCons (dVar 1) (dCons (dVar 2) (dCons (dVar 3) dNil))))) dNil)))))) dNext)))))
/-- k10: held_back(state, order) -/
def M_held_back : DS := (dSeq (dIfS (dAnd (dBin gEq (dVar 1) (dC (.str ("up" : Str)))) (dBin gEq (dBin gIx (dVar 0) (dC (.int (3)))) (dC (.int (0))))) (dSeq (dRet (dImm (dC (.str ("sacks" : Str))))) dNext) dNext) (dSeq (dIfS (dAnd (dBin gEq (dVar 1) (dC (.str ("down" : Str)))) (dBin gEq (dBin gIx (dVar 0) (dC (.int (4)))) (dC (.int (0))))) (dSeq (dRet (dImm (dC (.str ("puffs" : Str))))) dNext) dNext) (dSeq (dIfS (dAnd (dBin gEq (dVar 1) (dC (.str ("up" : Str)))) (dBin gEq (dBin gIx (dVar 0) (dC (.int (2)))) (dC (.int (5))))) (dSeq (dRet (dImm (dC (.str ("high" : Str))))) dNext) dNext) (dSeq (dIfS (dAnd (dBin gEq (dVar 1) (dC (.str ("down" : Str)))) (dBin gEq (dBin gIx (dVar 0) (dC (.int (2)))) (dC (.int (0))))) (dSeq (dRet (dImm (dC (.str ("low" : Str))))) dNext) dNext) (dSeq (dRet (dImm (dC (.str ("" : Str))))) dNext)))))
/-- k10: led_to(sky, hour, state, order, hills, cool, winds, shuts, x, y, height, sacks, puffs, dx, dy) of wind_at -/
def M_led_to (c0 : DF') : DS := (dSeq (dUnp (gdTup 4 (gdCons (gdName 4) (gdCons (gdName 5) (gdCons (gdName 6) (gdCons (gdName 7) gdNil))))) (dVar 0)) (dSeq (dUnp (gdTup 5 (gdCons (gdName 8) (gdCons (gdName 9) (gdCons (gdName 10) (gdCons (gdName 11) (gdCons (gdName 12) gdNil)))))) (dVar 2)) (dSeq (dIfS (dBin gEq (dVar 3) (dC (.str ("up" : Str)))) (dSeq (dSet 10 (dBin gAdd (dVar 10) (dC (.int (1))))) (dSeq (dSet 11 (dBin gSubI (dVar 11) (dC (.int (1))))) dNext)) dNext) (dSeq (dIfS (dBin gEq (dVar 3) (dC (.str ("down" : Str)))) (dSeq (dSet 10 (dBin gSubI (dVar 10) (dC (.int (1))))) (dSeq (dSet 12 (dBin gSubI (dVar 12) (dC (.int (1))))) dNext)) dNext) (dSeq (dIfS (dBin gIn (dVar 1) (dVar 5)) (dSeq (dSet 10 (dCallO gMax (dCons (dC (.int (0))) (dCons (dBin gSubI (dVar 10) (dC (.int (1)))) dNil)))) dNext) dNext) (dSeq (dUnp (gdTup 2 (gdCons (gdName 13) (gdCons (gdName 14) gdNil))) (dCall c0 (dCons (dVar 6) (dCons (dVar 1) (dCons (dVar 10) dNil))))) (dSeq (dRetV (dTup (dCons (dImm (dBin gAdd (dVar 8) (dVar 13))) (dCons (dImm (dBin gAdd (dVar 9) (dVar 14))) (dCons (dImm (dVar 10)) (dCons (dImm (dVar 11)) (dCons (dImm (dVar 12)) dNil))))))) dNext)))))))
/-- k10: why_not(sky, hour, state, order, found) of led_to, standing, held_back -/
def M_why_not (c0 : DF') (c1 : DF') (c2 : DF') : DS := (dSeq (dSet 4 (dCall c2 (dCons (dVar 2) (dCons (dVar 3) dNil)))) (dSeq (dIfS (dBin gNe (dVar 4) (dC (.str ("" : Str)))) (dSeq (dRetV (dVar 4)) dNext) dNext) (dSeq (dRet (dImm (dCall c1 (dCons (dVar 0) (dCons (dBin gAdd (dVar 1) (dC (.int (1)))) (dCons (dCall c0 (dCons (dVar 0) (dCons (dVar 1) (dCons (dVar 2) (dCons (dVar 3) dNil))))) dNil)))))) dNext)))
/-- k10: next_state(sky, hour, state, order, why) of led_to, why_not -/
def M_next_state (c0 : DF') (c1 : DF') : DS := (dSeq (dSet 4 (dCall c1 (dCons (dVar 0) (dCons (dVar 1) (dCons (dVar 2) (dCons (dVar 3) dNil)))))) (dSeq (dIfS (dBin gNe (dVar 4) (dC (.str ("" : Str)))) (dSeq (dRaise (⟨("Stopped" : Str), [("at" : Str), ("why" : Str)]⟩ : ExEnt) (dCons (dC (.int (0))) (dCons (dVar 4) dNil))) dNext) dNext) (dSeq (dRet (dImm (dCall c0 (dCons (dVar 0) (dCons (dVar 1) (dCons (dVar 2) (dCons (dVar 3) dNil))))))) dNext)))
/-- k10: _law_answer(_law_sky_here, _law_hour, _law_state_here, _law_order, _law_found, e) of next_state -/
def M_law_answer (c0 : DF') : DS := (dSeq (dSet 4 (dC .non)) (dSeq (dTryE (⟨("Stopped" : Str), [("at" : Str), ("why" : Str)]⟩ : ExEnt) (dSeq (dSet 4 (dCall c0 (dCons (dVar 0) (dCons (dVar 1) (dCons (dVar 2) (dCons (dVar 3) dNil)))))) dNext) 5 4 true [("at" : Str), ("why" : Str)]) (dSeq (dRet (dImm (dVar 4))) dNext)))
/-- k10: choices(sky, hour, state, order) of why_not -/
def M_choices (c0 : DF') : DS := (dSeq (dRet (dComp (dItems (dC ((.ktp [.str ("up" : Str), .str ("level" : Str), .str ("down" : Str)])))) (gdName 3) (dBin gEq (dCall c0 (dCons (dVar 0) (dCons (dVar 1) (dCons (dVar 2) (dCons (dVar 3) dNil))))) (dC (.str ("" : Str)))) (dImm (dVar 3)) [3])) dNext)
/-- k12: _law_row(_law_sky_here, _law_hour, _law_state_here, _law_d, _law_orders, _law_due, _law_room, _law_at, _law_some, _law_order, _law_why_here, _law_rest, _law_one) of _law_led, _law_why -/
def M_law_row_l1 (c0 : DF') (c1 : DF') : DS := (dSeq (dApp 4 (dBin gIx (dTup (dCons (dC (.str ("up" : Str))) (dCons (dC (.str ("level" : Str))) (dCons (dC (.str ("down" : Str))) dNil)))) (dBin gModI (dBin gIx (dVar 3) (dBin gAdd (dC (.int (19))) (dVar 11))) (dC (.int (3)))))) dNext)
def M_law_row_l2 (c0 : DF') (c1 : DF') : DS := (dSeq (dSet 8 (dComp (dItems (dTup (dCons (dC (.str ("up" : Str))) (dCons (dC (.str ("level" : Str))) (dCons (dC (.str ("down" : Str))) dNil))))) (gdName 12) (dBin gEq (dCall c1 (dCons (dVar 0) (dCons (dBin gAdd (dVar 1) (dVar 7)) (dCons (dBin gIx (dVar 5) (dUn gNeg (dC (.int (1))))) (dCons (dVar 12) dNil))))) (dC (.str ("" : Str)))) (dVar 12) [12])) (dSeq (dSet 9 (dBin gIx (dTup (dCons (dC (.str ("up" : Str))) (dCons (dC (.str ("level" : Str))) (dCons (dC (.str ("down" : Str))) dNil)))) (dBin gModI (dBin gIx (dVar 3) (dBin gAdd (dC (.int (1))) (dVar 7))) (dC (.int (3)))))) (dSeq (dIfS (dAnd (dBin (gCmpI fun i j => decide (j < i)) (dCallO gLen (dCons (dVar 8) dNil)) (dC (.int (0)))) (dBin (gCmpI fun i j => decide (j < i)) (dBin gModI (dBin gIx (dVar 3) (dBin gAdd (dC (.int (10))) (dVar 7))) (dC (.int (7)))) (dC (.int (0))))) (dSeq (dSet 9 (dBin gIx (dVar 8) (dBin gModI (dBin gIx (dVar 3) (dBin gAdd (dC (.int (1))) (dVar 7))) (dCallO gLen (dCons (dVar 8) dNil))))) dNext) dNext) (dSeq (dApp 4 (dImm (dVar 9))) (dSeq (dSet 10 (dCall c1 (dCons (dVar 0) (dCons (dBin gAdd (dVar 1) (dVar 7)) (dCons (dBin gIx (dVar 5) (dUn gNeg (dC (.int (1))))) (dCons (dVar 9) dNil)))))) (dSeq (dIfS (dBin gNe (dVar 10) (dC (.str ("" : Str)))) (dSeq (dFor (dRange1 (dBin gModI (dBin gFdivI (dBin gIx (dVar 3) (dC (.int (0)))) (dC (.int (9)))) (dBin gSubI (dBin gAdd (dC (.int (1))) (dVar 6)) (dCallO gLen (dCons (dVar 4) dNil))))) (gdName 11) (M_law_row_l1 c0 c1) [11]) (dSeq (dRetV (dTup (dCons (dCallO gTuple (dCons (dVar 4) dNil)) (dCons (dImm (dTup (dCons (dVar 7) (dCons (dVar 10) dNil)))) dNil)))) dNext)) dNext) (dSeq (dApp 5 (dCall c0 (dCons (dVar 0) (dCons (dBin gAdd (dVar 1) (dVar 7)) (dCons (dBin gIx (dVar 5) (dUn gNeg (dC (.int (1))))) (dCons (dVar 9) dNil)))))) dNext)))))))
def M_law_row (c0 : DF') (c1 : DF') : DS := (dSeq (dSet 4 (dLst dNil)) (dSeq (dSet 5 (dLst (dCons (dImm (dVar 2)) dNil))) (dSeq (dSet 6 (dCallO gMin (dCons (dC (.int (8))) (dCons (dBin gSubI (dC (.int (24))) (dVar 1)) dNil)))) (dSeq (dFor (dRange1 (dCallO gMin (dCons (dBin gModI (dBin gIx (dVar 3) (dC (.int (0)))) (dC (.int (9)))) (dCons (dVar 6) dNil)))) (gdName 7) (M_law_row_l2 c0 c1) [7, 8, 9, 10, 11]) (dSeq (dRetV (dTup (dCons (dCallO gTuple (dCons (dVar 4) dNil)) (dCons (dVar 5) dNil)))) dNext)))))
/-- k12: flown(sky, hour, state, orders, found, at, order, why) of led_to, why_not -/
def M_flown_l1 (c0 : DF') (c1 : DF') : DS := (dSeq (dSet 7 (dCall c1 (dCons (dVar 0) (dCons (dBin gAdd (dVar 1) (dVar 5)) (dCons (dBin gIx (dVar 4) (dUn gNeg (dC (.int (1))))) (dCons (dVar 6) dNil)))))) (dSeq (dIfS (dBin gNe (dVar 7) (dC (.str ("" : Str)))) (dSeq (dRaise (⟨("Stopped" : Str), [("at" : Str), ("why" : Str)]⟩ : ExEnt) (dCons (dVar 5) (dCons (dVar 7) dNil))) dNext) dNext) (dSeq (dApp 4 (dCall c0 (dCons (dVar 0) (dCons (dBin gAdd (dVar 1) (dVar 5)) (dCons (dBin gIx (dVar 4) (dUn gNeg (dC (.int (1))))) (dCons (dVar 6) dNil)))))) dNext)))
def M_flown (c0 : DF') (c1 : DF') : DS := (dSeq (dSet 4 (dLst (dCons (dImm (dVar 2)) dNil))) (dSeq (dFor (dEnum (dVar 3)) (gdTup 2 (gdCons (gdName 5) (gdCons (gdName 6) gdNil))) (M_flown_l1 c0 c1) [5, 6, 7]) (dSeq (dRet (dVar 4)) dNext)))
/-- k12: _law_answer(_law_sky_here, _law_hour, _law_state_here, _law_orders, _law_found, e) of flown -/
def M_law_answer_2 (c0 : DF') : DS := (dSeq (dSet 4 (dImm (dC .non))) (dSeq (dTryE (⟨("Stopped" : Str), [("at" : Str), ("why" : Str)]⟩ : ExEnt) (dSeq (dSet 4 (dCallA c0 (dCons (dVar 0) (dCons (dVar 1) (dCons (dVar 2) (dCons (dVar 3) dNil)))))) dNext) 5 4 true [("at" : Str), ("why" : Str)]) (dSeq (dRet (dVar 4)) dNext)))
/-- k13: front(pairs, found, most, sacks, puffs) -/
def M_front_l1 : DS := (dSeq (dIfS (dBin (gCmpI fun i j => decide (j < i)) (dVar 4) (dVar 2)) (dSeq (dApp 1 (dImm (dTup (dCons (dVar 3) (dCons (dVar 4) dNil))))) (dSeq (dSet 2 (dVar 4)) dNext)) dNext) dNext)
def M_front : DS := (dSeq (dSet 1 (dLst dNil)) (dSeq (dSet 2 (dUn gNeg (dC (.int (1))))) (dSeq (dFor (dRev (dSorted (dCons (dVar 0) dNil))) (gdTup 2 (gdCons (gdName 3) (gdCons (gdName 4) gdNil))) M_front_l1 [3, 4]) (dSeq (dRet (dRevL (dVar 1))) dNext))))
/-- k13: least(pairs, found, sacks, puffs) -/
def M_least_l1 : DS := (dSeq (dIfS (dOr (dBin gEq (dCallO gLen (dCons (dVar 1) dNil)) (dC (.int (0)))) (dBin gLt (dVar 3) (dBin gIx (dBin gIx (dVar 1) (dUn gNeg (dC (.int (1))))) (dC (.int (1)))))) (dSeq (dApp 1 (dImm (dTup (dCons (dVar 2) (dCons (dVar 3) dNil))))) dNext) dNext) dNext)
def M_least : DS := (dSeq (dSet 1 (dLst dNil)) (dSeq (dFor (dItems (dSorted (dCons (dVar 0) dNil))) (gdTup 2 (gdCons (gdName 2) (gdCons (gdName 3) gdNil))) M_least_l1 [2, 3]) (dSeq (dRet (dVar 1)) dNext)))
/-- k13: beats(one, other) -/
def M_beats : DS := (dSeq (dRet (dImm (dAnd (dBin (gCmpI fun i j => decide (j ≤ i)) (dBin gIx (dVar 0) (dC (.int (0)))) (dBin gIx (dVar 1) (dC (.int (0))))) (dAnd (dBin (gCmpI fun i j => decide (j ≤ i)) (dBin gIx (dVar 0) (dC (.int (1)))) (dBin gIx (dVar 1) (dC (.int (1))))) (dBin gNe (dVar 0) (dVar 1)))))) dNext)
/-- k14: joined(one, other) of front -/
def M_joined (c0 : DF') : DS := (dSeq (dRet (dCallF c0 (dCons (dBin gAdd (dVar 0) (dVar 1)) dNil))) dNext)
/-- k14: _law_beaten(_law_pair, _law_pairs, _law_one) -/
def M_law_beaten : DS := (dSeq (dRet (dImm (dBin gIn (dC (.bl true)) (dComp (dItems (dVar 1)) (gdName 2) (dC (.bl true)) (dAnd (dBin (gCmpI fun i j => decide (j ≤ i)) (dBin gIx (dVar 2) (dC (.int (0)))) (dBin gIx (dVar 0) (dC (.int (0))))) (dAnd (dBin (gCmpI fun i j => decide (j ≤ i)) (dBin gIx (dVar 2) (dC (.int (1)))) (dBin gIx (dVar 0) (dC (.int (1))))) (dBin gNe (dVar 2) (dVar 0)))) [2])))) dNext)
/-- k14: _law_front(_law_pairs, _law_pair, _law_one) of _law_beaten -/
def M_law_front (c0 : DF') : DS := (dSeq (dRet (dComp (dItems (dSorted (dCons (dListOf (dCons (dDictOf (dCons (dComp (dItems (dVar 0)) (gdName 2) (dC (.bl true)) (dTup (dCons (dVar 2) (dCons (dC (.bl true)) dNil))) [2]) dNil)) dNil)) dNil))) (gdName 1) (dNot (dCall c0 (dCons (dVar 1) (dCons (dVar 0) dNil)))) (dImm (dVar 1)) [1])) dNext)
/-- k15: _law_case(_law_numbers_here, _law_base_here, _law_many, _law_left, _law_hour, _law_sky_here, _law_state_here) of _law_state, _law_sky, _law_base -/
def M_law_case (c0 : DF') (c1 : DF') (c2 : DF') : DS := (dSeq (dSet 1 (dCall c2 (dCons (dSl (dVar 0) dNo (dPart (dC (.int (3))))) dNil))) (dSeq (dSet 2 (dBin gModI (dBin gIx (dVar 0) (dC (.int (3)))) (dC (.int (5))))) (dSeq (dSet 3 (dTup (dCons (dC (.int (6))) (dCons (dC (.int (6))) dNil)))) (dSeq (dIfS (dBin gEq (dBin gModI (dBin gIx (dVar 0) (dC (.int (4)))) (dC (.int (6)))) (dC (.int (1)))) (dSeq (dSet 2 (dC (.int (5)))) dNext) dNext) (dSeq (dIfS (dBin gEq (dBin gModI (dBin gIx (dVar 0) (dC (.int (4)))) (dC (.int (6)))) (dC (.int (2)))) (dSeq (dSet 2 (dBin gSubI (dC (.int (8))) (dBin gModI (dBin gIx (dVar 0) (dC (.int (5)))) (dC (.int (3)))))) (dSeq (dSet 3 (dBin gIx (dLst (dCons (dTup (dCons (dC (.int (1))) (dCons (dC (.int (1))) dNil))) (dCons (dTup (dCons (dC (.int (3))) (dCons (dC (.int (0))) dNil))) (dCons (dTup (dCons (dC (.int (0))) (dCons (dC (.int (3))) dNil))) (dCons (dTup (dCons (dC (.int (2))) (dCons (dC (.int (0))) dNil))) dNil))))) (dBin gModI (dBin gIx (dVar 0) (dC (.int (9)))) (dC (.int (4)))))) dNext)) dNext) (dSeq (dSet 4 (dBin gModI (dBin gIx (dVar 0) (dC (.int (6)))) (dBin gSubI (dC (.int (25))) (dVar 2)))) (dSeq (dIfS (dBin gEq (dBin gModI (dBin gIx (dVar 0) (dC (.int (7)))) (dC (.int (5)))) (dC (.int (1)))) (dSeq (dSet 4 (dBin gSubI (dC (.int (24))) (dVar 2))) dNext) dNext) (dSeq (dSet 5 (dCall c1 (dCons (dSl (dVar 0) (dPart (dC (.int (10)))) (dPart (dC (.int (130))))) (dCons (dVar 1) (dCons (dVar 4) dNil))))) (dSeq (dSet 6 (dCall c0 (dCons (dSl (dVar 0) (dPart (dC (.int (130)))) (dPart (dC (.int (136))))) (dCons (dVar 1) (dCons (dC (.int (6))) dNil))))) (dSeq (dSet 6 (dBin gAdd (dSl (dVar 6) dNo (dPart (dC (.int (3))))) (dTup (dCons (dBin gModI (dBin gIx (dVar 0) (dC (.int (133)))) (dBin gAdd (dBin gIx (dVar 3) (dC (.int (0)))) (dC (.int (1))))) (dCons (dBin gModI (dBin gIx (dVar 0) (dC (.int (134)))) (dBin gAdd (dBin gIx (dVar 3) (dC (.int (1)))) (dC (.int (1))))) dNil))))) (dSeq (dRetV (dTup (dCons (dVar 1) (dCons (dImm (dVar 4)) (dCons (dImm (dVar 2)) (dCons (dVar 5) (dCons (dImm (dVar 6)) dNil))))))) dNext)))))))))))
/-- k15: _law_flights(_law_sky_here, _law_hour, _law_state_here, _law_many, _law_rows, _law_at, _law_later, _law_orders, _law_one, _law_order) of _law_why, _law_led -/
def M_law_flights_l1 (c0 : DF') (c1 : DF') : DS := (dSeq (dIfS (dBin gEq (dCall c0 (dCons (dVar 0) (dCons (dBin gAdd (dVar 1) (dVar 5)) (dCons (dVar 8) (dCons (dVar 9) dNil))))) (dC (.str ("" : Str)))) (dSeq (dApp 6 (dImm (dTup (dCons (dBin gAdd (dVar 7) (dTup (dCons (dVar 9) dNil))) (dCons (dCall c1 (dCons (dVar 0) (dCons (dBin gAdd (dVar 1) (dVar 5)) (dCons (dVar 8) (dCons (dVar 9) dNil))))) dNil))))) dNext) dNext) dNext)
def M_law_flights_l2 (c0 : DF') (c1 : DF') : DS := (dSeq (dFor (dItems (dTup (dCons (dC (.str ("up" : Str))) (dCons (dC (.str ("level" : Str))) (dCons (dC (.str ("down" : Str))) dNil))))) (gdName 9) (M_law_flights_l1 c0 c1) [9]) dNext)
def M_law_flights_l3 (c0 : DF') (c1 : DF') : DS := (dSeq (dSet 6 (dLst dNil)) (dSeq (dForC 4 (gdTup 2 (gdCons (gdName 7) (gdCons (gdName 8) gdNil))) (M_law_flights_l2 c0 c1) [7, 8, 9]) (dSeq (dMove 4 6) dNext)))
def M_law_flights (c0 : DF') (c1 : DF') : DS := (dSeq (dSet 4 (dLst (dCons (dImm (dTup (dCons (dTup dNil) (dCons (dVar 2) dNil)))) dNil))) (dSeq (dFor (dRange1 (dVar 3)) (gdName 5) (M_law_flights_l3 c0 c1) [5, 6, 7, 8, 9]) (dSeq (dRet (dVar 4)) dNext)))
/-- k15: next_state(sky, hour, state, order, why) of led_to, why_not -/
def M_next_state_2 (c0 : DF') (c1 : DF') : DS := (dSeq (dSet 4 (dCall c1 (dCons (dVar 0) (dCons (dVar 1) (dCons (dVar 2) (dCons (dVar 3) dNil)))))) (dSeq (dIfS (dBin gNe (dVar 4) (dC (.str ("" : Str)))) (dSeq dNever dNext) dNext) (dSeq (dRet (dImm (dCall c0 (dCons (dVar 0) (dCons (dVar 1) (dCons (dVar 2) (dCons (dVar 3) dNil))))))) dNext)))
/-- k16: behind(sky, hour, some, found, state, order) of choices, next_state -/
def M_behind_l1 (c0 : DF') (c1 : DF') : DS := (dSeq (dPut 3 (dCall c1 (dCons (dVar 0) (dCons (dVar 1) (dCons (dVar 4) (dCons (dVar 5) dNil))))) (dC (.bl true))) dNext)
def M_behind_l2 (c0 : DF') (c1 : DF') : DS := (dSeq (dFor (dItems (dCall c0 (dCons (dVar 0) (dCons (dVar 1) (dCons (dVar 4) dNil))))) (gdName 5) (M_behind_l1 c0 c1) [5]) dNext)
def M_behind (c0 : DF') (c1 : DF') : DS := (dSeq (dSet 3 (dC (.dic true [] []))) (dSeq (dFor (dItems (dVar 2)) (gdName 4) (M_behind_l2 c0 c1) [4, 5]) (dSeq (dRet (dSorted (dCons (dListOf (dCons (dVar 3) dNil)) dNil))) dNext)))
/-- k16: states(sky, hour, state, many, found, at) of behind -/
def M_states_l1 (c0 : DF') : DS := (dSeq (dSet 4 (dCallA c0 (dCons (dVar 0) (dCons (dBin gAdd (dVar 1) (dVar 5)) (dCons (dVar 4) dNil))))) dNext)
def M_states (c0 : DF') : DS := (dSeq (dSet 4 (dLst (dCons (dImm (dVar 2)) dNil))) (dSeq (dFor (dRange1 (dVar 3)) (gdName 5) (M_states_l1 c0) [5]) (dSeq (dRet (dVar 4)) dNext)))
/-- k17: unbeaten(some, left, x, y, height, sacks, puffs, spot, found) of front -/
def M_unbeaten_l1 (c0 : DF') : DS := (dSeq (dApp 8 (dImm (dTup (dCons (dVar 2) (dCons (dVar 3) (dCons (dVar 4) (dCons (dVar 5) (dCons (dVar 6) dNil)))))))) dNext)
def M_unbeaten_l2 (c0 : DF') : DS := (dSeq (dFor (dItems (dCall c0 (dCons (dBin gIx (dVar 1) (dTup (dCons (dVar 2) (dCons (dVar 3) (dCons (dVar 4) dNil))))) dNil))) (gdTup 2 (gdCons (gdName 5) (gdCons (gdName 6) gdNil))) (M_unbeaten_l1 c0) [5, 6]) dNext)
def M_unbeaten_l3 (c0 : DF') : DS := (dSeq (dSet 7 (dTup (dCons (dVar 2) (dCons (dVar 3) (dCons (dVar 4) dNil))))) (dSeq (dIfS (dNotInD 1 (dVar 7)) (dSeq (dPutN 1 (dVar 7)) dNext) dNext) (dSeq (dAppD 1 (dVar 7) (dTup (dCons (dVar 5) (dCons (dVar 6) dNil)))) dNext)))
def M_unbeaten (c0 : DF') : DS := (dSeq (dSet 1 (dC (.dic true [] []))) (dSeq (dFor (dItems (dVar 0)) (gdTup 5 (gdCons (gdName 2) (gdCons (gdName 3) (gdCons (gdName 4) (gdCons (gdName 5) (gdCons (gdName 6) gdNil)))))) (M_unbeaten_l3 c0) [2, 3, 4, 5, 6, 7]) (dSeq (dSet 8 (dLst dNil)) (dSeq (dForK 1 (gdTup 3 (gdCons (gdName 2) (gdCons (gdName 3) (gdCons (gdName 4) gdNil)))) (M_unbeaten_l2 c0) [2, 3, 4, 5, 6]) (dSeq (dRet (dSorted (dCons (dVar 8) dNil))) dNext)))))
/-- k17: table(sky, hour, state, many, rows, at) of behind, unbeaten -/
def M_table_l1 (c0 : DF') (c1 : DF') : DS := (dSeq (dApp 4 (dCall c1 (dCons (dCall c0 (dCons (dVar 0) (dCons (dBin gAdd (dVar 1) (dVar 5)) (dCons (dBin gIx (dVar 4) (dUn gNeg (dC (.int (1))))) dNil)))) dNil))) dNext)
def M_table (c0 : DF') (c1 : DF') : DS := (dSeq (dSet 4 (dLst (dCons (dLst (dCons (dImm (dVar 2)) dNil)) dNil))) (dSeq (dFor (dRange1 (dVar 3)) (gdName 5) (M_table_l1 c0 c1) [5]) (dSeq (dRet (dVar 4)) dNext)))
/-- k17: _law_kept(_law_some, _law_found, _law_one, _law_state_here, _law_other) of _law_beaten -/
def M_law_kept_l1 (c0 : DF') : DS := (dSeq (dIfS (dNot (dCall c0 (dCons (dSl (dVar 2) (dPart (dC (.int (3)))) dNo) (dCons (dComp (dItems (dVar 0)) (gdName 4) (dBin gEq (dSl (dVar 4) dNo (dPart (dC (.int (3))))) (dSl (dVar 2) dNo (dPart (dC (.int (3)))))) (dSl (dVar 4) (dPart (dC (.int (3)))) dNo) [4]) dNil)))) (dSeq (dApp 1 (dImm (dVar 2))) dNext) dNext) dNext)
def M_law_kept (c0 : DF') : DS := (dSeq (dSet 1 (dLst dNil)) (dSeq (dFor (dItems (dSorted (dCons (dListOf (dCons (dDictOf (dCons (dComp (dItems (dVar 0)) (gdName 3) (dC (.bl true)) (dTup (dCons (dVar 3) (dCons (dC (.bl true)) dNil))) [3]) dNil)) dNil)) dNil))) (gdName 2) (M_law_kept_l1 c0) [2]) (dSeq (dRet (dVar 1)) dNext)))
/-- k18: _law_plain(_law_row, _law_state_here, _law_part) -/
def M_law_plain_l1 : DS := (dSeq (dIfS (dOr (dNot (dIsT .tuple (dVar 1))) (dBin gNe (dCallO gLen (dCons (dVar 1) dNil)) (dC (.int (5))))) (dSeq (dRet (dImm (dC (.bl false)))) dNext) dNext) (dSeq (dIfS (dNot (dCallO gAll (dCons (dComp (dItems (dVar 1)) (gdName 2) (dC (.bl true)) (dAnd (dIsT .int (dVar 2)) (dNot (dIsT .bool (dVar 2)))) [2]) dNil))) (dSeq (dRet (dImm (dC (.bl false)))) dNext) dNext) dNext))
def M_law_plain : DS := (dSeq (dIfS (dNot (dIsT .list (dVar 0))) (dSeq (dRet (dImm (dC (.bl false)))) dNext) dNext) (dSeq (dFor (dItems (dVar 0)) (gdName 1) M_law_plain_l1 [1]) (dSeq (dRet (dImm (dC (.bl true)))) dNext)))
/-- k18: _law_link(_law_sky_here, _law_hour, _law_row, _law_later, _law_spots_here, _law_led_here, _law_state_here, _law_order, _law_one, _law_p) of _law_why, _law_led, _law_spots -/
def M_law_link_l1 (c0 : DF') (c1 : DF') (c2 : DF') : DS := (dSeq (dIfS (dBin gEq (dCall c0 (dCons (dVar 0) (dCons (dVar 1) (dCons (dVar 6) (dCons (dVar 7) dNil))))) (dC (.str ("" : Str)))) (dSeq (dSet 8 (dCall c1 (dCons (dVar 0) (dCons (dVar 1) (dCons (dVar 6) (dCons (dVar 7) dNil)))))) (dSeq (dPut 5 (dVar 8) (dC (.bl true))) (dSeq (dIfS (dNot (dCallO gAny (dCons (dComp (dItems (dGet (dVar 4) (dSl (dVar 8) dNo (dPart (dC (.int (3))))) (dLst dNil))) (gdName 9) (dC (.bl true)) (dAnd (dBin (gCmpI fun i j => decide (j ≤ i)) (dBin gIx (dVar 9) (dC (.int (0)))) (dBin gIx (dVar 8) (dC (.int (3))))) (dBin (gCmpI fun i j => decide (j ≤ i)) (dBin gIx (dVar 9) (dC (.int (1)))) (dBin gIx (dVar 8) (dC (.int (4)))))) [9]) dNil))) (dSeq (dRet (dImm (dC (.bl false)))) dNext) dNext) dNext))) dNext) dNext)
def M_law_link_l2 (c0 : DF') (c1 : DF') (c2 : DF') : DS := (dSeq (dFor (dItems (dTup (dCons (dC (.str ("up" : Str))) (dCons (dC (.str ("level" : Str))) (dCons (dC (.str ("down" : Str))) dNil))))) (gdName 7) (M_law_link_l1 c0 c1 c2) [7, 8]) dNext)
def M_law_link (c0 : DF') (c1 : DF') (c2 : DF') : DS := (dSeq (dSet 4 (dCall c2 (dCons (dVar 3) dNil))) (dSeq (dSet 5 (dC (.dic true [] []))) (dSeq (dFor (dItems (dVar 2)) (gdName 6) (M_law_link_l2 c0 c1 c2) [6, 7, 8]) (dSeq (dRet (dImm (dCallO gAll (dCons (dComp (dItems (dVar 3)) (gdName 6) (dC (.bl true)) (dBin gIn (dVar 6) (dVar 5)) [6]) dNil)))) dNext))))
/-- k19: _law_flat(_law_rows, _law_found, _law_row) -/
def M_law_flat_l1 : DS := (dSeq (dSet 1 (dImmL (dBin gCatL (dVar 1) (dVar 2)))) dNext)
def M_law_flat : DS := (dSeq (dSet 1 (dLst dNil)) (dSeq (dFor (dItems (dVar 0)) (gdName 2) M_law_flat_l1 [2]) (dSeq (dRet (dVar 1)) dNext)))
/-- k19: first_over(rows, x, y, at, row, state) -/
def M_first_over_l1 : DS := (dSeq (dIfS (dAnd (dBin gEq (dBin gIx (dVar 5) (dC (.int (0)))) (dVar 1)) (dBin gEq (dBin gIx (dVar 5) (dC (.int (1)))) (dVar 2))) (dSeq (dRet (dImm (dVar 3))) dNext) dNext) dNext)
def M_first_over_l2 : DS := (dSeq (dFor (dItems (dVar 4)) (gdName 5) M_first_over_l1 [5]) dNext)
def M_first_over : DS := (dSeq (dFor (dEnum (dVar 0)) (gdTup 2 (gdCons (gdName 3) (gdCons (gdName 4) gdNil))) M_first_over_l2 [3, 4, 5]) (dSeq (dRet (dImm (dC .non))) dNext))
/-- k20: _law_next(_law_sky_here, _law_hour, _law_some, _law_found, _law_one, _law_order) of _law_why, _law_led -/
def M_law_next_l1 (c0 : DF') (c1 : DF') : DS := (dSeq (dIfS (dBin gEq (dCall c0 (dCons (dVar 0) (dCons (dVar 1) (dCons (dVar 4) (dCons (dVar 5) dNil))))) (dC (.str ("" : Str)))) (dSeq (dPut 3 (dCall c1 (dCons (dVar 0) (dCons (dVar 1) (dCons (dVar 4) (dCons (dVar 5) dNil))))) (dC (.bl true))) dNext) dNext) dNext)
def M_law_next_l2 (c0 : DF') (c1 : DF') : DS := (dSeq (dFor (dItems (dTup (dCons (dC (.str ("up" : Str))) (dCons (dC (.str ("level" : Str))) (dCons (dC (.str ("down" : Str))) dNil))))) (gdName 5) (M_law_next_l1 c0 c1) [5]) dNext)
def M_law_next (c0 : DF') (c1 : DF') : DS := (dSeq (dSet 3 (dC (.dic true [] []))) (dSeq (dFor (dItems (dVar 2)) (gdName 4) (M_law_next_l2 c0 c1) [4, 5]) (dSeq (dRet (dSorted (dCons (dListOf (dCons (dVar 3) dNil)) dNil))) dNext)))
/-- k20: _law_layers(_law_sky_here, _law_hour, _law_state_here, _law_many, _law_rows, _law_at) of _law_next -/
def M_law_layers_l1 (c0 : DF') : DS := (dSeq (dApp 4 (dCall c0 (dCons (dVar 0) (dCons (dBin gAdd (dVar 1) (dVar 5)) (dCons (dBin gIx (dVar 4) (dUn gNeg (dC (.int (1))))) dNil))))) dNext)
def M_law_layers (c0 : DF') : DS := (dSeq (dSet 4 (dLst (dCons (dLst (dCons (dImm (dVar 2)) dNil)) dNil))) (dSeq (dFor (dRange1 (dVar 3)) (gdName 5) (M_law_layers_l1 c0) [5]) (dSeq (dRet (dVar 4)) dNext)))
/-- k20: _law_goal(_law_d, _law_reached, _law_base_here, _law_one) -/
def M_law_goal : DS := (dSeq (dIfS (dBin gEq (dBin gModI (dBin gIx (dVar 0) (dC (.int (0)))) (dC (.int (4)))) (dC (.int (0)))) (dSeq (dRetV (dTup (dCons (dBin gSubI (dBin gAdd (dBin gIx (dVar 2) (dC (.int (0)))) (dBin gModI (dBin gIx (dVar 0) (dC (.int (1)))) (dC (.int (9))))) (dC (.int (4)))) (dCons (dBin gSubI (dBin gAdd (dBin gIx (dVar 2) (dC (.int (1)))) (dBin gModI (dBin gIx (dVar 0) (dC (.int (2)))) (dC (.int (9))))) (dC (.int (4)))) dNil)))) dNext) dNext) (dSeq (dSet 3 (dBin gIx (dVar 1) (dBin gModI (dBin gIx (dVar 0) (dC (.int (1)))) (dCallO gLen (dCons (dVar 1) dNil))))) (dSeq (dRetV (dTup (dCons (dImm (dBin gAdd (dBin gIx (dVar 3) (dC (.int (0)))) (dBin gIx (dLst (dCons (dC (.int (0))) (dCons (dC (.int (0))) (dCons (dC (.int (0))) (dCons (dC (.int (1))) (dCons (dUn gNeg (dC (.int (1)))) dNil)))))) (dBin gModI (dBin gIx (dVar 0) (dC (.int (2)))) (dC (.int (5))))))) (dCons (dImm (dBin gAdd (dBin gIx (dVar 3) (dC (.int (1)))) (dBin gIx (dLst (dCons (dC (.int (0))) (dCons (dC (.int (0))) (dCons (dC (.int (0))) (dCons (dC (.int (1))) (dCons (dUn gNeg (dC (.int (1)))) dNil)))))) (dBin gModI (dBin gIx (dVar 0) (dC (.int (3)))) (dC (.int (5))))))) dNil)))) dNext)))
/-- k20: _law_rank(_law_orders, _law_order) -/
def M_law_rank : DS := (dSeq (dRet (dImm (dCallO gTuple (dCons (dComp (dItems (dVar 0)) (gdName 1) (dC (.bl true)) (dBin gIx (dDict [("up" : Str), ("level" : Str), ("down" : Str)] (dCons (dC (.int (0))) (dCons (dC (.int (1))) (dCons (dC (.int (2))) dNil)))) (dVar 1)) [1]) dNil)))) dNext)
/-- k20: _law_ways(_law_sky_here, _law_hour, _law_state_here, _law_many, _law_x, _law_y, _law_kept, _law_rows, _law_at, _law_orders, _law_one, _law_later, _law_rank_here, _law_flight, _law_two, _law_pair) of _law_front, _law_flights, _law_rank -/
def M_law_ways_l1 (c0 : DF') (c1 : DF') (c2 : DF') : DS := (dSeq (dApp 11 (dImm (dTup (dCons (dBin gAdd (dVar 9) (dVar 13)) (dCons (dVar 14) dNil))))) dNext)
def M_law_ways_l2 (c0 : DF') (c1 : DF') (c2 : DF') : DS := (dSeq (dIfS (dBin gLt (dVar 8) (dVar 3)) (dSeq (dFor (dItems (dCall c1 (dCons (dVar 0) (dCons (dBin gAdd (dVar 1) (dVar 8)) (dCons (dVar 10) (dCons (dC (.int (1))) dNil)))))) (gdTup 2 (gdCons (gdName 13) (gdCons (gdName 14) gdNil))) (M_law_ways_l1 c0 c1 c2) [13, 14]) dNext) dNext) dNext)
def M_law_ways_l3 (c0 : DF') (c1 : DF') (c2 : DF') : DS := (dSeq (dIfS (dAnd (dBin gEq (dBin gIx (dVar 10) (dC (.int (0)))) (dVar 4)) (dBin gEq (dBin gIx (dVar 10) (dC (.int (1)))) (dVar 5))) (dSeq (dSet 12 (dCall c2 (dCons (dVar 9) dNil))) (dSeq (dIfS (dOr (dBin gNotIn (dSl (dVar 10) (dPart (dC (.int (3)))) dNo) (dVar 6)) (dBin gLt (dVar 12) (dBin gIx (dBin gIx (dVar 6) (dSl (dVar 10) (dPart (dC (.int (3)))) dNo)) (dC (.int (0)))))) (dSeq (dPut 6 (dSl (dVar 10) (dPart (dC (.int (3)))) dNo) (dImm (dTup (dCons (dVar 12) (dCons (dVar 9) dNil))))) dNext) dNext) dNext)) dNext) dNext)
def M_law_ways_l4 (c0 : DF') (c1 : DF') (c2 : DF') : DS := (dSeq (dFor (dItems (dVar 7)) (gdTup 2 (gdCons (gdName 9) (gdCons (gdName 10) gdNil))) (M_law_ways_l3 c0 c1 c2) [9, 10, 12]) (dSeq (dSet 11 (dLst dNil)) (dSeq (dFor (dItems (dVar 7)) (gdTup 2 (gdCons (gdName 9) (gdCons (gdName 10) gdNil))) (M_law_ways_l2 c0 c1 c2) [9, 10, 13, 14]) (dSeq (dMove 7 11) dNext))))
def M_law_ways (c0 : DF') (c1 : DF') (c2 : DF') : DS := (dSeq (dSet 6 (dC (.dic true [] []))) (dSeq (dSet 7 (dLst (dCons (dTup (dCons (dTup dNil) (dCons (dVar 2) dNil))) dNil))) (dSeq (dFor (dRange1 (dBin gAdd (dVar 3) (dC (.int (1))))) (gdName 8) (M_law_ways_l4 c0 c1 c2) [8, 9, 10, 11, 12, 13, 14]) (dSeq (dRet (dComp (dItems (dCall c0 (dCons (dListOf (dCons (dVar 6) dNil)) dNil))) (gdName 15) (dC (.bl true)) (dImm (dBin gAdd (dVar 15) (dTup (dCons (dBin gIx (dBin gIx (dVar 6) (dVar 15)) (dC (.int (1)))) dNil)))) [15])) dNext))))
/-- k20: earlier(one, other) of rank_of -/
def M_earlier (c0 : DF') : DS := (dSeq (dRet (dImm (dBin gLt (dCall c0 (dCons (dVar 0) dNil)) (dCall c0 (dCons (dVar 1) dNil))))) dNext)
/-- k20: noted(found, rows, x, y, state, pair) of earlier -/
def M_noted_l1 (c0 : DF') : DS := (dSeq (dIfS (dAnd (dBin gEq (dBin gIx (dVar 4) (dC (.int (0)))) (dVar 2)) (dBin gEq (dBin gIx (dVar 4) (dC (.int (1)))) (dVar 3))) (dSeq (dSet 5 (dTup (dCons (dBin gIx (dVar 4) (dC (.int (3)))) (dCons (dBin gIx (dVar 4) (dC (.int (4)))) dNil)))) (dSeq (dIfS (dOr (dBin gNotIn (dVar 5) (dVar 0)) (dCall c0 (dCons (dBin gIx (dVar 1) (dVar 4)) (dCons (dBin gIx (dVar 0) (dVar 5)) dNil)))) (dSeq (dPut 0 (dVar 5) (dBin gIx (dVar 1) (dVar 4))) dNext) dNext) dNext)) dNext) dNext)
def M_noted (c0 : DF') : DS := (dSeq (dFor (dItems (dVar 1)) (gdName 4) (M_noted_l1 c0) [4, 5]) dNext)
/-- k20: onward(sky, hour, rows, found, state, order, other, orders) of choices, earlier, next_state -/
def M_onward_l1 (c0 : DF') (c1 : DF') (c2 : DF') : DS := (dSeq (dSet 6 (dCall c2 (dCons (dVar 0) (dCons (dVar 1) (dCons (dVar 4) (dCons (dVar 5) dNil)))))) (dSeq (dSet 7 (dBin gAdd (dBin gIx (dVar 2) (dVar 4)) (dTup (dCons (dVar 5) dNil)))) (dSeq (dIfS (dOr (dBin gNotIn (dVar 6) (dVar 3)) (dCall c1 (dCons (dVar 7) (dCons (dBin gIx (dVar 3) (dVar 6)) dNil)))) (dSeq (dPut 3 (dVar 6) (dImm (dVar 7))) dNext) dNext) dNext)))
def M_onward_l2 (c0 : DF') (c1 : DF') (c2 : DF') : DS := (dSeq (dFor (dItems (dCall c0 (dCons (dVar 0) (dCons (dVar 1) (dCons (dVar 4) dNil))))) (gdName 5) (M_onward_l1 c0 c1 c2) [5, 6, 7]) dNext)
def M_onward (c0 : DF') (c1 : DF') (c2 : DF') : DS := (dSeq (dSet 3 (dC (.dic true [] []))) (dSeq (dFor (dItems (dVar 2)) (gdName 4) (M_onward_l2 c0 c1 c2) [4, 5, 6, 7]) (dSeq (dRet (dVar 3)) dNext)))
/-- k20: ways(sky, hour, state, many, x, y, rows, found, at, pair) of front, noted, onward -/
def M_ways_l1 (c0 : DF') (c1 : DF') (c2 : DF') : DS := (dSeq (dSet 6 (dCall c2 (dCons (dVar 0) (dCons (dBin gAdd (dVar 1) (dVar 8)) (dCons (dVar 6) dNil))))) (dSeq (dDrop (dCall c1 (dCons (dVar 7) (dCons (dVar 6) (dCons (dVar 4) (dCons (dVar 5) dNil)))))) dNext))
def M_ways (c0 : DF') (c1 : DF') (c2 : DF') : DS := (dSeq (dSet 6 (dDict1 (dVar 2) (dTup dNil))) (dSeq (dSet 7 (dC (.dic true [] []))) (dSeq (dDrop (dCall c1 (dCons (dVar 7) (dCons (dVar 6) (dCons (dVar 4) (dCons (dVar 5) dNil)))))) (dSeq (dFor (dRange1 (dVar 3)) (gdName 8) (M_ways_l1 c0 c1 c2) [8]) (dSeq (dRet (dComp (dItems (dCall c0 (dCons (dListOf (dCons (dVar 7) dNil)) dNil))) (gdName 9) (dC (.bl true)) (dImm (dTup (dCons (dBin gIx (dVar 9) (dC (.int (0)))) (dCons (dBin gIx (dVar 9) (dC (.int (1)))) (dCons (dBin gIx (dVar 7) (dVar 9)) dNil))))) [9])) dNext)))))
/-- k21: _law_walk(_law_sky_here, _law_hour, _law_state_here, _law_orders, _law_at) of _law_led, _law_why -/
def M_law_walk_l1 (c0 : DF') (c1 : DF') : DS := (dSeq (dIfS (dBin gNotIn (dBin gIx (dVar 3) (dVar 4)) (dTup (dCons (dC (.str ("up" : Str))) (dCons (dC (.str ("level" : Str))) (dCons (dC (.str ("down" : Str))) dNil))))) (dSeq (dRet (dImm (dC .non))) dNext) dNext) (dSeq (dIfS (dBin gNe (dCall c1 (dCons (dVar 0) (dCons (dBin gAdd (dVar 1) (dVar 4)) (dCons (dVar 2) (dCons (dBin gIx (dVar 3) (dVar 4)) dNil))))) (dC (.str ("" : Str)))) (dSeq (dRet (dImm (dC .non))) dNext) dNext) (dSeq (dSet 2 (dCall c0 (dCons (dVar 0) (dCons (dBin gAdd (dVar 1) (dVar 4)) (dCons (dVar 2) (dCons (dBin gIx (dVar 3) (dVar 4)) dNil)))))) dNext)))
def M_law_walk (c0 : DF') (c1 : DF') : DS := (dSeq (dFor (dRange1 (dCallO gLen (dCons (dVar 3) dNil))) (gdName 4) (M_law_walk_l1 c0 c1) [4]) (dSeq (dRet (dImm (dVar 2))) dNext))
/-- k21: _law_whole(_law_part) -/
def M_law_whole : DS := (dSeq (dRet (dImm (dAnd (dIsT .int (dVar 0)) (dNot (dIsT .bool (dVar 0)))))) dNext)
/-- k22: best(sky, hour, state, many, x, y, some) of ways -/
def M_best (c0 : DF') : DS := (dSeq (dSet 6 (dCall c0 (dCons (dVar 0) (dCons (dVar 1) (dCons (dVar 2) (dCons (dVar 3) (dCons (dVar 4) (dCons (dVar 5) dNil)))))))) (dSeq (dIfS (dBin gEq (dCallO gLen (dCons (dVar 6) dNil)) (dC (.int (0)))) (dSeq (dRet (dImm (dC .non))) dNext) dNext) (dSeq (dRet (dImm (dBin gIx (dBin gIx (dVar 6) (dC (.int (0)))) (dC (.int (2)))))) dNext)))
/-- k23: _law_least(_law_pairs, _law_once, _law_found, _law_one, _law_pair, _law_two) -/
def M_law_least_l1 : DS := (dSeq (dIfS (dNot (dCallO gAny (dCons (dComp (dItems (dVar 1)) (gdName 5) (dC (.bl true)) (dAnd (dBin (gCmpI fun i j => decide (j ≤ i)) (dBin gIx (dVar 3) (dC (.int (0)))) (dBin gIx (dVar 5) (dC (.int (0))))) (dAnd (dBin (gCmpI fun i j => decide (j ≤ i)) (dBin gIx (dVar 3) (dC (.int (1)))) (dBin gIx (dVar 5) (dC (.int (1))))) (dBin gNe (dVar 3) (dVar 5)))) [5]) dNil))) (dSeq (dApp 2 (dImm (dVar 3))) dNext) dNext) dNext)
def M_law_least : DS := (dSeq (dSet 1 (dSorted (dCons (dListOf (dCons (dDictOf (dCons (dComp (dItems (dVar 0)) (gdName 4) (dC (.bl true)) (dTup (dCons (dVar 4) (dCons (dC (.bl true)) dNil))) [4]) dNil)) dNil)) dNil))) (dSeq (dSet 2 (dLst dNil)) (dSeq (dFor (dItems (dVar 1)) (gdName 3) M_law_least_l1 [3]) (dSeq (dRet (dVar 2)) dNext))))
/-- k23: dearer(pairs, cost, found, sacks, puffs, pair) -/
def M_dearer : DS := (dSeq (dSet 2 (dComp (dItems (dVar 0)) (gdTup 2 (gdCons (gdName 3) (gdCons (gdName 4) gdNil))) (dC (.bl true)) (dTup (dCons (dBin gAdd (dVar 3) (dBin gIx (dVar 1) (dC (.int (0))))) (dCons (dBin gAdd (dVar 4) (dBin gIx (dVar 1) (dC (.int (1))))) dNil))) [3, 4])) (dSeq (dRet (dComp (dItems (dVar 2)) (gdName 5) (dAnd (dBin (gCmpI fun i j => decide (i ≤ j)) (dBin gIx (dVar 5) (dC (.int (0)))) (dC (.int (6)))) (dBin (gCmpI fun i j => decide (i ≤ j)) (dBin gIx (dVar 5) (dC (.int (1)))) (dC (.int (6))))) (dImm (dVar 5)) [5])) dNext))
/-- k23: needed(sky, hour, many, x, y, height, to_x, to_y) of needs_from -/
def M_needed (c0 : DF') : DS := (dSeq (dRet (dListOf (dCons (dCall c0 (dCons (dVar 0) (dCons (dVar 1) (dCons (dBin gAdd (dVar 1) (dVar 2)) (dCons (dTup (dCons (dVar 3) (dCons (dVar 4) (dCons (dVar 5) dNil)))) (dCons (dTup (dCons (dVar 6) (dCons (dVar 7) dNil))) (dCons (dC (.dic true [] [])) dNil))))))) dNil))) dNext)
/-- k25: _law_chain(_law_pairs, _law_k) of _law_same -/
def M_law_chain_l1 (c0 : DF') : DS := (dSeq (dIfS (dNot (dCall c0 (dCons (dBin gIx (dVar 0) (dVar 1)) (dCons (dTup (dCons (dBin gIx (dBin gIx (dVar 0) (dVar 1)) (dC (.int (0)))) (dCons (dBin gIx (dBin gIx (dVar 0) (dVar 1)) (dC (.int (1)))) dNil))) dNil)))) (dSeq (dRet (dImm (dC (.bl false)))) dNext) dNext) (dSeq (dIfS (dAnd (dBin (gCmpI fun i j => decide (j < i)) (dVar 1) (dC (.int (0)))) (dBin (gCmpI fun i j => decide (i ≤ j)) (dBin gIx (dBin gIx (dVar 0) (dVar 1)) (dC (.int (0)))) (dBin gIx (dBin gIx (dVar 0) (dBin gSubI (dVar 1) (dC (.int (1))))) (dC (.int (0)))))) (dSeq (dRet (dImm (dC (.bl false)))) dNext) dNext) (dSeq (dIfS (dAnd (dBin (gCmpI fun i j => decide (j < i)) (dVar 1) (dC (.int (0)))) (dBin (gCmpI fun i j => decide (j ≤ i)) (dBin gIx (dBin gIx (dVar 0) (dVar 1)) (dC (.int (1)))) (dBin gIx (dBin gIx (dVar 0) (dBin gSubI (dVar 1) (dC (.int (1))))) (dC (.int (1)))))) (dSeq (dRet (dImm (dC (.bl false)))) dNext) dNext) dNext)))
def M_law_chain (c0 : DF') : DS := (dSeq (dIfS (dNot (dIsT .list (dVar 0))) (dSeq (dRet (dImm (dC (.bl false)))) dNext) dNext) (dSeq (dFor (dRange1 (dCallO gLen (dCons (dVar 0) dNil))) (gdName 1) (M_law_chain_l1 c0) [1]) (dSeq (dRet (dImm (dC (.bl true)))) dNext)))
/-- k26: _law_at(_law_sky_here, _law_hour, _law_rows, _law_many, _law_at_here, _law_goal_here, _law_a, _law_b, _law_one, _law_told, _law_p, _law_q) of needed, _law_flat -/
def M_law_at_l1 (c0 : DF') (c1 : DF') : DS := (dSeq (dSet 9 (dCall c0 (dCons (dVar 0) (dCons (dBin gAdd (dVar 1) (dVar 4)) (dCons (dBin gSubI (dVar 3) (dVar 4)) (dCons (dBin gIx (dVar 8) (dC (.int (0)))) (dCons (dBin gIx (dVar 8) (dC (.int (1)))) (dCons (dBin gIx (dVar 8) (dC (.int (2)))) (dCons (dVar 6) (dCons (dVar 7) dNil)))))))))) (dSeq (dIfS (dCallO gAny (dCons (dComp (dItems (dVar 9)) (gdTup 2 (gdCons (gdName 10) (gdCons (gdName 11) gdNil))) (dC (.bl true)) (dAnd (dBin (gCmpI fun i j => decide (i ≤ j)) (dVar 10) (dBin gIx (dVar 8) (dC (.int (3))))) (dBin (gCmpI fun i j => decide (i ≤ j)) (dVar 11) (dBin gIx (dVar 8) (dC (.int (4)))))) [10, 11]) dNil)) (dSeq (dRet (dImm (dC (.bl true)))) dNext) dNext) dNext))
def M_law_at (c0 : DF') (c1 : DF') : DS := (dSeq (dUnp (gdTup 2 (gdCons (gdName 6) (gdCons (gdName 7) gdNil))) (dVar 5)) (dSeq (dIfS (dCallO gAny (dCons (dComp (dItems (dCall c1 (dCons (dSl (dVar 2) dNo (dPart (dVar 4))) dNil))) (gdName 8) (dC (.bl true)) (dBin gEq (dTup (dCons (dBin gIx (dVar 8) (dC (.int (0)))) (dCons (dBin gIx (dVar 8) (dC (.int (1)))) dNil))) (dVar 5)) [8]) dNil)) (dSeq (dRet (dImm (dC (.bl true)))) dNext) dNext) (dSeq (dFor (dItems (dBin gIx (dVar 2) (dVar 4))) (gdName 8) (M_law_at_l1 c0 c1) [8, 9]) (dSeq (dRet (dImm (dC (.bl false)))) dNext))))
/-- k27: paper(sky, hour, state, many, x, y, rows) of first_over, table -/
def M_paper (c0 : DF') (c1 : DF') : DS := (dSeq (dSet 6 (dCallA c1 (dCons (dVar 0) (dCons (dVar 1) (dCons (dVar 2) (dCons (dVar 3) dNil)))))) (dSeq (dIfS (dBin gIsN (dCall c0 (dCons (dVar 6) (dCons (dVar 4) (dCons (dVar 5) dNil)))) (dC .non)) (dSeq (dRet (dVar 6)) dNext) dNext) (dSeq (dRet (dImm (dC .non))) dNext)))
/-- k27: _law_plain(_law_state_here, _law_part) -/
def M_law_plain_2 : DS := (dSeq (dIfS (dOr (dNot (dIsT .tuple (dVar 0))) (dBin gNe (dCallO gLen (dCons (dVar 0) dNil)) (dC (.int (5))))) (dSeq (dRet (dImm (dC (.bl false)))) dNext) dNext) (dSeq (dIfS (dNot (dCallO gAll (dCons (dComp (dItems (dVar 0)) (gdName 1) (dC (.bl true)) (dAnd (dIsT .int (dVar 1)) (dNot (dIsT .bool (dVar 1)))) [1]) dNil))) (dSeq (dRet (dImm (dC (.bl false)))) dNext) dNext) (dSeq (dRet (dImm (dAnd (dBin (gCmpI fun i j => decide (i ≤ j)) (dC (.int (0))) (dBin gIx (dVar 0) (dC (.int (2))))) (dAnd (dBin (gCmpI fun i j => decide (i ≤ j)) (dBin gIx (dVar 0) (dC (.int (2)))) (dC (.int (5)))) (dAnd (dBin (gCmpI fun i j => decide (j ≤ i)) (dCallO gMinA (dCons (dSl (dVar 0) (dPart (dC (.int (3)))) dNo) dNil)) (dC (.int (0)))) (dBin (gCmpI fun i j => decide (i ≤ j)) (dCallO gMaxA (dCons (dSl (dVar 0) (dPart (dC (.int (3)))) dNo) dNil)) (dC (.int (6))))))))) dNext)))
/-- k27: _law_rows(_law_rows_here, _law_row, _law_state_here) of _law_plain -/
def M_law_rows_l1 (c0 : DF') : DS := (dSeq (dIfS (dOr (dNot (dIsT .list (dVar 1))) (dNot (dCallO gAll (dCons (dComp (dItems (dVar 1)) (gdName 2) (dC (.bl true)) (dCall c0 (dCons (dVar 2) dNil)) [2]) dNil)))) (dSeq (dRet (dImm (dC (.bl false)))) dNext) dNext) dNext)
def M_law_rows (c0 : DF') : DS := (dSeq (dIfS (dNot (dIsT .list (dVar 0))) (dSeq (dRet (dImm (dC (.bl false)))) dNext) dNext) (dSeq (dFor (dItems (dVar 0)) (gdName 1) (M_law_rows_l1 c0) [1]) (dSeq (dRet (dImm (dC (.bl true)))) dNext)))
/-- k27: _law_bars(_law_sky_here, _law_hour, _law_state_here, _law_many, _law_x, _law_y, _law_rows_here, _law_wanted, _law_at, _law_one, _law_p) of _law_next, _law_flat -/
def M_law_bars_l1 (c0 : DF') (c1 : DF') : DS := (dSeq (dIfS (dNot (dCallO gAny (dCons (dComp (dItems (dBin gIx (dVar 6) (dVar 8))) (gdName 10) (dC (.bl true)) (dAnd (dBin gEq (dSl (dVar 10) dNo (dPart (dC (.int (3))))) (dSl (dVar 9) dNo (dPart (dC (.int (3)))))) (dAnd (dBin (gCmpI fun i j => decide (j ≤ i)) (dBin gIx (dVar 10) (dC (.int (3)))) (dBin gIx (dVar 9) (dC (.int (3))))) (dBin (gCmpI fun i j => decide (j ≤ i)) (dBin gIx (dVar 10) (dC (.int (4)))) (dBin gIx (dVar 9) (dC (.int (4))))))) [10]) dNil))) (dSeq (dRet (dImm (dC (.bl false)))) dNext) dNext) dNext)
def M_law_bars_l2 (c0 : DF') (c1 : DF') : DS := (dSeq (dFor (dItems (dVar 7)) (gdName 9) (M_law_bars_l1 c0 c1) [9]) (dSeq (dSet 7 (dLst dNil)) (dSeq (dIfS (dBin gLt (dVar 8) (dVar 3)) (dSeq (dSet 7 (dCall c0 (dCons (dVar 0) (dCons (dBin gAdd (dVar 1) (dVar 8)) (dCons (dBin gIx (dVar 6) (dVar 8)) dNil))))) dNext) dNext) dNext)))
def M_law_bars (c0 : DF') (c1 : DF') : DS := (dSeq (dIfS (dOr (dBin gNe (dCallO gLen (dCons (dVar 6) dNil)) (dBin gAdd (dVar 3) (dC (.int (1))))) (dBin gIn (dC (.bl true)) (dComp (dItems (dCall c1 (dCons (dVar 6) dNil))) (gdName 9) (dC (.bl true)) (dAnd (dBin gEq (dBin gIx (dVar 9) (dC (.int (0)))) (dVar 4)) (dBin gEq (dBin gIx (dVar 9) (dC (.int (1)))) (dVar 5))) [9]))) (dSeq (dRet (dImm (dC (.bl false)))) dNext) dNext) (dSeq (dSet 7 (dLst (dCons (dVar 2) dNil))) (dSeq (dFor (dRange1 (dBin gAdd (dVar 3) (dC (.int (1))))) (gdName 8) (M_law_bars_l2 c0 c1) [8, 9]) (dSeq (dRet (dImm (dC (.bl true)))) dNext))))
/-- k28: covers(one, other) -/
def M_covers : DS := (dSeq (dIfS (dBin gNe (dSl (dVar 0) dNo (dPart (dC (.int (3))))) (dSl (dVar 1) dNo (dPart (dC (.int (3)))))) (dSeq (dRet (dImm (dC (.bl false)))) dNext) dNext) (dSeq (dRet (dImm (dAnd (dBin (gCmpI fun i j => decide (j ≤ i)) (dBin gIx (dVar 0) (dC (.int (3)))) (dBin gIx (dVar 1) (dC (.int (3))))) (dBin (gCmpI fun i j => decide (j ≤ i)) (dBin gIx (dVar 0) (dC (.int (4)))) (dBin gIx (dVar 1) (dC (.int (4)))))))) dNext))
/-- k28: covered(row, state, one) of covers -/
def M_covered_l1 (c0 : DF') : DS := (dSeq (dIfS (dCall c0 (dCons (dVar 2) (dCons (dVar 1) dNil))) (dSeq (dRet (dImm (dC (.bl true)))) dNext) dNext) dNext)
def M_covered (c0 : DF') : DS := (dSeq (dFor (dItems (dVar 0)) (gdName 2) (M_covered_l1 c0) [2]) (dSeq (dRet (dImm (dC (.bl false)))) dNext))
/-- k28: leads_out(sky, hour, row, later, state, order) of choices, next_state, covered -/
def M_leads_out_l1 (c0 : DF') (c1 : DF') (c2 : DF') : DS := (dSeq (dIfS (dNot (dCall c2 (dCons (dVar 3) (dCons (dCall c1 (dCons (dVar 0) (dCons (dVar 1) (dCons (dVar 4) (dCons (dVar 5) dNil))))) dNil)))) (dSeq (dRet (dImm (dC (.bl true)))) dNext) dNext) dNext)
def M_leads_out_l2 (c0 : DF') (c1 : DF') (c2 : DF') : DS := (dSeq (dFor (dItems (dCall c0 (dCons (dVar 0) (dCons (dVar 1) (dCons (dVar 4) dNil))))) (gdName 5) (M_leads_out_l1 c0 c1 c2) [5]) dNext)
def M_leads_out (c0 : DF') (c1 : DF') (c2 : DF') : DS := (dSeq (dFor (dItems (dVar 2)) (gdName 4) (M_leads_out_l2 c0 c1 c2) [4, 5]) (dSeq (dRet (dImm (dC (.bl false)))) dNext))
/-- k28: closed(sky, hour, state, many, rows, at) of leads_out, covered -/
def M_closed_l1 (c0 : DF') (c1 : DF') : DS := (dSeq (dIfS (dCall c0 (dCons (dVar 0) (dCons (dBin gAdd (dVar 1) (dVar 5)) (dCons (dBin gIx (dVar 4) (dVar 5)) (dCons (dBin gIx (dVar 4) (dBin gAdd (dVar 5) (dC (.int (1))))) dNil))))) (dSeq (dRet (dImm (dC (.bl false)))) dNext) dNext) dNext)
def M_closed (c0 : DF') (c1 : DF') : DS := (dSeq (dIfS (dOr (dBin gNe (dCallO gLen (dCons (dVar 4) dNil)) (dBin gAdd (dVar 3) (dC (.int (1))))) (dNot (dCall c1 (dCons (dBin gIx (dVar 4) (dC (.int (0)))) (dCons (dVar 2) dNil))))) (dSeq (dRet (dImm (dC (.bl false)))) dNext) dNext) (dSeq (dFor (dRange1 (dVar 3)) (gdName 5) (M_closed_l1 c0 c1) [5]) (dSeq (dRet (dImm (dC (.bl true)))) dNext)))
/-- k28: bars(sky, hour, state, many, x, y, rows) of closed, first_over -/
def M_bars (c0 : DF') (c1 : DF') : DS := (dSeq (dRet (dImm (dAnd (dCall c0 (dCons (dVar 0) (dCons (dVar 1) (dCons (dVar 2) (dCons (dVar 3) (dCons (dVar 6) dNil)))))) (dBin gIsN (dCall c1 (dCons (dVar 6) (dCons (dVar 4) (dCons (dVar 5) dNil)))) (dC .non))))) dNext)
/-- k30: _law_sights(_law_d, _law_hour, _law_many, _law_layers, _law_base_here, _law_found, _law_k, _law_s, _law_at, _law_box_here, _law_one, _law_wide) of _law_box -/
def M_law_sights_l1 (c0 : DF') : DS := (dSeq (dSet 7 (dSl (dVar 0) (dPart (dBin gAdd (dC (.int (1))) (dBin gMulI (dC (.int (10))) (dVar 6)))) (dPart (dBin gAdd (dC (.int (11))) (dBin gMulI (dC (.int (10))) (dVar 6)))))) (dSeq (dSet 8 (dBin gModI (dBin gIx (dVar 7) (dC (.int (0)))) (dBin gAdd (dVar 2) (dC (.int (1)))))) (dSeq (dSet 9 (dCall c0 (dCons (dSl (dVar 7) (dPart (dC (.int (1)))) (dPart (dC (.int (7))))) (dCons (dVar 4) dNil)))) (dSeq (dIfS (dAnd (dBin (gCmpI fun i j => decide (j < i)) (dCallO gLen (dCons (dBin gIx (dVar 3) (dVar 8)) dNil)) (dC (.int (0)))) (dBin (gCmpI fun i j => decide (j < i)) (dBin gModI (dBin gIx (dVar 7) (dC (.int (7)))) (dC (.int (4)))) (dC (.int (0))))) (dSeq (dSet 10 (dBin gIx (dBin gIx (dVar 3) (dVar 8)) (dBin gModI (dBin gIx (dVar 7) (dC (.int (8)))) (dCallO gLen (dCons (dBin gIx (dVar 3) (dVar 8)) dNil))))) (dSeq (dSet 11 (dBin gModI (dBin gFdivI (dBin gIx (dVar 7) (dC (.int (7)))) (dC (.int (4)))) (dC (.int (3))))) (dSeq (dSet 9 (dTup (dCons (dBin gSubI (dBin gIx (dVar 10) (dC (.int (0)))) (dVar 11)) (dCons (dBin gSubI (dBin gIx (dVar 10) (dC (.int (1)))) (dBin gModI (dBin gIx (dVar 7) (dC (.int (1)))) (dC (.int (3))))) (dCons (dBin gAdd (dBin gIx (dVar 10) (dC (.int (0)))) (dBin gModI (dBin gIx (dVar 7) (dC (.int (2)))) (dC (.int (3))))) (dCons (dBin gAdd (dBin gIx (dVar 10) (dC (.int (1)))) (dVar 11)) (dCons (dBin gModI (dBin gIx (dVar 7) (dC (.int (3)))) (dBin gAdd (dBin gIx (dVar 10) (dC (.int (2)))) (dC (.int (1))))) (dCons (dC (.int (5))) dNil)))))))) dNext))) dNext) (dSeq (dApp 5 (dImm (dBin gAdd (dBin gAdd (dTup (dCons (dBin gAdd (dVar 1) (dVar 8)) dNil)) (dVar 9)) (dTup (dCons (dBin (gCmpI fun i j => decide (j < i)) (dBin gModI (dBin gIx (dVar 7) (dC (.int (9)))) (dC (.int (3)))) (dC (.int (0)))) dNil))))) dNext)))))
def M_law_sights (c0 : DF') : DS := (dSeq (dSet 5 (dLst dNil)) (dSeq (dFor (dRange1 (dBin gModI (dBin gIx (dVar 0) (dC (.int (0)))) (dC (.int (6))))) (gdName 6) (M_law_sights_l1 c0) [6, 7, 8, 9, 10, 11]) (dSeq (dRet (dVar 5)) dNext)))
/-- k30: fits(sightings, hour, state, when, x1, y1, x2, y2, low, high, seen) of inside -/
def M_fits_l1 (c0 : DF') : DS := (dSeq (dIfS (dAnd (dBin gEq (dVar 3) (dVar 1)) (dBin gNe (dCall c0 (dCons (dTup (dCons (dVar 4) (dCons (dVar 5) (dCons (dVar 6) (dCons (dVar 7) (dCons (dVar 8) (dCons (dVar 9) dNil))))))) (dCons (dBin gIx (dVar 2) (dC (.int (0)))) (dCons (dBin gIx (dVar 2) (dC (.int (1)))) (dCons (dBin gIx (dVar 2) (dC (.int (2)))) dNil))))) (dVar 10))) (dSeq (dRet (dImm (dC (.bl false)))) dNext) dNext) dNext)
def M_fits (c0 : DF') : DS := (dSeq (dFor (dItems (dVar 0)) (gdTup 8 (gdCons (gdName 3) (gdCons (gdName 4) (gdCons (gdName 5) (gdCons (gdName 6) (gdCons (gdName 7) (gdCons (gdName 8) (gdCons (gdName 9) (gdCons (gdName 10) gdNil))))))))) (M_fits_l1 c0) [3, 4, 5, 6, 7, 8, 9, 10]) (dSeq (dRet (dImm (dC (.bl true)))) dNext))
/-- k30: _law_fits(_law_sightings, _law_hour, _law_state_here, _law_one) of _law_in -/
def M_law_fits_l1 (c0 : DF') : DS := (dSeq (dIfS (dAnd (dBin gEq (dBin gIx (dVar 3) (dC (.int (0)))) (dVar 1)) (dBin gNe (dCall c0 (dCons (dSl (dVar 3) (dPart (dC (.int (1)))) (dPart (dC (.int (7))))) (dCons (dBin gIx (dVar 2) (dC (.int (0)))) (dCons (dBin gIx (dVar 2) (dC (.int (1)))) (dCons (dBin gIx (dVar 2) (dC (.int (2)))) dNil))))) (dBin gIx (dVar 3) (dC (.int (7)))))) (dSeq (dRet (dImm (dC (.bl false)))) dNext) dNext) dNext)
def M_law_fits (c0 : DF') : DS := (dSeq (dFor (dItems (dVar 0)) (gdName 3) (M_law_fits_l1 c0) [3]) (dSeq (dRet (dImm (dC (.bl true)))) dNext))
/-- k31: _law_paths(_law_sky_here, _law_hour, _law_state_here, _law_many, _law_sightings, _law_rows, _law_at, _law_later, _law_path, _law_one, _law_found) of _law_next, _law_fits -/
def M_law_paths_l1 (c0 : DF') (c1 : DF') : DS := (dSeq (dApp 10 (dImm (dSorted (dCons (dListOf (dCons (dDictOf (dCons (dComp (dItems (dVar 5)) (gdName 8) (dC (.bl true)) (dTup (dCons (dBin gIx (dVar 8) (dVar 6)) (dCons (dC (.bl true)) dNil))) [8]) dNil)) dNil)) dNil)))) dNext)
def M_law_paths_l2 (c0 : DF') (c1 : DF') : DS := (dSeq (dIfS (dCall c1 (dCons (dVar 4) (dCons (dBin gAdd (dBin gAdd (dVar 1) (dVar 6)) (dC (.int (1)))) (dCons (dVar 9) dNil)))) (dSeq (dApp 7 (dImm (dBin gAdd (dVar 8) (dTup (dCons (dVar 9) dNil))))) dNext) dNext) dNext)
def M_law_paths_l3 (c0 : DF') (c1 : DF') : DS := (dSeq (dFor (dItems (dCall c0 (dCons (dVar 0) (dCons (dBin gAdd (dVar 1) (dVar 6)) (dCons (dLst (dCons (dBin gIx (dVar 8) (dUn gNeg (dC (.int (1))))) dNil)) dNil))))) (gdName 9) (M_law_paths_l2 c0 c1) [9]) dNext)
def M_law_paths_l4 (c0 : DF') (c1 : DF') : DS := (dSeq (dSet 7 (dLst dNil)) (dSeq (dFor (dItems (dVar 5)) (gdName 8) (M_law_paths_l3 c0 c1) [8, 9]) (dSeq (dIfS (dBin gEq (dCallO gLen (dCons (dVar 5) dNil)) (dC (.int (0)))) (dSeq (dRet (dImm (dBin gAdd (dVar 1) (dVar 6)))) dNext) dNext) (dSeq (dMove 5 7) dNext))))
def M_law_paths (c0 : DF') (c1 : DF') : DS := (dSeq (dSet 5 (dComp (dItems (dLst (dCons (dTup (dCons (dVar 2) dNil)) dNil))) (gdName 8) (dCall c1 (dCons (dVar 4) (dCons (dVar 1) (dCons (dVar 2) dNil)))) (dVar 8) [8])) (dSeq (dFor (dRange1 (dVar 3)) (gdName 6) (M_law_paths_l4 c0 c1) [6, 7, 8, 9]) (dSeq (dIfS (dBin gEq (dCallO gLen (dCons (dVar 5) dNil)) (dC (.int (0)))) (dSeq (dRet (dImm (dBin gAdd (dVar 1) (dVar 3)))) dNext) dNext) (dSeq (dSet 10 (dLst dNil)) (dSeq (dFor (dRange1 (dBin gAdd (dVar 3) (dC (.int (1))))) (gdName 6) (M_law_paths_l1 c0 c1) [6]) (dSeq (dRet (dVar 10)) dNext))))))
/-- k31: fitting(sightings, hour, some, found, state) of fits -/
def M_fitting (c0 : DF') : DS := (dSeq (dSet 3 (dComp (dItems (dVar 2)) (gdName 4) (dCall c0 (dCons (dVar 0) (dCons (dVar 1) (dCons (dVar 4) dNil)))) (dImm (dVar 4)) [4])) (dSeq (dIfS (dBin gEq (dCallO gLen (dCons (dVar 3) dNil)) (dC (.int (0)))) (dSeq (dRaise (⟨("NothingFits" : Str), [("hour" : Str)]⟩ : ExEnt) (dCons (dVar 1) dNil)) dNext) dNext) (dSeq (dRet (dVar 3)) dNext)))
/-- k31: going_on(sky, hour, some, later, wanted, state, found, order) of choices, next_state -/
def M_going_on_l1 (c0 : DF') (c1 : DF') : DS := (dSeq (dIfS (dCallO gAny (dCons (dComp (dItems (dCall c0 (dCons (dVar 0) (dCons (dVar 1) (dCons (dVar 5) dNil))))) (gdName 7) (dC (.bl true)) (dBin gIn (dCall c1 (dCons (dVar 0) (dCons (dVar 1) (dCons (dVar 5) (dCons (dVar 7) dNil))))) (dVar 4)) [7]) dNil)) (dSeq (dApp 6 (dImm (dVar 5))) dNext) dNext) dNext)
def M_going_on_l2 (c0 : DF') (c1 : DF') : DS := (dSeq (dPut 4 (dVar 5) (dC (.bl true))) dNext)
def M_going_on (c0 : DF') (c1 : DF') : DS := (dSeq (dSet 4 (dC (.dic true [] []))) (dSeq (dFor (dItems (dVar 3)) (gdName 5) (M_going_on_l2 c0 c1) [5]) (dSeq (dSet 6 (dLst dNil)) (dSeq (dFor (dItems (dVar 2)) (gdName 5) (M_going_on_l1 c0 c1) [5]) (dSeq (dRet (dVar 6)) dNext)))))
/-- k31: possible(sky, hour, state, until, sightings, rows, at) of going_on, behind, fitting -/
def M_possible_l1 (c0 : DF') (c1 : DF') (c2 : DF') : DS := (dSeq (dPut 5 (dVar 6) (dCall c0 (dCons (dVar 0) (dCons (dBin gAdd (dVar 1) (dVar 6)) (dCons (dBin gIx (dVar 5) (dVar 6)) (dCons (dBin gIx (dVar 5) (dBin gAdd (dVar 6) (dC (.int (1))))) dNil)))))) dNext)
def M_possible_l2 (c0 : DF') (c1 : DF') (c2 : DF') : DS := (dSeq (dApp 5 (dCall c2 (dCons (dVar 4) (dCons (dBin gAdd (dVar 6) (dC (.int (1)))) (dCons (dCall c1 (dCons (dVar 0) (dCons (dVar 6) (dCons (dBin gIx (dVar 5) (dUn gNeg (dC (.int (1))))) dNil)))) dNil))))) dNext)
def M_possible (c0 : DF') (c1 : DF') (c2 : DF') : DS := (dSeq (dSet 5 (dLst (dCons (dCall c2 (dCons (dVar 4) (dCons (dVar 1) (dCons (dLst (dCons (dVar 2) dNil)) dNil)))) dNil))) (dSeq (dFor (dRange2 (dVar 1) (dVar 3)) (gdName 6) (M_possible_l2 c0 c1 c2) [6]) (dSeq (dFor (dRevR (dBin gSubI (dCallO gLen (dCons (dVar 5) dNil)) (dC (.int (1))))) (gdName 6) (M_possible_l1 c0 c1 c2) [6]) (dSeq (dRet (dVar 5)) dNext))))
/-- k31: _law_answer(_law_sky_here, _law_hour, _law_state_here, _law_until, _law_sightings, _law_found, e) of possible -/
def M_law_answer_3 (c0 : DF') : DS := (dSeq (dSet 5 (dImm (dC .non))) (dSeq (dTryE (⟨("NothingFits" : Str), [("hour" : Str)]⟩ : ExEnt) (dSeq (dSet 5 (dCallA c0 (dCons (dVar 0) (dCons (dVar 1) (dCons (dVar 2) (dCons (dVar 3) (dCons (dVar 4) dNil))))))) dNext) 6 5 false [("hour" : Str)]) (dSeq (dRet (dVar 5)) dNext)))
/-- k32: _law_turned(_law_rows, _law_d, _law_found, _law_k) -/
def M_law_turned_l1 : DS := (dSeq (dIns 2 (dCons (dBin gModI (dBin gIx (dVar 1) (dVar 3)) (dBin gAdd (dCallO gLen (dCons (dVar 2) dNil)) (dC (.int (1))))) (dCons (dImm (dBin gIx (dVar 0) (dVar 3))) dNil))) dNext)
def M_law_turned : DS := (dSeq (dSet 2 (dLst dNil)) (dSeq (dFor (dRange1 (dCallO gLen (dCons (dVar 0) dNil))) (gdName 3) M_law_turned_l1 [3]) (dSeq (dRet (dVar 2)) dNext)))
/-- k33: _law_true(_law_sky_here, _law_hour, _law_state_here, _law_d, _law_path, _law_at, _law_some) of _law_next -/
def M_law_true_l1 (c0 : DF') : DS := (dSeq (dSet 6 (dCall c0 (dCons (dVar 0) (dCons (dBin gAdd (dVar 1) (dVar 5)) (dCons (dLst (dCons (dBin gIx (dVar 4) (dUn gNeg (dC (.int (1))))) dNil)) dNil))))) (dSeq (dIfS (dBin (gCmpI fun i j => decide (j < i)) (dCallO gLen (dCons (dVar 6) dNil)) (dC (.int (0)))) (dSeq (dApp 4 (dImm (dBin gIx (dVar 6) (dBin gModI (dBin gIx (dVar 3) (dBin gAdd (dC (.int (1))) (dVar 5))) (dCallO gLen (dCons (dVar 6) dNil)))))) dNext) dNext) (dSeq (dIfS (dBin gEq (dCallO gLen (dCons (dVar 6) dNil)) (dC (.int (0)))) (dSeq (dRet (dVar 4)) dNext) dNext) dNext)))
def M_law_true (c0 : DF') : DS := (dSeq (dSet 4 (dLst (dCons (dImm (dVar 2)) dNil))) (dSeq (dFor (dRange1 (dCallO gMin (dCons (dBin gModI (dBin gIx (dVar 3) (dC (.int (0)))) (dC (.int (9)))) (dCons (dBin gSubI (dC (.int (24))) (dVar 1)) dNil)))) (gdName 5) (M_law_true_l1 c0) [5, 6]) (dSeq (dRet (dVar 4)) dNext)))
/-- k33: fitting(sightings, hour, some, found, state) of fits -/
def M_fitting_2 (c0 : DF') : DS := (dSeq (dSet 3 (dComp (dItems (dVar 2)) (gdName 4) (dCall c0 (dCons (dVar 0) (dCons (dVar 1) (dCons (dVar 4) dNil)))) (dImm (dVar 4)) [4])) (dSeq (dIfS (dBin gEq (dCallO gLen (dCons (dVar 3) dNil)) (dC (.int (0)))) (dSeq dNever dNext) dNext) (dSeq (dRet (dVar 3)) dNext)))
/-- k34: _law_due(_law_ones, _law_others, _law_hour, _law_at, _law_there, _law_both, _law_place) of _law_places -/
def M_law_due_3_l1 (c0 : DF') : DS := (dSeq (dSet 4 (dCall c0 (dCons (dBin gIx (dVar 1) (dVar 3)) dNil))) (dSeq (dSet 5 (dComp (dItems (dCall c0 (dCons (dBin gIx (dVar 0) (dVar 3)) dNil))) (gdName 6) (dBin gIn (dVar 6) (dVar 4)) (dVar 6) [6])) (dSeq (dIfS (dBin (gCmpI fun i j => decide (j < i)) (dCallO gLen (dCons (dVar 5) dNil)) (dC (.int (0)))) (dSeq (dRetV (dTup (dCons (dImm (dBin gAdd (dVar 2) (dVar 3))) (dCons (dImm (dVar 5)) dNil)))) dNext) dNext) dNext)))
def M_law_due_3 (c0 : DF') : DS := (dSeq (dFor (dRange1 (dCallO gLen (dCons (dVar 0) dNil))) (gdName 3) (M_law_due_3_l1 c0) [3, 4, 5]) (dSeq (dRet (dImm (dC .non))) dNext))
/-- k34: places_of(row, found, state) -/
def M_places_of_l1 : DS := (dSeq (dPut 1 (dTup (dCons (dBin gIx (dVar 2) (dC (.int (0)))) (dCons (dBin gIx (dVar 2) (dC (.int (1)))) dNil))) (dC (.bl true))) dNext)
def M_places_of : DS := (dSeq (dSet 1 (dC (.dic true [] []))) (dSeq (dFor (dItems (dVar 0)) (gdName 2) M_places_of_l1 [2]) (dSeq (dRet (dVar 1)) dNext)))
/-- k34: first_meeting(sky, hour, one, other, many, ones, others, at, here, there, both, place) of places_of, table -/
def M_first_meeting_l1 (c0 : DF') (c1 : DF') : DS := (dSeq (dSet 8 (dCall c0 (dCons (dBin gIx (dVar 5) (dVar 7)) dNil))) (dSeq (dSet 9 (dCall c0 (dCons (dBin gIx (dVar 6) (dVar 7)) dNil))) (dSeq (dSet 10 (dSorted (dCons (dComp (dItems (dVar 8)) (gdName 11) (dBin gIn (dVar 11) (dVar 9)) (dVar 11) [11]) dNil))) (dSeq (dIfS (dBin (gCmpI fun i j => decide (j < i)) (dCallO gLen (dCons (dVar 10) dNil)) (dC (.int (0)))) (dSeq (dRetV (dTup (dCons (dImm (dBin gAdd (dVar 1) (dVar 7))) (dCons (dImm (dVar 10)) dNil)))) dNext) dNext) dNext))))
def M_first_meeting (c0 : DF') (c1 : DF') : DS := (dSeq (dSet 5 (dCall c1 (dCons (dVar 0) (dCons (dVar 1) (dCons (dVar 2) (dCons (dVar 4) dNil)))))) (dSeq (dSet 6 (dCall c1 (dCons (dVar 0) (dCons (dVar 1) (dCons (dVar 3) (dCons (dVar 4) dNil)))))) (dSeq (dFor (dRange1 (dBin gAdd (dVar 4) (dC (.int (1))))) (gdName 7) (M_first_meeting_l1 c0 c1) [7, 8, 9, 10]) (dSeq (dRet (dImm (dC .non))) dNext))))
/-- k35: distance(x, y, to_x, to_y) -/
def M_distance : DS := (dSeq (dRet (dImm (dBin gAdd (dCallO gAbs (dCons (dBin gSubI (dVar 0) (dVar 2)) dNil)) (dCallO gAbs (dCons (dBin gSubI (dVar 1) (dVar 3)) dNil))))) dNext)
/-- k36: nearest(sky, hour, state, many, x, y, found, at, row, one, here) of table, distance -/
def M_nearest_l1 (c0 : DF') (c1 : DF') : DS := (dSeq (dSet 10 (dTup (dCons (dCall c1 (dCons (dBin gIx (dVar 9) (dC (.int (0)))) (dCons (dBin gIx (dVar 9) (dC (.int (1)))) (dCons (dVar 4) (dCons (dVar 5) dNil))))) (dCons (dBin gAdd (dVar 1) (dVar 7)) dNil)))) (dSeq (dIfS (dOr (dBin gIsN (dVar 6) (dC .non)) (dBin gLt (dVar 10) (dVar 6))) (dSeq (dSet 6 (dVar 10)) dNext) dNext) dNext))
def M_nearest_l2 (c0 : DF') (c1 : DF') : DS := (dSeq (dFor (dItems (dVar 8)) (gdName 9) (M_nearest_l1 c0 c1) [9, 10]) dNext)
def M_nearest (c0 : DF') (c1 : DF') : DS := (dSeq (dSet 6 (dC .non)) (dSeq (dFor (dEnum (dCall c0 (dCons (dVar 0) (dCons (dVar 1) (dCons (dVar 2) (dCons (dVar 3) dNil)))))) (gdTup 2 (gdCons (gdName 7) (gdCons (gdName 8) gdNil))) (M_nearest_l2 c0 c1) [7, 8, 9, 10]) (dSeq (dRet (dImm (dVar 6))) dNext)))
/-- k37: _law_all_there(_law_rows, _law_more, _law_a, _law_b, _law_at, _law_one, _law_p) -/
def M_law_all_there_l1 : DS := (dSeq (dIfS (dNot (dCallO gAny (dCons (dComp (dItems (dBin gIx (dVar 1) (dVar 4))) (gdName 6) (dC (.bl true)) (dAnd (dBin gEq (dSl (dVar 6) dNo (dPart (dC (.int (3))))) (dSl (dVar 5) dNo (dPart (dC (.int (3)))))) (dAnd (dBin (gCmpI fun i j => decide (j ≤ i)) (dBin gIx (dVar 6) (dC (.int (3)))) (dBin gAdd (dBin gIx (dVar 5) (dC (.int (3)))) (dVar 2))) (dBin (gCmpI fun i j => decide (j ≤ i)) (dBin gIx (dVar 6) (dC (.int (4)))) (dBin gAdd (dBin gIx (dVar 5) (dC (.int (4)))) (dVar 3))))) [6]) dNil))) (dSeq (dRet (dImm (dC (.bl false)))) dNext) dNext) dNext)
def M_law_all_there_l2 : DS := (dSeq (dFor (dItems (dBin gIx (dVar 0) (dVar 4))) (gdName 5) M_law_all_there_l1 [5]) dNext)
def M_law_all_there : DS := (dSeq (dFor (dRange1 (dCallO gLen (dCons (dVar 0) dNil))) (gdName 4) M_law_all_there_l2 [4, 5]) (dSeq (dRet (dImm (dC (.bl true)))) dNext))
/-- k38: turned_sides(x1, y1, x2, y2) -/
def M_turned_sides : DS := (dSeq (dRetV (dTup (dCons (dUn gNeg (dVar 3)) (dCons (dImm (dVar 0)) (dCons (dUn gNeg (dVar 1)) (dCons (dImm (dVar 2)) dNil)))))) dNext)
/-- k38: turned_sky(sky, hills, cool, winds, shuts, new_hills, new_winds, new_shuts, x, y, top, first, height, dx, dy, one) of turned_sides -/
def M_turned_sky (c0 : DF') : DS := (dSeq (dUnp (gdTup 4 (gdCons (gdName 1) (gdCons (gdName 2) (gdCons (gdName 3) (gdCons (gdName 4) gdNil))))) (dVar 0)) (dSeq (dSet 5 (dComp (dItems (dVar 1)) (gdTup 3 (gdCons (gdName 8) (gdCons (gdName 9) (gdCons (gdName 10) gdNil)))) (dC (.bl true)) (dTup (dCons (dUn gNeg (dVar 9)) (dCons (dVar 8) (dCons (dVar 10) dNil)))) [8, 9, 10])) (dSeq (dSet 6 (dComp (dItems (dVar 3)) (gdTup 4 (gdCons (gdName 11) (gdCons (gdName 12) (gdCons (gdName 13) (gdCons (gdName 14) gdNil))))) (dC (.bl true)) (dTup (dCons (dVar 11) (dCons (dVar 12) (dCons (dUn gNeg (dVar 14)) (dCons (dVar 13) dNil))))) [11, 12, 13, 14])) (dSeq (dSet 7 (dComp (dItems (dVar 4)) (gdName 15) (dC (.bl true)) (dBin gAdd (dCall c0 (dCons (dBin gIx (dVar 15) (dC (.int (0)))) (dCons (dBin gIx (dVar 15) (dC (.int (1)))) (dCons (dBin gIx (dVar 15) (dC (.int (2)))) (dCons (dBin gIx (dVar 15) (dC (.int (3)))) dNil))))) (dSl (dVar 15) (dPart (dC (.int (4)))) dNo)) [15])) (dSeq (dRetV (dTup (dCons (dImm (dVar 5)) (dCons (dImmL (dListOf (dCons (dVar 2) dNil))) (dCons (dImm (dVar 6)) (dCons (dImm (dVar 7)) dNil)))))) dNext)))))
/-- k38: turned_state(state) -/
def M_turned_state : DS := (dSeq (dRetV (dTup (dCons (dUn gNeg (dBin gIx (dVar 0) (dC (.int (1))))) (dCons (dImm (dBin gIx (dVar 0) (dC (.int (0))))) (dCons (dImm (dBin gIx (dVar 0) (dC (.int (2))))) (dCons (dImm (dBin gIx (dVar 0) (dC (.int (3))))) (dCons (dImm (dBin gIx (dVar 0) (dC (.int (4))))) dNil))))))) dNext)
/-- k38: moved_sky(sky, dx, dy, hills, cool, winds, shuts, new_hills, new_shuts, x, y, top, one) -/
def M_moved_sky : DS := (dSeq (dUnp (gdTup 4 (gdCons (gdName 3) (gdCons (gdName 4) (gdCons (gdName 5) (gdCons (gdName 6) gdNil))))) (dVar 0)) (dSeq (dSet 7 (dComp (dItems (dVar 3)) (gdTup 3 (gdCons (gdName 9) (gdCons (gdName 10) (gdCons (gdName 11) gdNil)))) (dC (.bl true)) (dTup (dCons (dBin gAdd (dVar 9) (dVar 1)) (dCons (dBin gAdd (dVar 10) (dVar 2)) (dCons (dVar 11) dNil)))) [9, 10, 11])) (dSeq (dSet 8 (dComp (dItems (dVar 6)) (gdName 12) (dC (.bl true)) (dBin gAdd (dTup (dCons (dBin gAdd (dBin gIx (dVar 12) (dC (.int (0)))) (dVar 1)) (dCons (dBin gAdd (dBin gIx (dVar 12) (dC (.int (1)))) (dVar 2)) (dCons (dBin gAdd (dBin gIx (dVar 12) (dC (.int (2)))) (dVar 1)) (dCons (dBin gAdd (dBin gIx (dVar 12) (dC (.int (3)))) (dVar 2)) dNil))))) (dSl (dVar 12) (dPart (dC (.int (4)))) dNo)) [12])) (dSeq (dRetV (dTup (dCons (dImm (dVar 7)) (dCons (dImmL (dListOf (dCons (dVar 4) dNil))) (dCons (dImmL (dListOf (dCons (dVar 5) dNil))) (dCons (dImm (dVar 8)) dNil)))))) dNext))))
/-- k38: _law_spin(_law_sky_here, _law_hills, _law_winds, _law_shuts, _law_x, _law_y, _law_top, _law_first, _law_level, _law_dx, _law_dy, _law_one) -/
def M_law_spin : DS := (dSeq (dSet 1 (dComp (dItems (dBin gIx (dVar 0) (dC (.int (0))))) (gdTup 3 (gdCons (gdName 4) (gdCons (gdName 5) (gdCons (gdName 6) gdNil)))) (dC (.bl true)) (dTup (dCons (dUn gNeg (dVar 5)) (dCons (dVar 4) (dCons (dVar 6) dNil)))) [4, 5, 6])) (dSeq (dSet 2 (dComp (dItems (dBin gIx (dVar 0) (dC (.int (2))))) (gdTup 4 (gdCons (gdName 7) (gdCons (gdName 8) (gdCons (gdName 9) (gdCons (gdName 10) gdNil))))) (dC (.bl true)) (dTup (dCons (dVar 7) (dCons (dVar 8) (dCons (dUn gNeg (dVar 10)) (dCons (dVar 9) dNil))))) [7, 8, 9, 10])) (dSeq (dSet 3 (dComp (dItems (dBin gIx (dVar 0) (dC (.int (3))))) (gdName 11) (dC (.bl true)) (dBin gAdd (dTup (dCons (dUn gNeg (dBin gIx (dVar 11) (dC (.int (3))))) (dCons (dBin gIx (dVar 11) (dC (.int (0)))) (dCons (dUn gNeg (dBin gIx (dVar 11) (dC (.int (1))))) (dCons (dBin gIx (dVar 11) (dC (.int (2)))) dNil))))) (dSl (dVar 11) (dPart (dC (.int (4)))) dNo)) [11])) (dSeq (dRetV (dTup (dCons (dImm (dVar 1)) (dCons (dImmL (dListOf (dCons (dBin gIx (dVar 0) (dC (.int (1)))) dNil))) (dCons (dImm (dVar 2)) (dCons (dImm (dVar 3)) dNil)))))) dNext))))
/-- k38: _law_slid(_law_sky_here, _law_dx, _law_dy, _law_hills, _law_shuts, _law_x, _law_y, _law_top, _law_one) -/
def M_law_slid : DS := (dSeq (dSet 3 (dComp (dItems (dBin gIx (dVar 0) (dC (.int (0))))) (gdTup 3 (gdCons (gdName 5) (gdCons (gdName 6) (gdCons (gdName 7) gdNil)))) (dC (.bl true)) (dTup (dCons (dBin gAdd (dVar 5) (dVar 1)) (dCons (dBin gAdd (dVar 6) (dVar 2)) (dCons (dVar 7) dNil)))) [5, 6, 7])) (dSeq (dSet 4 (dComp (dItems (dBin gIx (dVar 0) (dC (.int (3))))) (gdName 8) (dC (.bl true)) (dBin gAdd (dTup (dCons (dBin gAdd (dBin gIx (dVar 8) (dC (.int (0)))) (dVar 1)) (dCons (dBin gAdd (dBin gIx (dVar 8) (dC (.int (1)))) (dVar 2)) (dCons (dBin gAdd (dBin gIx (dVar 8) (dC (.int (2)))) (dVar 1)) (dCons (dBin gAdd (dBin gIx (dVar 8) (dC (.int (3)))) (dVar 2)) dNil))))) (dSl (dVar 8) (dPart (dC (.int (4)))) dNo)) [8])) (dSeq (dRetV (dTup (dCons (dImm (dVar 3)) (dCons (dImmL (dListOf (dCons (dBin gIx (dVar 0) (dC (.int (1)))) dNil))) (dCons (dImmL (dListOf (dCons (dBin gIx (dVar 0) (dC (.int (2)))) dNil))) (dCons (dImm (dVar 4)) dNil)))))) dNext)))
/-- k38: moved_state(state, dx, dy) -/
def M_moved_state : DS := (dSeq (dRetV (dTup (dCons (dImm (dBin gAdd (dBin gIx (dVar 0) (dC (.int (0)))) (dVar 1))) (dCons (dImm (dBin gAdd (dBin gIx (dVar 0) (dC (.int (1)))) (dVar 2))) (dCons (dImm (dBin gIx (dVar 0) (dC (.int (2))))) (dCons (dImm (dBin gIx (dVar 0) (dC (.int (3))))) (dCons (dImm (dBin gIx (dVar 0) (dC (.int (4))))) dNil))))))) dNext)
/-- k39: _law_turned_rows(_law_rows, _law_row, _law_one) -/
def M_law_turned_rows : DS := (dSeq (dRet (dComp (dItems (dVar 0)) (gdName 1) (dC (.bl true)) (dImm (dSorted (dCons (dComp (dItems (dVar 1)) (gdName 2) (dC (.bl true)) (dBin gAdd (dTup (dCons (dUn gNeg (dBin gIx (dVar 2) (dC (.int (1))))) (dCons (dBin gIx (dVar 2) (dC (.int (0)))) dNil))) (dSl (dVar 2) (dPart (dC (.int (2)))) dNo)) [2]) dNil))) [1])) dNext)
/-- k39: _law_sight_turned(_law_one) -/
def M_law_sight_turned : DS := (dSeq (dRet (dImm (dBin gAdd (dTup (dCons (dBin gIx (dVar 0) (dC (.int (0)))) (dCons (dUn gNeg (dBin gIx (dVar 0) (dC (.int (4))))) (dCons (dBin gIx (dVar 0) (dC (.int (1)))) (dCons (dUn gNeg (dBin gIx (dVar 0) (dC (.int (2))))) (dCons (dBin gIx (dVar 0) (dC (.int (3)))) dNil)))))) (dSl (dVar 0) (dPart (dC (.int (5)))) dNo)))) dNext)
/-- k40: _law_moved_rows(_law_rows, _law_dx, _law_dy, _law_row, _law_one) -/
def M_law_moved_rows : DS := (dSeq (dRet (dComp (dItems (dVar 0)) (gdName 3) (dC (.bl true)) (dImm (dComp (dItems (dVar 3)) (gdName 4) (dC (.bl true)) (dBin gAdd (dTup (dCons (dBin gAdd (dBin gIx (dVar 4) (dC (.int (0)))) (dVar 1)) (dCons (dBin gAdd (dBin gIx (dVar 4) (dC (.int (1)))) (dVar 2)) dNil))) (dSl (dVar 4) (dPart (dC (.int (2)))) dNo)) [4])) [3])) dNext)
/-- k41: _law_altered(_law_sky_here, _law_turn, _law_d, _law_base_here, _law_hills, _law_cool, _law_winds, _law_shuts, _law_k, _law_w, _law_first, _law_s, _law_one) of _law_box, _law_copy -/
def M_law_altered_l1 (c0 : DF') (c1 : DF') : DS := (dSeq (dIfS (dBin gLt (dVar 1) (dC (.int (24)))) (dSeq (dSet 11 (dSl (dVar 2) (dPart (dBin gAdd (dC (.int (26))) (dBin gMulI (dC (.int (9))) (dVar 8)))) (dPart (dBin gAdd (dC (.int (35))) (dBin gMulI (dC (.int (9))) (dVar 8)))))) (dSeq (dSet 10 (dBin gAdd (dBin gAdd (dVar 1) (dC (.int (1)))) (dBin gMulI (dBin gModI (dBin gIx (dVar 11) (dC (.int (6)))) (dC (.int (2)))) (dBin gModI (dBin gIx (dVar 11) (dC (.int (7)))) (dBin gSubI (dC (.int (24))) (dVar 1)))))) (dSeq (dIns 7 (dCons (dBin gModI (dBin gIx (dVar 11) (dC (.int (8)))) (dBin gAdd (dCallO gLen (dCons (dVar 7) dNil)) (dC (.int (1))))) (dCons (dImm (dBin gAdd (dCall c0 (dCons (dSl (dVar 11) dNo (dPart (dC (.int (6))))) (dCons (dVar 3) dNil))) (dTup (dCons (dVar 10) (dCons (dBin gAdd (dVar 10) (dBin gModI (dBin gIx (dVar 11) (dC (.int (7)))) (dBin gSubI (dC (.int (25))) (dVar 10)))) dNil))))) dNil))) dNext))) dNext) dNext)
def M_law_altered_l2 (c0 : DF') (c1 : DF') : DS := (dSeq (dIfS (dBin gLt (dVar 1) (dC (.int (24)))) (dSeq (dSet 9 (dSl (dVar 2) (dPart (dBin gAdd (dC (.int (1))) (dBin gMulI (dC (.int (6))) (dVar 8)))) (dPart (dBin gAdd (dC (.int (7))) (dBin gMulI (dC (.int (6))) (dVar 8)))))) (dSeq (dSet 10 (dBin gAdd (dVar 1) (dBin gIx (dLst (dCons (dC (.int (0))) (dCons (dBin gModI (dBin gIx (dVar 9) (dC (.int (4)))) (dBin gSubI (dC (.int (24))) (dVar 1))) dNil))) (dBin gModI (dBin gIx (dVar 9) (dC (.int (5)))) (dC (.int (2))))))) (dSeq (dIns 6 (dCons (dBin gModI (dBin gIx (dVar 9) (dC (.int (0)))) (dBin gAdd (dCallO gLen (dCons (dVar 6) dNil)) (dC (.int (1))))) (dCons (dImm (dTup (dCons (dVar 10) (dCons (dBin gModI (dBin gIx (dVar 9) (dC (.int (1)))) (dC (.int (6)))) (dCons (dBin gSubI (dBin gModI (dBin gIx (dVar 9) (dC (.int (2)))) (dC (.int (5)))) (dC (.int (2)))) (dCons (dBin gSubI (dBin gModI (dBin gIx (dVar 9) (dC (.int (3)))) (dC (.int (5)))) (dC (.int (2)))) dNil)))))) dNil))) dNext))) dNext) dNext)
def M_law_altered (c0 : DF') (c1 : DF') : DS := (dSeq (dUnp (gdTup 4 (gdCons (gdName 4) (gdCons (gdName 5) (gdCons (gdName 6) (gdCons (gdName 7) gdNil))))) (dCall c1 (dCons (dVar 0) dNil))) (dSeq (dFor (dRange1 (dBin gAdd (dC (.int (1))) (dBin gModI (dBin gIx (dVar 2) (dC (.int (0)))) (dC (.int (4)))))) (gdName 8) (M_law_altered_l2 c0 c1) [8, 9, 10]) (dSeq (dFor (dRange1 (dBin gModI (dBin gIx (dVar 2) (dC (.int (25)))) (dC (.int (3))))) (gdName 8) (M_law_altered_l1 c0 c1) [8, 11, 10]) (dSeq (dIfS (dAnd (dBin gLt (dVar 1) (dC (.int (24)))) (dBin gEq (dBin gModI (dBin gIx (dVar 2) (dC (.int (44)))) (dC (.int (2)))) (dC (.int (1))))) (dSeq (dSet 12 (dBin gAdd (dVar 1) (dBin gModI (dBin gIx (dVar 2) (dC (.int (46)))) (dBin gSubI (dC (.int (24))) (dVar 1))))) (dSeq (dIfS (dBin gNotIn (dVar 12) (dVar 5)) (dSeq (dIns 5 (dCons (dBin gModI (dBin gIx (dVar 2) (dC (.int (45)))) (dBin gAdd (dCallO gLen (dCons (dVar 5) dNil)) (dC (.int (1))))) (dCons (dImm (dVar 12)) dNil))) dNext) dNext) dNext)) dNext) (dSeq (dRetV (dTup (dCons (dImm (dVar 4)) (dCons (dVar 5) (dCons (dVar 6) (dCons (dVar 7) dNil)))))) dNext)))))
end Lw

/-! Sp1: what the small defs give: boxes, the drawn numbers, the comparing. -/
namespace Lw
open PySem PySem.Spec PyProof.Rows L2 Dl
def box6 (a b c d e f : Int) : D := .tup [.int a, .int b, .int c, .int d, .int e, .int f]
theorem inside_ok (a b c d e f x y z : Int) : runF 10 M_inside [box6 a b c d e f, .int x, .int y, .int z] = .ok (.bl (decide (a ≤ x ∧ x ≤ c ∧ b ≤ y ∧ y ≤ d ∧ e ≤ z ∧ z ≤ f))) := by
  rw [runF_eq]
  simp [M_inside, box6]
  repeat' split
  all_goals (simp only [RG.ok.injEq, D.bl.injEq]; rw [Bool.eq_iff_iff]; simp; try omega)
theorem law_in_ok (a b c d e f x y z : Int) : runF 4 M_law_in [box6 a b c d e f, .int x, .int y, .int z] = .ok (.bl (decide (a ≤ x ∧ x ≤ c ∧ b ≤ y ∧ y ≤ d ∧ e ≤ z ∧ z ≤ f))) := by
  rw [runF_eq]
  simp [M_law_in, box6]
/-! ### numbers that are drawn -/
def Rw (ns : List Int) : Prop := ∀ v ∈ ns, 0 ≤ v ∧ v < 1000
def Dr (n : Nat) (ns : List Int) : Prop := ns.length = n ∧ Rw ns
theorem Rw.snoc {ns : List Int} {v : Int} (h : Rw ns) (h1 : 0 ≤ v) (h2 : v < 1000) : Rw (ns ++ [v]) := fun u hu => by
  rcases List.mem_append.mp hu with hu | hu
  · exact h u hu
  · rw [List.mem_singleton.mp hu]; exact ⟨h1, h2⟩
/-- the frame of the numbers' drawing -/
def enN (sc m : D) (r : List Int) (s : Int) (c x : Option D) : DEnv := [some sc, some m, some (.lst (r.map D.int)), some (.int s), c, x, none]
theorem num_in {sc m : D} {s c : Int} (r : List Int) (x : Int) (hr : Rw r) (hl : r.length ≤ 5000) :
    ∃ r' x', forGo (gdName 6) M_law_numbers_l2 [6] ((List.range 60).map fun (i : Nat) => D.int (i : Int)) (enN sc m r s (some (.int c)) (some (.int x))) = .nx (enN sc m r' s (some (.int c)) (some (.int x'))) ∧ Rw r' ∧ r'.length ≤ r.length + 60 := by
  obtain ⟨env', h1, r', x', rfl, h2, h3⟩ := forGo_inv (gd := gdName 6) (body := M_law_numbers_l2) (ks := [6]) (enc := fun (i : Nat) => D.int (i : Int)) (fun pre env => ∃ r' x', env = enN sc m r' s (some (.int c)) (some (.int x')) ∧ Rw r' ∧ r'.length ≤ r.length + pre.length) (List.range 60)
    ⟨r, x, rfl, hr, by simp⟩ fun pre i post env hi ⟨r', x', e, h2, h3⟩ => by
      subst e
      have hp := pre_lt hi
      rw [List.length_range] at hp
      have hz : r'.length < sizeLine := lt_size (by omega)
      refine ⟨_, rfl, ?_⟩
      by_cases h : 0 < x'
      · exact ⟨_, .inl (by simp [M_law_numbers_l2, enN, h, hz]; rfl), r' ++ [x' % 1000], x' / 1000, by simp [enN], h2.snoc (by omega) (by omega), by simp; omega⟩
      · exact ⟨_, .inl (by simp [M_law_numbers_l2, enN, h, hz]; rfl), r', x', by simp [enN], h2, by simp; omega⟩
  exact ⟨r', x', h1, h2, by simpa using h3⟩
theorem num_cells {sc m : D} (cs : List Int) (hc : cs.length ≤ 63) :
    ∃ r s, forGo (gdName 4) M_law_numbers_l3 [4, 5, 6] (cs.map D.int) (enN sc m [] 29 none none) = .nx (enN sc m r s none none) ∧ Rw r ∧ r.length ≤ 5000 ∧ 0 ≤ s ∧ s < 2147483629 := by
  obtain ⟨env', h1, r', s', rfl, h2, h3, h4, h5⟩ := forGo_inv (gd := gdName 4) (body := M_law_numbers_l3) (ks := [4, 5, 6]) (enc := D.int) (fun pre env => ∃ r s, env = enN sc m r s none none ∧ Rw r ∧ r.length ≤ 61 * pre.length ∧ 0 ≤ s ∧ s < 2147483629) cs
    (env := enN sc m [] 29 none none) ⟨[], 29, rfl, fun _ h => (by cases h), by simp, by omega, by omega⟩ fun pre c post env hi ⟨r, s, e, h2, h3, h4, h5⟩ => by
      subst e
      have hp := pre_lt hi
      have hz : r.length < sizeLine := lt_size (by omega)
      refine ⟨_, rfl, ?_⟩
      by_cases h : c - 1000000000000000000 < 0
      · obtain ⟨r', x', g1, g2, g3⟩ := num_in (sc := sc) (m := m) (s := (s * 69621 + c % 999983 + 7) % 2147483629) (c := c) (r ++ [c % 1000]) (c - 1000000000000000000) (h2.snoc (by omega) (by omega)) (by simp; omega)
        simp [enN] at g1
        exact ⟨_, .inl (by simp [M_law_numbers_l3, enN, h, hz, dFor, rng_ok, g1]; rfl), r', (s * 69621 + c % 999983 + 7) % 2147483629, by simp [enN], g2, by simp at g3; simp; omega, by omega, by omega⟩
      · obtain ⟨r', x', g1, g2, g3⟩ := num_in (sc := sc) (m := m) (s := (s * 69621 + c % 999983 + 7) % 2147483629) (c := c) r (c - 1000000000000000000) h2 (by omega)
        simp [enN] at g1
        exact ⟨_, .inl (by simp [M_law_numbers_l3, enN, h, hz, dFor, rng_ok, g1]; rfl), r', (s * 69621 + c % 999983 + 7) % 2147483629, by simp [enN], g2, by simp; omega, by omega, by omega⟩
  exact ⟨r', s', h1, h2, by omega, h4, h5⟩
theorem num_fill {sc : D} {m : Nat} (r : List Int) (s : Int) (hr : Rw r) (hl : r.length ≤ 5000) (hm : m ≤ 1000) (h0 : 0 ≤ s) (h1 : s < 2147483629) :
    ∃ r' s', forGo (gdName 6) M_law_numbers_l1 [6] ((List.range m).map fun (i : Nat) => D.int (i : Int)) (enN sc (.int m) r s none none) = .nx (enN sc (.int m) r' s' none none) ∧ Rw r' ∧ r'.length ≤ 6000 ∧ m ≤ r'.length := by
  obtain ⟨env', h1, r', s', rfl, h2, h3, h4, h5, h6⟩ := forGo_inv (gd := gdName 6) (body := M_law_numbers_l1) (ks := [6]) (enc := fun (i : Nat) => D.int (i : Int)) (fun pre env => ∃ r' s', env = enN sc (.int m) r' s' none none ∧ Rw r' ∧ r'.length ≤ 5000 + pre.length ∧ (m ≤ r'.length ∨ pre.length ≤ r'.length) ∧ 0 ≤ s' ∧ s' < 2147483629) (List.range m)
    (env := enN sc (.int m) r s none none) ⟨r, s, rfl, hr, by simpa using hl, .inr (by simp), h0, h1⟩ fun pre i post env hi ⟨r', s', e, h2, h3, h4, h5, h6⟩ => by
      subst e
      obtain ⟨rfl, hp⟩ := pre_range hi
      have hz : r'.length < sizeLine := lt_size (by omega)
      refine ⟨_, rfl, ?_⟩
      by_cases h : r'.length < m
      · have e1 : ((r'.length : Int) < m) := by omega
        have p3 : gPowI (.int s') (.int 3) = some (.int (s' ^ 3)) := gPowI_ok (by decide) (by decide) (by omega) (by omega)
        exact ⟨_, .inl (by simp [M_law_numbers_l1, enN, e1, h, hz, p3]; rfl), r' ++ [(s' ^ 3 + 40692 * s' + 7 * (pre.length : Int) + 5) % 2147483629 / 1009 % 1000], (s' ^ 3 + 40692 * s' + 7 * (pre.length : Int) + 5) % 2147483629, by simp [enN], h2.snoc (by omega) (by omega), by simp; omega, by simp; omega, by omega, by omega⟩
      · have e1 : ¬ ((r'.length : Int) < m) := by omega
        exact ⟨_, .inl (by simp [M_law_numbers_l1, enN, e1, h]; rfl), r', s', by simp [enN], h2, by simp; omega, .inl (by omega), h5, h6⟩
  exact ⟨r', s', h1, h2, by simp at h3; omega, by simp at h4; omega⟩
/-- the drawn numbers: as many as are asked, each of 0 to 999 -/
theorem numbers_ok (sc : List Int) (hs : sc.length ≤ 63) (m : Nat) (hm : m ≤ 1000) : ∃ ns : List Int, Dr m ns ∧ runF 7 M_law_numbers [frScript sc, .int m] = .ok (.lst (ns.map D.int)) := by
  obtain ⟨r, s, g1, g2, g3, g4, g5⟩ := num_cells (sc := frScript sc) (m := .int m) (sc.take 63) (by simp; omega)
  obtain ⟨r', s', k1, k2, k3, k4⟩ := num_fill (sc := frScript sc) (m := m) r s g2 g3 hm g4 g5
  refine ⟨r'.take m, ⟨by simp; omega, fun v hv => k2 v (List.mem_of_mem_take hv)⟩, ?_⟩
  rw [runF_eq]
  have e : rng (m : Int) = .ok ((List.range m).map fun (i : Nat) => D.int (i : Int)) := rng_nat (Nat.lt_of_le_of_lt hm (by decide))
  have src : dItems (dSl (dVar 0) dNo (dPart (dC (.int 63)))) (enN (frScript sc) (.int m) [] 29 none none) = .ok ((sc.take 63).map D.int) := by
    simp [enN, frScript, List.map_take]
  have c1 := (dFor_ok (gd := gdName 4) (body := M_law_numbers_l3) (ks := [4, 5, 6]) src).trans g1
  have c2 := (dFor_ok (gd := gdName 6) (body := M_law_numbers_l1) (ks := [6]) (src := dRange1 (dVar 1)) (env := enN (frScript sc) (.int m) r s none none) (by simp [enN, e])).trans k1
  simp only [enN] at c1 c2
  simp [M_law_numbers, enN, frScript] at c1 c2 ⊢
  simp [c1, c2, cut_to, List.map_take]
/-! ### the comparing -/
/-- data that the law's comparing goes through, so deep -/
def okS : Nat → D → Bool
  | 0, _ => false
  | _ + 1, .non => true
  | _ + 1, .bl _ => true
  | _ + 1, .int _ => true
  | _ + 1, .str x => eqOk (.str x)
  | n + 1, .tup ds => ds.all (okS n) && decide (ds.length ≤ 1000000)
  | n + 1, .lst ds => ds.all (okS n) && decide (ds.length ≤ 1000000)
  | _ + 1, _ => false
theorem zip_self (ds : List D) : zipD ds ds = ds.map fun d => D.tup [d, d] := by
  unfold zipD
  induction ds with
  | nil => rfl
  | cons d ds ih => simp only [List.zip_cons_cons, List.map_cons, ih]
theorem gEq_leaf (d : D) (h : eqOk d = true) : gEq d d = some (.bl true) := by
  unfold gEq
  rw [if_pos (by rw [h]; rfl), SeqAt.eqv_refl]
  unfold eqOk at h
  rw [Bool.and_eq_true] at h
  exact SeqAt.canLay_of_shaped h.2
theorem same_leaf (rec : DF') (d : D) (h : eqOk d = true) (h1 : isTy .list d = false) (h2 : isTy .tuple d = false) (h3 : noDict d = true) : runF 4 (M_law_same rec) [d, d] = .ok (.bl true) := by
  have e := gEq_leaf d h
  have n1 : ∀ b : Bool, gNe (.bl b) (.bl b) = some (.bl false) := fun b => by cases b <;> rfl
  have ty : ∀ t, gIsT t d = some (.bl (isTy t d)) := fun t => gIsT_eq h3
  rw [runF_eq]
  cases d with
  | non => simp [M_law_same, ty, isTy, n1, e]
  | bl b => simp [M_law_same, ty, isTy, n1, e]
  | int b => simp [M_law_same, ty, isTy, n1, e]
  | str b => simp [M_law_same, ty, isTy, n1, e]
  | tup _ => cases h2
  | ktp _ => cases h2
  | lst _ => cases h1
  | frl _ => cases h1
  | dic _ _ _ => cases h3
theorem same_many (rec : DF') (ds : List D) (hz : ds.length ≤ 1000000) (hr : ∀ d ∈ ds, rec [d, d] = .ok (.bl true)) (b : Bool) : runF 4 (M_law_same rec) [if b then .tup ds else .lst ds, if b then .tup ds else .lst ds] = .ok (.bl true) := by
  have n1 : ∀ b : Bool, gNe (.bl b) (.bl b) = some (.bl false) := fun b => by cases b <;> rfl
  have hl : gEq (.int (ds.length : Int)) (.int (ds.length : Int)) = some (.bl true) := gEq_leaf _ rfl
  have comp : ∀ x : D, gZip x x = some (zipD ds ds) → dComp (dZip (dVar 0) (dVar 1)) (gdTup 2 (gdCons (gdName 2) (gdCons (gdName 3) gdNil))) (dC (.bl true)) (dCall rec (dCons (dVar 2) (dCons (dVar 3) dNil))) [2, 3] [some x, some x, none, none] = .ok (.lst ((ds.map fun _ => true).map D.bl)) := by
    intro x hx
    rw [dComp_map (h := fun _ => D.bl true) (enc := fun d => D.tup [d, d]) ds (by unfold dZip; simp [hx, zip_self]) hz]
    · rw [List.map_map]; rfl
    · intro d hd
      exact ⟨_, rfl, rfl, by simp [hr d hd]⟩
  have all : (ds.map fun _ => true).all id = true := by simp
  have i1 : gIsT .list (.tup ds) = some (.bl false) := rfl
  have i2 : gIsT .tuple (.tup ds) = some (.bl true) := rfl
  have i3 : gIsT .list (.lst ds) = some (.bl true) := rfl
  have i4 : gIsT .tuple (.lst ds) = some (.bl false) := rfl
  rw [runF_eq]
  cases b with
  | true =>
    have c := comp (.tup ds) rfl
    simp [M_law_same, i1, i2, i3, i4, n1, hl, c, gAll_map, all, -List.map_map, -List.map_const]
  | false =>
    have c := comp (.lst ds) rfl
    simp [M_law_same, i1, i2, i3, i4, n1, hl, c, gAll_map, all, -List.map_map, -List.map_const]
theorem same_fam {g : Nat → DF'} (hq : ∀ n, g (n + 1) = runF 4 (M_law_same (g n))) : ∀ (n : Nat) (d : D), okS n d = true → g n [d, d] = .ok (.bl true)
  | 0, d, h => by cases h
  | n + 1, d, h => by
    rw [hq]
    cases d with
    | non => exact same_leaf _ _ (by decide) rfl rfl rfl
    | bl b => exact same_leaf _ _ (by cases b <;> decide) rfl rfl rfl
    | int b => exact same_leaf _ _ (by unfold eqOk; simp [noDic, toPy, SeqAt.shaped, PyData.canLay0, PyData.depth]) rfl rfl rfl
    | str x => exact same_leaf _ _ h rfl rfl rfl
    | tup ds =>
      have h : (ds.all (okS n) && decide (ds.length ≤ 1000000)) = true := h
      simp only [Bool.and_eq_true, List.all_eq_true, decide_eq_true_eq] at h
      exact same_many _ ds h.2 (fun d hd => same_fam hq n d (h.1 d hd)) true
    | lst ds =>
      have h : (ds.all (okS n) && decide (ds.length ≤ 1000000)) = true := h
      simp only [Bool.and_eq_true, List.all_eq_true, decide_eq_true_eq] at h
      exact same_many _ ds h.2 (fun d hd => same_fam hq n d (h.1 d hd)) false
    | frl _ => cases h
    | ktp _ => cases h
    | dic _ _ _ => cases h
/-! ### items at places -/
theorem atI_ints (ns : List Int) {i : Int} (h0 : 0 ≤ i) (h1 : i < ns.length) : ∃ v ∈ ns, atI (ns.map D.int) i = some (.int v) := by
  have hl : i.toNat < ns.length := by omega
  refine ⟨ns[i.toNat], List.getElem_mem hl, atI_of h0 ?_⟩
  rw [List.getElem?_map, List.getElem?_eq_getElem hl]
  rfl
theorem atI_map {α : Type} (f : α → D) (xs : List α) {i : Int} (h0 : 0 ≤ i) (h1 : i < xs.length) : ∃ x ∈ xs, atI (xs.map f) i = some (f x) := by
  have hl : i.toNat < xs.length := by omega
  refine ⟨xs[i.toNat], List.getElem_mem hl, atI_of h0 ?_⟩
  rw [List.getElem?_map, List.getElem?_eq_getElem hl]
  rfl
theorem atI_two (a b : D) {i : Int} (h0 : 0 ≤ i) (h1 : i < 2) : atI [a, b] i = some (if i = 0 then a else b) := by
  have : i = 0 ∨ i = 1 := by omega
  rcases this with rfl | rfl <;> simp
/-- a part of the drawn numbers -/
theorem dr_cut {n : Nat} {ns : List Int} (h : Dr n ns) {a b : Nat} (hab : a ≤ b) (hb : b ≤ n) : ∃ d, Dr (b - a) d ∧ cutD (ns.map D.int) (some (a : Int)) (some (b : Int)) = d.map D.int := by
  refine ⟨(ns.drop a).take (b - a), ⟨by simp [h.1]; omega, fun v hv => h.2 v (List.mem_of_mem_drop (List.mem_of_mem_take hv))⟩, ?_⟩
  rw [cut_nat _ hab (by simp [h.1, hb]), ← List.map_drop, ← List.map_take]
theorem dr_cutI {n : Nat} {ns : List Int} (h : Dr n ns) {i j : Int} (a b : Nat) (ha : i = a) (hb' : j = b) (hab : a ≤ b) (hb : b ≤ n) : ∃ d, Dr (b - a) d ∧ cutD (ns.map D.int) (some i) (some j) = d.map D.int := by
  rw [ha, hb']
  exact dr_cut h hab hb
theorem dr_to {n : Nat} {ns : List Int} (h : Dr n ns) {b : Nat} (hb : b ≤ n) : Dr b (ns.take b) := ⟨by simp [h.1]; omega, fun v hv => h.2 v (List.mem_of_mem_take hv)⟩
theorem dr_get {n : Nat} {ns : List Int} (h : Dr n ns) {i : Int} (h0 : 0 ≤ i) (h1 : i < n) : ∃ v, 0 ≤ v ∧ v < 1000 ∧ atI (ns.map D.int) i = some (.int v) := by
  obtain ⟨v, hv, e⟩ := atI_ints ns h0 (by rw [h.1]; exact h1)
  exact ⟨v, (h.2 v hv).1, (h.2 v hv).2, e⟩
theorem len_cons {α : Type} {l : List α} {n : Nat} (h : l.length = n + 1) : ∃ a r, l = a :: r ∧ r.length = n := by
  cases l with
  | nil => cases h
  | cons a r => exact ⟨a, r, rfl, by simpa using h⟩
theorem dr_uncons {n : Nat} {ns : List Int} (h : Dr (n + 1) ns) : ∃ v r, ns = v :: r ∧ 0 ≤ v ∧ v < 1000 ∧ Dr n r := by
  obtain ⟨a, r, rfl, hl⟩ := len_cons h.1
  exact ⟨a, r, rfl, (h.2 a (by simp)).1, (h.2 a (by simp)).2, hl, fun v hv => h.2 v (by simp [hv])⟩
theorem dr_nil {ns : List Int} (h : Dr 0 ns) : ns = [] := List.eq_nil_of_length_eq_zero h.1
theorem dr4 {ns : List Int} (h : Dr 4 ns) : ∃ a b c d, ns = [a, b, c, d] ∧ (0 ≤ a ∧ a < 1000) ∧ (0 ≤ b ∧ b < 1000) ∧ (0 ≤ c ∧ c < 1000) ∧ (0 ≤ d ∧ d < 1000) := by
  obtain ⟨a, r, rfl, a0, a1, h⟩ := dr_uncons h
  obtain ⟨b, r, rfl, b0, b1, h⟩ := dr_uncons h
  obtain ⟨c, r, rfl, c0, c1, h⟩ := dr_uncons h
  obtain ⟨d, r, rfl, d0, d1, h⟩ := dr_uncons h
  rw [dr_nil h]
  exact ⟨a, b, c, d, rfl, ⟨a0, a1⟩, ⟨b0, b1⟩, ⟨c0, c1⟩, d0, d1⟩
theorem dr8 {ns : List Int} (h : Dr 8 ns) : ∃ a b c d e f g i, ns = [a, b, c, d, e, f, g, i] ∧ (0 ≤ a ∧ a < 1000) ∧ (0 ≤ b ∧ b < 1000) ∧ (0 ≤ c ∧ c < 1000) ∧ (0 ≤ d ∧ d < 1000) ∧ (0 ≤ e ∧ e < 1000) ∧ (0 ≤ f ∧ f < 1000) ∧ (0 ≤ g ∧ g < 1000) ∧ (0 ≤ i ∧ i < 1000) := by
  obtain ⟨a, r, rfl, a0, a1, h⟩ := dr_uncons h
  obtain ⟨b, r, rfl, b0, b1, h⟩ := dr_uncons h
  obtain ⟨c, r, rfl, c0, c1, h⟩ := dr_uncons h
  obtain ⟨d, r, rfl, d0, d1, h⟩ := dr_uncons h
  obtain ⟨e, r, rfl, e0, e1, h⟩ := dr_uncons h
  obtain ⟨f, r, rfl, f0, f1, h⟩ := dr_uncons h
  obtain ⟨g, r, rfl, g0, g1, h⟩ := dr_uncons h
  obtain ⟨i, r, rfl, i0, i1, h⟩ := dr_uncons h
  rw [dr_nil h]
  exact ⟨a, b, c, d, e, f, g, i, rfl, ⟨a0, a1⟩, ⟨b0, b1⟩, ⟨c0, c1⟩, ⟨d0, d1⟩, ⟨e0, e1⟩, ⟨f0, f1⟩, ⟨g0, g1⟩, i0, i1⟩
/-! ### boxes drawn -/
theorem wide_ok {d : List Int} (h : Dr 8 d) : ∃ a b c e f g : Int, runF 6 M_law_wide [.lst (d.map D.int)] = .ok (box6 a b c e f g) := by
  obtain ⟨d0, d1, d2, d3, d4, d5, d6, d7, rfl, _, _, _, _, _, _, _, _⟩ := dr8 h
  obtain ⟨u, _, hu⟩ := atI_ints [d2 % 3, d2 * 3] (i := d6 % 2) (by omega) (by simp; omega)
  obtain ⟨v, _, hv⟩ := atI_ints [d3 % 3, d3 * 3] (i := d6 / 2 % 2) (by omega) (by simp; omega)
  simp at hu hv
  have m5 : gModI (.int d5) (.int (6 - d4 % 6)) = some (.int (d5 % (6 - d4 % 6))) := gModI_pos (by omega)
  rw [runF_eq]
  exact ⟨_, _, _, _, _, _, by simp [M_law_wide, hu, hv, m5, box6]; exact ⟨rfl, rfl, rfl, rfl, rfl, rfl⟩⟩
theorem near_ok (l h d : Int) : ∃ v : Int, runF 4 M_law_near [.int l, .int h, .int d] = .ok (.int v) := by
  obtain ⟨u, _, hu⟩ := atI_ints [l - 1, l, l + 1, (l + h) / 2, h - 1, h, h + 1] (i := d % 7) (by omega) (by simp; omega)
  simp at hu
  rw [runF_eq]
  exact ⟨_, by simp [M_law_near, hu]; rfl⟩
end Lw

/-! Sp2: data that are compared, unrolled loops, boxes that two share. -/
namespace Dl
open PySem PySem.Spec PyProof.Rows L2
/-- (by choice) -/
noncomputable def dec (p : Prop) : Bool := @decide p (Classical.propDecidable p)
@[simp] theorem dec_iff {p : Prop} : (dec p = true) = p := by
  unfold dec
  simp
@[simp] theorem dec_false {p : Prop} : (dec p = false) = ¬ p := by
  unfold dec
  simp
theorem dec_dec {p : Prop} [h : Decidable p] : dec p = decide p := by
  unfold dec
  congr
/-- data without truths, so deep at most -/
def okE : Nat → D → Bool
  | _, .non => true
  | _, .int _ => true
  | _, .str x => PyData.canLay0 (.str x)
  | n + 1, .tup ds => ds.all (okE n)
  | n + 1, .lst ds => ds.all (okE n)
  | _, _ => false
theorem noDics_all : ∀ {ds : List D}, (∀ d ∈ ds, noDic d = true) → noDics ds = true
  | [], _ => rfl
  | d :: ds, h => by
    show (noDic d && noDics ds) = true
    rw [h d (by simp), noDics_all fun e he => h e (by simp [he])]
    rfl
theorem canLays_all : ∀ {ds : List D}, (∀ d ∈ ds, (toPy d).canLay0 = true) → PyData.canLayAll0 (toPys ds) = true
  | [], _ => rfl
  | d :: ds, h => by
    show (PyData.canLay0 (toPy d) && PyData.canLayAll0 (toPys ds)) = true
    rw [h d (by simp), canLays_all fun e he => h e (by simp [he])]
    rfl
theorem depths_all : ∀ {ds : List D} {n : Nat}, (∀ d ∈ ds, (toPy d).depth ≤ n) → PyData.depthAll (toPys ds) ≤ n
  | [], _, _ => Nat.zero_le _
  | d :: ds, n, h => by
    show max (PyData.depth (toPy d)) (PyData.depthAll (toPys ds)) ≤ n
    have h1 := h d (by simp)
    have h2 : PyData.depthAll (toPys ds) ≤ n := depths_all fun e he => h e (List.mem_cons_of_mem _ he)
    omega
theorem okE_facts : ∀ (n : Nat) (d : D), okE n d = true → noDic d = true ∧ (toPy d).canLay0 = true ∧ (toPy d).depth ≤ n
  | _, .non, _ => ⟨rfl, rfl, Nat.zero_le _⟩
  | _, .int _, _ => ⟨rfl, rfl, Nat.zero_le _⟩
  | 0, .str x, h => ⟨rfl, h, Nat.zero_le _⟩
  | n + 1, .str x, h => ⟨rfl, h, Nat.zero_le _⟩
  | n + 1, .tup ds, h => by
    have h : ds.all (okE n) = true := h
    rw [List.all_eq_true] at h
    have ih := fun d hd => okE_facts n d (h d hd)
    refine ⟨noDics_all fun d hd => (ih d hd).1, canLays_all fun d hd => (ih d hd).2.1, ?_⟩
    show PyData.depthAll (toPys ds) + 1 ≤ n + 1
    have := depths_all fun d hd => (ih d hd).2.2
    omega
  | n + 1, .lst ds, h => by
    have h : ds.all (okE n) = true := h
    rw [List.all_eq_true] at h
    have ih := fun d hd => okE_facts n d (h d hd)
    refine ⟨noDics_all fun d hd => (ih d hd).1, canLays_all fun d hd => (ih d hd).2.1, ?_⟩
    show PyData.depthAll (toPys ds) + 1 ≤ n + 1
    have := depths_all fun d hd => (ih d hd).2.2
    omega
  | 0, .tup _, h => by cases h
  | 0, .lst _, h => by cases h
  | 0, .bl _, h => by cases h
  | n + 1, .bl _, h => by cases h
  | 0, .frl _, h => by cases h
  | n + 1, .frl _, h => by cases h
  | 0, .ktp _, h => by cases h
  | n + 1, .ktp _, h => by cases h
  | 0, .dic _ _ _, h => by cases h
  | n + 1, .dic _ _ _, h => by cases h
theorem okE_eqOk {n : Nat} {d : D} (h : okE n d = true) (hn : n ≤ 64) : eqOk d = true := by
  obtain ⟨h1, h2, h3⟩ := okE_facts n d h
  unfold eqOk SeqAt.shaped
  rw [h1, h2, decide_eq_true (by omega)]
  rfl
theorem eqvs_iff : ∀ (xs ys : List D), (∀ x ∈ xs, ∀ y ∈ ys, (PyData.eqv (toPy x) (toPy y) = true ↔ x = y)) → (PyData.eqvAll (toPys xs) (toPys ys) = true ↔ xs = ys)
  | [], [], _ => ⟨fun _ => rfl, fun _ => rfl⟩
  | [], _ :: _, _ => ⟨fun h => Bool.noConfusion h, fun h => nomatch h⟩
  | _ :: _, [], _ => ⟨fun h => Bool.noConfusion h, fun h => nomatch h⟩
  | x :: xs, y :: ys, h => by
    show (PyData.eqv (toPy x) (toPy y) && PyData.eqvAll (toPys xs) (toPys ys)) = true ↔ _
    rw [Bool.and_eq_true, h x (by simp) y (by simp), eqvs_iff xs ys fun a ha b hb => h a (by simp [ha]) b (by simp [hb]), List.cons.injEq]
theorem okE_eqv : ∀ (n m : Nat) (a b : D), okE n a = true → okE m b = true → (PyData.eqv (toPy a) (toPy b) = true ↔ a = b) := by
  intro n
  induction n with
  | zero =>
    intro m a b ha hb
    cases a <;> cases m <;> cases b <;> first
      | (cases ha; done)
      | (cases hb; done)
      | exact ⟨fun _ => rfl, fun _ => rfl⟩
      | exact ⟨fun h => Bool.noConfusion h, fun h => D.noConfusion h⟩
      | (next x y => show ((x == y) = true) ↔ _; rw [beq_iff_eq, D.int.injEq])
      | (next x y => show ((x == y) = true) ↔ _; rw [beq_iff_eq, D.str.injEq])
      | (next x _ y => show ((x == y) = true) ↔ _; rw [beq_iff_eq, D.int.injEq])
      | (next x _ y => show ((x == y) = true) ↔ _; rw [beq_iff_eq, D.str.injEq])
  | succ n ih =>
    intro m a b ha hb
    cases a <;> cases m <;> cases b <;> first
      | (cases ha; done)
      | (cases hb; done)
      | exact ⟨fun _ => rfl, fun _ => rfl⟩
      | exact ⟨fun h => Bool.noConfusion h, fun h => D.noConfusion h⟩
      | (next x y => show ((x == y) = true) ↔ _; rw [beq_iff_eq, D.int.injEq])
      | (next x y => show ((x == y) = true) ↔ _; rw [beq_iff_eq, D.str.injEq])
      | (next x _ y => show ((x == y) = true) ↔ _; rw [beq_iff_eq, D.int.injEq])
      | (next x _ y => show ((x == y) = true) ↔ _; rw [beq_iff_eq, D.str.injEq])
      | (next xs m ys =>
          have ha : xs.all (okE n) = true := ha
          have hb : ys.all (okE m) = true := hb
          rw [List.all_eq_true] at ha hb
          show PyData.eqvAll (toPys xs) (toPys ys) = true ↔ _
          rw [eqvs_iff xs ys fun x hx y hy => ih m x y (ha x hx) (hb y hy)]
          simp)
theorem gEq_E {a b : D} (n m : Nat) (ha : okE n a = true) (hb : okE m b = true) (hn : n ≤ 64) (hm : m ≤ 64) : gEq a b = some (.bl (dec (a = b))) := by
  unfold gEq
  rw [okE_eqOk ha hn, okE_eqOk hb hm]
  show some (D.bl (PyData.eqv (toPy a) (toPy b))) = _
  congr 2
  rw [Bool.eq_iff_iff, okE_eqv n m a b ha hb, dec_iff]
theorem gNe_E {a b : D} (n m : Nat) (ha : okE n a = true) (hb : okE m b = true) (hn : n ≤ 64) (hm : m ≤ 64) : gNe a b = some (.bl (!dec (a = b))) := by
  unfold gNe
  rw [okE_eqOk ha hn, okE_eqOk hb hm]
  show some (D.bl (!PyData.eqv (toPy a) (toPy b))) = _
  congr 3
  rw [Bool.eq_iff_iff, okE_eqv n m a b ha hb, dec_iff]
@[simp] theorem gEq_int {i j : Int} : gEq (.int i) (.int j) = some (.bl (decide (i = j))) := by
  rw [gEq_E 0 0 rfl rfl (by decide) (by decide), ← dec_dec, D.int.injEq]
@[simp] theorem gNe_int {i j : Int} : gNe (.int i) (.int j) = some (.bl (!decide (i = j))) := by
  rw [gNe_E 0 0 rfl rfl (by decide) (by decide), ← dec_dec, D.int.injEq]
/-- a tuple of two numbers -/
theorem gEq_two {a b c d : Int} : gEq (.tup [.int a, .int b]) (.tup [.int c, .int d]) = some (.bl (decide (a = c ∧ b = d))) := by
  rw [gEq_E 1 1 rfl rfl (by decide) (by decide), ← dec_dec]
  simp
@[simp] theorem gEq_self {d : D} (h : eqOk d = true) : gEq d d = some (.bl true) := by
  unfold gEq
  rw [h, SeqAt.eqv_refl]
  · rfl
  · unfold eqOk at h
    rw [Bool.and_eq_true] at h
    exact SeqAt.canLay_of_shaped h.2
@[simp] theorem gNe_self {d : D} (h : eqOk d = true) : gNe d d = some (.bl false) := by
  unfold gNe
  rw [h, SeqAt.eqv_refl]
  · rfl
  · unfold eqOk at h
    rw [Bool.and_eq_true] at h
    exact SeqAt.canLay_of_shaped h.2
@[simp] theorem gInt_int {i : Int} : gInt [.int i] = some (.int i) := (rfl)
@[simp] theorem gInt_bl {k : Bool} : gInt [.bl k] = some (.int (if k = true then 1 else 0)) := (rfl)
theorem maxI_eq {i j : Int} : maxI i j = max i j := by
  unfold maxI
  split <;> omega
theorem minI_eq {i j : Int} : minI i j = min i j := by
  unfold minI
  split <;> omega
/-! ### a loop over a display, unrolled -/
section
variable {body : DS} {ks : List Nat} {env : DEnv}
theorem forGo_name {i : Nat} {d : D} {r : List D} : forGo (gdName i) body ks (d :: r) env = forK (gdName i) body ks r (body (env.set i (some d))) := forGo_cons rfl
variable {gd : D → DEnv → Option DEnv} {r : List D}
@[simp] theorem forGo_end : forGo gd body ks [] env = .nx env := (rfl)
@[simp] theorem forK_nx {e : DEnv} : forK gd body ks r (.nx e) = forGo gd body ks r (killD e ks) := (rfl)
@[simp] theorem forK_ct {e : DEnv} : forK gd body ks r (.ct e) = forGo gd body ks r (killD e ks) := (rfl)
@[simp] theorem forK_bk {e : DEnv} : forK gd body ks r (.bk e) = .nx e := (rfl)
@[simp] theorem forK_rt {d : D} : forK gd body ks r (.rt d) = .rt d := (rfl)
@[simp] theorem forK_bad : forK gd body ks r .bad = .bad := (rfl)
@[simp] theorem forK_ite {p : Prop} [Decidable p] {a b : Out} : forK gd body ks r (if p then a else b) = if p then forK gd body ks r a else forK gd body ks r b := by split <;> rfl
end
end Dl
namespace Lw
open PySem PySem.Spec PyProof.Rows L2 Dl
theorem atI_pick (a b : D) (p : Prop) [Decidable p] : atI [a, b] (if p then 1 else 0) = some (if p then b else a) := by
  split <;> simp
/-- what two boxes share -/
def dueD (a b c e f g a' b' c' e' f' g' : Int) : D := if max a a' > min c c' ∨ max b b' > min e e' ∨ max f f' > min g g' then .non else box6 (max a a') (max b b') (min c c') (min e e') (max f f') (min g g')
theorem shared_ok (a b c e f g a' b' c' e' f' g' : Int) : runF 8 M_shared [box6 a b c e f g, box6 a' b' c' e' f' g'] = .ok (dueD a b c e f g a' b' c' e' f' g') := by
  rw [runF_eq]
  simp [M_shared, box6, maxI_eq, minI_eq, dueD]
  split <;> rfl
theorem due_ok (a b c e f g a' b' c' e' f' g' : Int) : runF 7 M_law_due [box6 a b c e f g, box6 a' b' c' e' f' g'] = .ok (dueD a b c e f g a' b' c' e' f' g') := by
  have hm : ∀ i j : Int, (if i < j then j else i) = max i j := fun i j => by split <;> omega
  have hn : ∀ i j : Int, (if j < i then j else i) = min i j := fun i j => by split <;> omega
  have pick : ∀ (i j : Int) (p : Prop) [Decidable p], atI [D.int i, D.int j] (if p then 1 else 0) = some (.int (if p then j else i)) := fun i j p _ => by
    rw [atI_pick]
    split <;> rfl
  rw [runF_eq]
  simp [M_law_due, box6, dFor, forGo_name, M_law_due_l1, dueD, pick, hm, hn]
  repeat' split
  all_goals first
    | rfl
    | (exfalso; omega)
theorem dr6 {n : Nat} {ns : List Int} (h : Dr (n + 6) ns) : ∃ a b c d e f r, ns = a :: b :: c :: d :: e :: f :: r ∧ Dr n r ∧ (0 ≤ a ∧ a < 1000) ∧ (0 ≤ b ∧ b < 1000) ∧ (0 ≤ c ∧ c < 1000) ∧ (0 ≤ d ∧ d < 1000) ∧ (0 ≤ e ∧ e < 1000) ∧ (0 ≤ f ∧ f < 1000) := by
  obtain ⟨a, r, rfl, a0, a1, h⟩ := dr_uncons h
  obtain ⟨b, r, rfl, b0, b1, h⟩ := dr_uncons h
  obtain ⟨c, r, rfl, c0, c1, h⟩ := dr_uncons h
  obtain ⟨d, r, rfl, d0, d1, h⟩ := dr_uncons h
  obtain ⟨e, r, rfl, e0, e1, h⟩ := dr_uncons h
  obtain ⟨f, r, rfl, f0, f1, h⟩ := dr_uncons h
  exact ⟨a, b, c, d, e, f, r, rfl, h, ⟨a0, a1⟩, ⟨b0, b1⟩, ⟨c0, c1⟩, ⟨d0, d1⟩, ⟨e0, e1⟩, f0, f1⟩
theorem wide_ok2 {d : List Int} (h : Dr 8 d) : ∃ a b c e f g : Int, (a ≤ c ∧ b ≤ e ∧ f ≤ g) ∧ runF 6 M_law_wide [.lst (d.map D.int)] = .ok (box6 a b c e f g) := by
  obtain ⟨d0, d1, d2, d3, d4, d5, d6, d7, rfl, _, _, _, _, _, _, _, _⟩ := dr8 h
  obtain ⟨u, hu', hu⟩ := atI_ints [d2 % 3, d2 * 3] (i := d6 % 2) (by omega) (by simp; omega)
  obtain ⟨v, hv', hv⟩ := atI_ints [d3 % 3, d3 * 3] (i := d6 / 2 % 2) (by omega) (by simp; omega)
  simp at hu hv hu' hv'
  have m5 : gModI (.int d5) (.int (6 - d4 % 6)) = some (.int (d5 % (6 - d4 % 6))) := gModI_pos (by omega)
  have p5 : 0 ≤ d5 % (6 - d4 % 6) := Int.emod_nonneg _ (by omega)
  rw [runF_eq]
  refine ⟨d0 * 4 - 2000, d1 * 4 - 2000, min 2000 (d0 * 4 - 2000 + u), min 2000 (d1 * 4 - 2000 + v), d4 % 6, d4 % 6 + d5 % (6 - d4 % 6), ⟨?_, ?_, ?_⟩, by simp [M_law_wide, hu, hv, m5, box6, minI_eq]⟩
  · rcases hu' with h | h <;> omega
  · rcases hv' with h | h <;> omega
  · omega
/-- a box near the base -/
def boxN (x y d0 d1 d2 d3 d4 d5 : Int) : D := box6 (x + d0 % 9 - 4) (y + d1 % 9 - 4) (x + d0 % 9 - 4 + d2 % 4) (y + d1 % 9 - 4 + d3 % 4) (d4 % 6) (d4 % 6 + d5 % (6 - d4 % 6))
theorem box_ok (x y d0 d1 d2 d3 d4 d5 : Int) (r : List Int) : runF 5 M_law_box [.lst ((d0 :: d1 :: d2 :: d3 :: d4 :: d5 :: r).map D.int), .tup [.int x, .int y]] = .ok (boxN x y d0 d1 d2 d3 d4 d5) := by
  have m5 : gModI (.int d5) (.int (6 - d4 % 6)) = some (.int (d5 % (6 - d4 % 6))) := gModI_pos (by omega)
  rw [runF_eq]
  simp [M_law_box, m5, boxN, box6]
theorem box_ok2 {n : Nat} {d : List Int} (h : Dr (n + 6) d) (x y : Int) : ∃ a b c e f g : Int, (a ≤ c ∧ b ≤ e ∧ f ≤ g) ∧ runF 5 M_law_box [.lst (d.map D.int), .tup [.int x, .int y]] = .ok (box6 a b c e f g) := by
  obtain ⟨d0, d1, d2, d3, d4, d5, r, rfl, _, _, _, _, _, _, _⟩ := dr6 h
  have p5 : 0 ≤ d5 % (6 - d4 % 6) := Int.emod_nonneg _ (by omega)
  exact ⟨_, _, _, _, _, _, ⟨by omega, by omega, by omega⟩, box_ok x y d0 d1 d2 d3 d4 d5 r⟩
end Lw

/-! Sp3: numbers sorted, the least and the greatest. -/
namespace Dl
open PySem PySem.Spec PyProof.Rows L2
theorem leD_int (i j : Int) : leD (.int i) (.int j) = decide (i ≤ j) := by
  show (!PySem.W.dataLt (.int j) (.int i)) = _
  rw [PySem.W.dataLt_int]
  by_cases h : j < i
  · rw [decide_eq_true h, decide_eq_false (by omega)]; rfl
  · rw [decide_eq_false h, decide_eq_true (by omega)]; rfl
def srtI (ns : List Int) : List Int := ns.mergeSort fun a b => decide (a ≤ b)
theorem srtD_ints (ns : List Int) : srtD (ns.map D.int) = (srtI ns).map D.int :=
  (List.map_mergeSort (f := D.int) (fun a _ b _ => (leD_int a b).symm)).symm
theorem srtOk_ints {ns : List Int} (h : ns.length ≤ 1000000) : srtOk (ns.map D.int) = true := by
  unfold srtOk
  simp only [Bool.and_eq_true, Bool.or_eq_true, List.all_eq_true, List.mem_map, decide_eq_true_eq, List.length_map]
  refine ⟨⟨?_, .inr ?_⟩, le_size h⟩
  · rintro _ ⟨i, _, rfl⟩
    refine ⟨⟨⟨rfl, rfl⟩, Nat.zero_le _⟩, ?_⟩
    rintro _ ⟨j, _, rfl⟩
    rfl
  · rintro _ ⟨i, _, rfl⟩
    rfl
def oneO' (g : D → Option D) (ds : List D) : RG D := oneO g ds
@[simp] theorem dSorted_eq {fs : DXs} {env : DEnv} : dSorted fs env = (fs env).bind (oneO sortedO) := (rfl)
@[simp] theorem oneO_one {g : D → Option D} {d : D} : oneO g [d] = .ofO (g d) := (rfl)
theorem sorted_ints {ns : List Int} (h : ns.length ≤ 1000000) : sortedO (.lst (ns.map D.int)) = some (.lst ((srtI ns).map D.int)) := by
  show (if srtOk (ns.map D.int) then some (D.lst (srtD (ns.map D.int))) else none) = _
  rw [if_pos (srtOk_ints h), srtD_ints]
def IsMin (l : List Int) (m : Int) : Prop := m ∈ l ∧ ∀ x ∈ l, m ≤ x
def IsMax (l : List Int) (m : Int) : Prop := m ∈ l ∧ ∀ x ∈ l, x ≤ m
theorem IsMin.uniq {l : List Int} {m k : Int} (h : IsMin l m) (h' : IsMin l k) : m = k := Int.le_antisymm (h.2 k h'.1) (h'.2 m h.1)
theorem IsMax.uniq {l : List Int} {m k : Int} (h : IsMax l m) (h' : IsMax l k) : m = k := Int.le_antisymm (h'.2 m h.1) (h.2 k h'.1)
theorem IsMin.snoc {l : List Int} {m x : Int} (h : IsMin l m) : IsMin (l ++ [x]) (min m x) := ⟨by
  by_cases hx : m ≤ x
  · rw [Int.min_eq_left hx]; exact List.mem_append_left _ h.1
  · rw [Int.min_eq_right (by omega)]; simp, fun y hy => by
  rcases List.mem_append.mp hy with hy | hy
  · have := h.2 y hy; omega
  · rw [List.mem_singleton.mp hy]; omega⟩
theorem IsMax.snoc {l : List Int} {m x : Int} (h : IsMax l m) : IsMax (l ++ [x]) (max m x) := ⟨by
  by_cases hx : x ≤ m
  · rw [Int.max_eq_left hx]; exact List.mem_append_left _ h.1
  · rw [Int.max_eq_right (by omega)]; simp, fun y hy => by
  rcases List.mem_append.mp hy with hy | hy
  · have := h.2 y hy; omega
  · rw [List.mem_singleton.mp hy]; omega⟩
theorem IsMin.dup {l : List Int} {m x : Int} (h : IsMin (x :: x :: l) m) : IsMin (x :: l) m := ⟨by simpa using h.1, fun y hy => h.2 y (List.mem_cons_of_mem _ hy)⟩
theorem IsMax.dup {l : List Int} {m x : Int} (h : IsMax (x :: x :: l) m) : IsMax (x :: l) m := ⟨by simpa using h.1, fun y hy => h.2 y (List.mem_cons_of_mem _ hy)⟩
theorem srtI_sorted (ns : List Int) : (srtI ns).Pairwise (· ≤ ·) := by
  have := List.pairwise_mergeSort (le := fun (a b : Int) => decide (a ≤ b)) (fun a b c h1 h2 => by simp at *; omega) (fun a b => by simp; omega) ns
  exact this.imp fun h => by simpa using h
theorem srtI_perm (ns : List Int) : (srtI ns).Perm ns := List.mergeSort_perm ns _
theorem srtI_first {ns : List Int} (h : ns ≠ []) : ∃ m, (srtI ns)[0]? = some m ∧ IsMin ns m := by
  have p := srtI_perm ns
  cases e : srtI ns with
  | nil => rw [e] at p; exact absurd p.symm.eq_nil h
  | cons m r =>
    have s := srtI_sorted ns
    rw [e] at s p
    refine ⟨m, rfl, p.mem_iff.mp (by simp), fun x hx => ?_⟩
    rcases List.mem_cons.mp (p.mem_iff.mpr hx) with hx | hx
    · omega
    · exact (List.pairwise_cons.mp s).1 x hx
theorem srtI_last {ns : List Int} (h : ns ≠ []) : ∃ m, (srtI ns).getLast? = some m ∧ IsMax ns m := by
  have p := srtI_perm ns
  have hne : srtI ns ≠ [] := fun e => by rw [e] at p; exact h p.symm.eq_nil
  obtain ⟨r, m, e⟩ : ∃ r m, srtI ns = r ++ [m] := ⟨_, _, (List.dropLast_concat_getLast hne).symm⟩
  have s := srtI_sorted ns
  rw [e] at s p
  rw [e]
  refine ⟨m, by simp, p.mem_iff.mp (by simp), fun x hx => ?_⟩
  rcases List.mem_append.mp (p.mem_iff.mpr hx) with hx | hx
  · exact (List.pairwise_append.mp s).2.2 x hx m (by simp)
  · rw [List.mem_singleton.mp hx]; omega
end Dl
namespace Lw
open PySem PySem.Spec PyProof.Rows L2 Dl
/-- a spot of three numbers -/
abbrev Sp := Int × Int × Int
def spD (p : Sp) : D := .tup [.int p.1, .int p.2.1, .int p.2.2]
/-- the least box around -/
structure Arnd (ps : List Sp) (a b c e f g : Int) : Prop where
  x1 : IsMin (ps.map (·.1)) a
  y1 : IsMin (ps.map (·.2.1)) b
  x2 : IsMax (ps.map (·.1)) c
  y2 : IsMax (ps.map (·.2.1)) e
  lo : IsMin (ps.map (·.2.2)) f
  hi : IsMax (ps.map (·.2.2)) g
theorem around_nil : runF 10 M_around [.lst []] = .ok .non := by
  rw [runF_eq]
  simp [M_around]
theorem around_ok (p : Sp) (ps : List Sp) : ∃ a b c e f g, Arnd (p :: ps) a b c e f g ∧ runF 10 M_around [.lst ((p :: ps).map spD)] = .ok (box6 a b c e f g) := by
  obtain ⟨env', h1, a, b, f, c, e, g, rfl, h2⟩ := forGo_inv (gd := gdTup 3 (gdCons (gdName 7) (gdCons (gdName 8) (gdCons (gdName 9) gdNil)))) (body := M_around_l1) (ks := [7, 8, 9]) (enc := spD)
    (fun pre env => ∃ a b f c e g, env = [some (.lst ((p :: ps).map spD)), some (.int a), some (.int b), some (.int f), some (.int c), some (.int e), some (.int g), none, none, none] ∧ Arnd (p :: pre) a b c e f g) (p :: ps)
    (env := [some (.lst ((p :: ps).map spD)), some (.int p.1), some (.int p.2.1), some (.int p.2.2), some (.int p.1), some (.int p.2.1), some (.int p.2.2), none, none, none])
    ⟨_, _, _, _, _, _, rfl, ⟨by simp [IsMin], by simp [IsMin], by simp [IsMax], by simp [IsMax], by simp [IsMin], by simp [IsMax]⟩⟩ fun pre q post env hi ⟨a, b, f, c, e, g, ev, h⟩ => by
      subst ev
      refine ⟨_, by simp [spD]; rfl, _, .inl (by simp [M_around_l1, minI_eq, maxI_eq]; rfl), min a q.1, min b q.2.1, min f q.2.2, max c q.1, max e q.2.1, max g q.2.2, by simp [spD], ?_⟩
      obtain ⟨h1, h2, h3, h4, h5, h6⟩ := h
      rw [← List.cons_append]
      exact ⟨by rw [List.map_append]; exact h1.snoc, by rw [List.map_append]; exact h2.snoc, by rw [List.map_append]; exact h3.snoc, by rw [List.map_append]; exact h4.snoc, by rw [List.map_append]; exact h5.snoc, by rw [List.map_append]; exact h6.snoc⟩
  refine ⟨a, b, c, e, f, g, ⟨h2.x1.dup, h2.y1.dup, h2.x2.dup, h2.y2.dup, h2.lo.dup, h2.hi.dup⟩, ?_⟩
  rw [runF_eq]
  have e0 : gEq (.int ((ps.length : Int) + 1)) (.int 0) = some (.bl false) := by
    rw [gEq_int, decide_eq_false (by omega)]
  simp [spD] at h1
  simp [M_around, e0, spD, dFor, h1, box6]
end Lw

/-! Sp4: winds. -/
namespace Dl
open PySem PySem.Spec PyProof.Rows L2
@[simp] theorem cut_fromL {α : Type} (xs : List α) (b : Nat) : cutD xs (some (no_index (OfNat.ofNat b : Int))) none = xs.drop b := cut_from xs
def pqD (p : Int × Int) : D := .tup [.int p.1, .int p.2]
def lexP (x y : Int × Int) : Prop := x.1 < y.1 ∨ (x.1 = y.1 ∧ x.2 ≤ y.2)
theorem maxP_spec : ∀ (L : List (Int × Int)) (a : Int × Int), ∃ m ∈ a :: L, maxOfD (pqD a) (L.map pqD) = pqD m ∧ ∀ x ∈ a :: L, lexP x m
  | [], a => ⟨a, by simp, rfl, fun x hx => by rw [List.mem_singleton.mp hx]; exact .inr ⟨rfl, Int.le_refl _⟩⟩
  | y :: L, a => by
    have e : maxOfD (pqD a) ((y :: L).map pqD) = maxOfD (if PySem.W.dataLt (toPy (pqD a)) (toPy (pqD y)) then pqD y else pqD a) (L.map pqD) := rfl
    have lt : PySem.W.dataLt (toPy (pqD a)) (toPy (pqD y)) = decide (a.1 < y.1 ∨ (a.1 = y.1 ∧ a.2 < y.2)) := PySem.W.dataLt_ii _ _ _ _
    rw [e, lt]
    by_cases h : a.1 < y.1 ∨ (a.1 = y.1 ∧ a.2 < y.2)
    · rw [if_pos (decide_eq_true h)]
      obtain ⟨m, hm, em, hx⟩ := maxP_spec L y
      refine ⟨m, List.mem_cons_of_mem _ hm, em, fun x hx' => ?_⟩
      rcases List.mem_cons.mp hx' with rfl | hx'
      · have := hx y (by simp)
        unfold lexP at *
        omega
      · exact hx x hx'
    · rw [if_neg (by simpa using h)]
      obtain ⟨m, hm, em, hx⟩ := maxP_spec L a
      refine ⟨m, ?_, em, fun x hx' => ?_⟩
      · rcases List.mem_cons.mp hm with rfl | hm
        · simp
        · simp [hm]
      · rcases List.mem_cons.mp hx' with rfl | hx'
        · exact hx _ (by simp)
        · rcases List.mem_cons.mp hx' with rfl | hx'
          · have := hx a (by simp)
            unfold lexP at *
            omega
          · exact hx x (by simp [hx'])
theorem intsOf_pr (a : Int × Int) (L : List D) : intsOf (pqD a :: L) = none := rfl
theorem mmOk_pr (L : List (Int × Int)) : mmOk (L.map pqD) = true := by
  unfold mmOk
  simp only [Bool.and_eq_true, List.all_eq_true, List.mem_map, decide_eq_true_eq]
  rintro _ ⟨i, _, rfl⟩
  refine ⟨⟨⟨⟨rfl, rfl⟩, rfl⟩, ?_⟩, ?_⟩
  · show max 0 (max 0 0) + 1 ≤ 50
    omega
  · rintro _ ⟨j, _, rfl⟩
    rfl
theorem gMaxA_pr {L : List (Int × Int)} (h : L ≠ []) : ∃ m ∈ L, gMaxA [.lst (L.map pqD)] = some (pqD m) ∧ ∀ x ∈ L, lexP x m := by
  cases L with
  | nil => exact absurd rfl h
  | cons a L =>
    obtain ⟨m, hm, em, hx⟩ := maxP_spec L a
    refine ⟨m, hm, ?_, hx⟩
    have e : gOneD maxOfD [.lst (pqD a :: L.map pqD)] = some (pqD m) := by
      unfold gOneD
      have := mmOk_pr (a :: L)
      rw [List.map_cons] at this
      simp only [em, this]
      rfl
    unfold gMaxA
    exact e
theorem foldl_pre {α β : Type} {f : β → α → β} (P : List α → β → Prop) {b : β} (h0 : P [] b) (step : ∀ pre x b, P pre b → P (pre ++ [x]) (f b x)) (xs : List α) : P xs (xs.foldl f b) := by
  have : ∀ (xs pre : List α) (b : β), P pre b → P (pre ++ xs) (xs.foldl f b) := by
    intro xs
    induction xs with
    | nil => intro pre b h; simpa using h
    | cons x xs ih =>
      intro pre b h
      have := ih (pre ++ [x]) (f b x) (step pre x b h)
      simpa using this
  simpa using this xs [] b h0
end Dl
namespace Lw
open PySem PySem.Spec PyProof.Rows L2 Dl
/-- first, level, dx, dy -/
abbrev Wn := Int × Int × Int × Int
def wnD (w : Wn) : D := .tup [.int w.1, .int w.2.1, .int w.2.2.1, .int w.2.2.2]
def cand (h l : Int) (w : Wn) : Prop := w.2.1 = l ∧ w.1 ≤ h
instance (h l : Int) (w : Wn) : Decidable (cand h l w) := inferInstanceAs (Decidable (_ ∧ _))
def wStep (h l : Int) (a : (Int × Int) × Int) (w : Wn) : (Int × Int) × Int := if w.2.1 = l ∧ w.1 ≤ h ∧ a.2 ≤ w.1 then (w.2.2, w.1) else a
def windF (ws : List Wn) (h l : Int) : Int × Int := (ws.foldl (wStep h l) ((0, 0), -1)).1
theorem wind_at_ok (ws : List Wn) (h l : Int) : runF 9 M_wind_at [.lst (ws.map wnD), .int h, .int l] = .ok (pqD (windF ws h l)) := by
  obtain ⟨h1, _⟩ := forGo_fold (gd := gdTup 4 (gdCons (gdName 5) (gdCons (gdName 6) (gdCons (gdName 7) (gdCons (gdName 8) gdNil))))) (body := M_wind_at_l1) (ks := [5, 6, 7, 8]) (enc := wnD)
    (fun b => [some (.lst (ws.map wnD)), some (.int h), some (.int l), some (pqD b.1), some (.int b.2), none, none, none, none]) (wStep h l) (fun _ _ => True) ws ((0, 0), -1) trivial fun pre w post b _ _ => by
      refine ⟨_, by simp [wnD]; rfl, ?_⟩
      by_cases c : w.2.1 = l ∧ w.1 ≤ h ∧ b.2 ≤ w.1
      · exact ⟨_, .inl (by simp [M_wind_at_l1, c]; rfl), by simp [wStep, c, pqD], trivial⟩
      · refine ⟨_, .inl (by simp [M_wind_at_l1, c]; rfl), by simp [wStep, c, pqD], trivial⟩
  rw [runF_eq]
  simp [pqD] at h1
  simp [M_wind_at, dFor, h1, pqD, windF]
/-- what is found: the last of the greatest first hours -/
def WindS (h l : Int) (ws : List Wn) (s : (Int × Int) × Int) : Prop := (s = ((0, 0), -1) ∧ ∀ w ∈ ws, ¬ cand h l w) ∨ ∃ k w, ws[k]? = some w ∧ cand h l w ∧ s = (w.2.2, w.1) ∧ ∀ (j : Nat) w', ws[j]? = some w' → cand h l w' → w'.1 < w.1 ∨ (w'.1 = w.1 ∧ j ≤ k)
theorem get_snoc {α : Type} {l : List α} {x y : α} {j : Nat} (h : (l ++ [x])[j]? = some y) : l[j]? = some y ∨ (j = l.length ∧ y = x) := by
  by_cases hj : j < l.length
  · rw [List.getElem?_append_left hj] at h
    exact .inl h
  · obtain ⟨h1, h2⟩ := List.getElem?_eq_some_iff.mp h
    have hl : j = l.length := by simp at h1; omega
    subst hl
    simp at h
    exact .inr ⟨rfl, h.symm⟩
theorem windS_ok (h l : Int) (ws : List Wn) (h0 : ∀ w ∈ ws, 0 ≤ w.1) : WindS h l ws (ws.foldl (wStep h l) ((0, 0), -1)) := by
  refine foldl_pre (fun pre s => (∀ w ∈ pre, 0 ≤ w.1) → WindS h l pre s) (fun _ => .inl ⟨rfl, by simp⟩) (fun pre x s ih h0 => ?_) ws h0
  have hx : 0 ≤ x.1 := h0 x (by simp)
  have ih := ih fun w hw => h0 w (by simp [hw])
  unfold wStep
  by_cases c : cand h l x
  · rcases ih with ⟨rfl, hn⟩ | ⟨k, w, hk, cw, rfl, hm⟩
    · rw [if_pos ⟨c.1, c.2, by omega⟩]
      refine .inr ⟨pre.length, x, by simp, c, rfl, fun j w' hj cw' => ?_⟩
      rcases get_snoc hj with hj | ⟨rfl, rfl⟩
      · exact absurd cw' (hn w' (List.mem_of_getElem? hj))
      · exact .inr ⟨rfl, Nat.le_refl _⟩
    · by_cases hle : w.1 ≤ x.1
      · rw [if_pos ⟨c.1, c.2, hle⟩]
        refine .inr ⟨pre.length, x, by simp, c, rfl, fun j w' hj cw' => ?_⟩
        rcases get_snoc hj with hj | ⟨rfl, rfl⟩
        · have h1 := hm j w' hj cw'
          have h2 := (List.getElem?_eq_some_iff.mp hj).1
          omega
        · exact .inr ⟨rfl, Nat.le_refl _⟩
      · rw [if_neg (by rintro ⟨_, _, h3⟩; exact hle h3)]
        refine .inr ⟨k, w, ?_, cw, rfl, fun j w' hj cw' => ?_⟩
        · rw [List.getElem?_append_left (List.getElem?_eq_some_iff.mp hk).1]; exact hk
        rcases get_snoc hj with hj | ⟨rfl, rfl⟩
        · exact hm j w' hj cw'
        · exact .inl (by omega)
  · rw [if_neg (by rintro ⟨h1, h2, _⟩; exact c ⟨h1, h2⟩)]
    rcases ih with ⟨rfl, hn⟩ | ⟨k, w, hk, cw, rfl, hm⟩
    · refine .inl ⟨rfl, fun w hw => ?_⟩
      rcases List.mem_append.mp hw with hw | hw
      · exact hn w hw
      · rw [List.mem_singleton.mp hw]; exact c
    · refine .inr ⟨k, w, ?_, cw, rfl, fun j w' hj cw' => ?_⟩
      · rw [List.getElem?_append_left (List.getElem?_eq_some_iff.mp hk).1]; exact hk
      rcases get_snoc hj with hj | ⟨rfl, rfl⟩
      · exact hm j w' hj cw'
      · exact absurd cw' c
theorem law_wind_ok (ws : List Wn) (h l : Int) (h0 : ∀ w ∈ ws, 0 ≤ w.1) (hz : ws.length ≤ 1000) : runF 5 M_law_wind [.lst (ws.map wnD), .int h, .int l] = .ok (pqD (windF ws h l)) := by
  have W := windS_ok h l ws h0
  let p : Nat → Bool := fun k => match ws[k]? with | some w => decide (cand h l w) | none => false
  let q : Nat → Int × Int := fun k => ((match ws[k]? with | some w => w.1 | none => 0), (k : Int))
  have comp : ∀ e1, dComp (dRange1 (dCallO gLen (dCons (dVar 0) dNil))) (gdName 4) (dAnd (dBin gEq (dBin gIx (dBin gIx (dVar 0) (dVar 4)) (dC (.int (1)))) (dVar 2)) (dBin (gCmpI fun i j => decide (i ≤ j)) (dBin gIx (dBin gIx (dVar 0) (dVar 4)) (dC (.int (0)))) (dVar 1))) (dTup (dCons (dBin gIx (dBin gIx (dVar 0) (dVar 4)) (dC (.int (0)))) (dCons (dVar 4) dNil))) [4]
      [some (.lst (ws.map wnD)), some (.int h), some (.int l), e1, none] = .ok (.lst ((((List.range ws.length).filter p).map q).map pqD)) := by
    intro e1
    rw [dComp_filter (h := fun k => pqD (q k)) (enc := fun (i : Nat) => D.int (i : Int)) p (List.range ws.length) (by simp; rw [rng_nat (by omega)]) (by simp; omega), List.map_map]
    · rfl
    · intro k hk
      have hk := List.mem_range.mp hk
      have ek : ws[k]? = some ws[k] := List.getElem?_eq_getElem hk
      have ea : atI (ws.map wnD) (k : Int) = some (wnD ws[k]) := by rw [atI_natL, List.getElem?_map, ek]; rfl
      refine ⟨_, rfl, ?_, fun _ => ?_⟩
      · simp [ea, p, ek]
        simp [wnD, cand]
        rw [Bool.eq_iff_iff]
        simp only [Bool.and_eq_true, decide_eq_true_eq]
        exact ⟨fun h => decide_eq_true h, of_decide_eq_true⟩
      · simp [ea, q, ek, pqD]
        simp [wnD]
  rw [runF_eq]
  by_cases hn : ((List.range ws.length).filter p).map q = []
  · have hw : windF ws h l = (0, 0) := by
      rcases W with ⟨e, _⟩ | ⟨k, w, hk, cw, _, _⟩
      · unfold windF; rw [e]
      · exfalso
        have : k ∈ (List.range ws.length).filter p := List.mem_filter.mpr ⟨List.mem_range.mpr (List.getElem?_eq_some_iff.mp hk).1, by simp [p, hk, cw]⟩
        rw [List.map_eq_nil_iff.mp hn] at this
        cases this
    rw [hn] at comp
    simp [M_law_wind, comp, hw, pqD]
  · obtain ⟨m, hm, em, hx⟩ := gMaxA_pr hn
    obtain ⟨k, hk, rfl⟩ := List.mem_map.mp hm
    obtain ⟨hk1, hk2⟩ := List.mem_filter.mp hk
    have hk1 := List.mem_range.mp hk1
    have ek : ws[k]? = some ws[k] := List.getElem?_eq_getElem hk1
    have ck : cand h l ws[k] := by simpa [p, ek] using hk2
    have ea : atI (ws.map wnD) (k : Int) = some (wnD ws[k]) := by rw [atI_natL, List.getElem?_map, ek]; rfl
    have hw : windF ws h l = (ws[k]).2.2 := by
      rcases W with ⟨_, hno⟩ | ⟨k', w, hk', cw, es, hmx⟩
      · exact absurd ck (hno _ (List.getElem_mem hk1))
      · have h1 := hmx k _ ek ck
        have h2 := hx (q k') (List.mem_map.mpr ⟨k', List.mem_filter.mpr ⟨List.mem_range.mpr (List.getElem?_eq_some_iff.mp hk').1, by simp [p, hk', cw]⟩, rfl⟩)
        simp only [lexP, q, hk', ek] at h2
        have : k = k' := by omega
        subst this
        rw [ek] at hk'
        cases hk'
        unfold windF
        rw [es]
    have hne := hn
    simp at hne
    have hne' : ¬ ∀ a : Nat, a < ws.length → p a = false := fun h => by obtain ⟨x, h1, h2⟩ := hne; rw [h x h1] at h2; cases h2
    simp [M_law_wind, comp, hne', em, -List.map_map]
    simp [pqD, q, ea, hw]
    simp [wnD]
/-- winds as they are drawn -/
def WnOk (ws : List Wn) : Prop := (∀ w ∈ ws, 0 ≤ w.1) ∧ ws.length ≤ 1000
theorem wns_eq (ws : List Wn) : eqOk (.lst (ws.map wnD)) = true := okE_eqOk (n := 2) (by
  show (ws.map wnD).all (okE 1) = true
  rw [List.all_eq_true]
  rintro _ h
  obtain ⟨p, _, rfl⟩ := List.mem_map.mp h
  rfl) (by decide)
theorem goes_ok {c0 c1 c2 : DF'} (ws : List Wn) (hours : List Int) (h0 : ∀ h l, c0 [.lst (ws.map wnD), .int h, .int l] = .ok (pqD (windF ws h l))) (h2 : ∀ h l, c2 [.lst (ws.map wnD), .int h, .int l] = .ok (pqD (windF ws h l))) (h1 : ∀ p, c1 [pqD p, pqD p] = .ok (.bl true)) :
    runF 6 (M_law_goes c0 c1 c2) [.lst (ws.map wnD), .lst (hours.map D.int)] = .ok (.bl true) := by
  have ne : gNe (.lst (ws.map wnD)) (.lst (ws.map wnD)) = some (.bl false) := gNe_self (wns_eq ws)
  obtain ⟨env', e1, rfl⟩ := forGo_inv (gd := gdName 2) (body := M_law_goes_l2 c0 c1 c2) (ks := [2, 3, 4, 5]) (enc := D.int)
    (fun _ env => env = [some (.lst (ws.map wnD)), some (.lst (hours.map D.int)), none, none, none, none]) hours rfl fun pre h post env hi ev => by
      subst ev
      obtain ⟨env', e2, rfl⟩ := forGo_inv (gd := gdName 3) (body := M_law_goes_l1 c0 c1 c2) (ks := [3, 4, 5]) (enc := fun (i : Nat) => D.int (i : Int))
        (fun _ env => env = [some (.lst (ws.map wnD)), some (.lst (hours.map D.int)), some (.int h), none, none, none]) (List.range 6) rfl fun pre l post env hi ev => by
          subst ev
          exact ⟨_, rfl, _, .inl (by simp [M_law_goes_l1, h0, h1, h2, ne]; rfl), by simp⟩
      refine ⟨_, rfl, _, .inl (by simp [M_law_goes_l2, dFor, rng_ok, e2]; rfl), by simp⟩
  rw [runF_eq]
  simp [M_law_goes, dFor, e1]
end Lw

/-! Sp5: a sky that is drawn. -/
namespace Dl
open PySem PySem.Spec PyProof.Rows L2
theorem toPys_any {ys : List D} {f : PyData → Bool} : (toPys ys).any f = ys.any fun y => f (toPy y) := by
  rw [toPys_map, List.any_map]
  rfl
theorem gIn_E {x : D} {ys : List D} (n m : Nat) (hx : okE n x = true) (hy : okE m (.lst ys) = true) (hn : n ≤ 64) (hm : m ≤ 64) : gIn x (.lst ys) = some (.bl (dec (x ∈ ys))) := by
  cases m with
  | zero => cases hy
  | succ m =>
    show (if eqOk x && eqOk (.lst ys) then some (D.bl ((toPys ys).any fun z => PyData.eqv z (toPy x))) else none) = _
    rw [okE_eqOk hx hn, okE_eqOk hy hm, toPys_any]
    show some (D.bl _) = _
    congr 2
    have hy : ys.all (okE m) = true := hy
    rw [List.all_eq_true] at hy
    rw [Bool.eq_iff_iff, List.any_eq_true, dec_iff]
    constructor
    · rintro ⟨y, h1, h2⟩
      rw [← (okE_eqv m n y x (hy y h1) hx).mp h2]
      exact h1
    · intro h
      exact ⟨x, h, (okE_eqv m n x x (hy x h) hx).mpr rfl⟩
theorem gNotIn_of {x y : D} {b : Bool} (h : gIn x y = some (.bl b)) : gNotIn x y = some (.bl (!b)) := by
  unfold gNotIn
  rw [h]
@[simp] theorem gIn_ints {x : Int} {cs : List Int} : gIn (.int x) (.lst (cs.map D.int)) = some (.bl (decide (x ∈ cs))) := by
  rw [gIn_E 0 1 rfl (by
    show (cs.map D.int).all (okE 0) = true
    rw [List.all_eq_true]
    rintro _ h
    obtain ⟨p, _, rfl⟩ := List.mem_map.mp h
    rfl) (by decide) (by decide), ← dec_dec]
  congr 3
  simp
@[simp] theorem gNotIn_ints {x : Int} {cs : List Int} : gNotIn (.int x) (.lst (cs.map D.int)) = some (.bl (!decide (x ∈ cs))) := gNotIn_of gIn_ints
end Dl
namespace Lw
open PySem PySem.Spec PyProof.Rows L2 Dl
/-- a shut box: six of the box, first, last -/
structure Sh where
  (a b c e f g h i : Int)
def shD (s : Sh) : D := .tup [.int s.a, .int s.b, .int s.c, .int s.e, .int s.f, .int s.g, .int s.h, .int s.i]
structure Sky where
  hills : List Sp
  cools : List Int
  winds : List Wn
  shuts : List Sh
def skyD (s : Sky) : D := .tup [.lst (s.hills.map spD), .lst (s.cools.map D.int), .lst (s.winds.map wnD), .lst (s.shuts.map shD)]
structure SkyOk (x y : Int) (s : Sky) : Prop where
  hl : s.hills.length ≤ 5
  hk : ∀ p ∈ s.hills, (x - 4 ≤ p.1 ∧ p.1 ≤ x + 4) ∧ (y - 4 ≤ p.2.1 ∧ p.2.1 ≤ y + 4) ∧ 1 ≤ p.2.2 ∧ p.2.2 ≤ 5
  cl : s.cools.length ≤ 4
  ck : ∀ c ∈ s.cools, 0 ≤ c ∧ c ≤ 23
  cn : s.cools.Nodup
  wl : s.winds.length ≤ 19
  wk : ∀ w ∈ s.winds, (0 ≤ w.1 ∧ w.1 ≤ 23) ∧ (0 ≤ w.2.1 ∧ w.2.1 ≤ 5) ∧ (-2 ≤ w.2.2.1 ∧ w.2.2.1 ≤ 2) ∧ -2 ≤ w.2.2.2 ∧ w.2.2.2 ≤ 2
  sl : s.shuts.length ≤ 3
  sk : ∀ t ∈ s.shuts, t.a ≤ t.c ∧ t.b ≤ t.e ∧ (0 ≤ t.f ∧ t.f ≤ t.g ∧ t.g ≤ 5) ∧ 0 ≤ t.h ∧ t.h ≤ t.i ∧ t.i ≤ 24
def enS (d : List Int) (x y h : Int) (a b c e : Option D) : DEnv := [some (.lst (d.map D.int)), some (.tup [.int x, .int y]), some (.int h), a, none, b, none, c, none, none, e, none, none]
section
variable {d : List Int} {n : Nat} (hd : Dr n d) (hn : 120 ≤ n) {x y h : Int}
include hd hn
theorem sky_hills (c0 : DF') (m : Nat) (hm : m ≤ 5) : ∃ ps : List Sp, forGo (gdName 4) (M_law_sky_l4 c0) [4] ((List.range m).map fun (i : Nat) => D.int (i : Int)) (enS d x y h (some (.lst [])) none none none) = .nx (enS d x y h (some (.lst (ps.map spD))) none none none)
    ∧ ps.length ≤ 5 ∧ ∀ p ∈ ps, (x - 4 ≤ p.1 ∧ p.1 ≤ x + 4) ∧ (y - 4 ≤ p.2.1 ∧ p.2.1 ≤ y + 4) ∧ 1 ≤ p.2.2 ∧ p.2.2 ≤ 5 := by
  obtain ⟨env', h1, ps, rfl, h2, h3⟩ := forGo_inv (gd := gdName 4) (body := M_law_sky_l4 c0) (ks := [4]) (enc := fun (i : Nat) => D.int (i : Int))
    (fun pre env => ∃ ps : List Sp, env = enS d x y h (some (.lst (ps.map spD))) none none none ∧ ps.length ≤ pre.length ∧ ∀ p ∈ ps, (x - 4 ≤ p.1 ∧ p.1 ≤ x + 4) ∧ (y - 4 ≤ p.2.1 ∧ p.2.1 ≤ y + 4) ∧ 1 ≤ p.2.2 ∧ p.2.2 ≤ 5) (List.range m)
    (env := enS d x y h (some (.lst [])) none none none) ⟨[], rfl, by simp, by simp⟩ fun pre k post env hi ⟨ps, ev, h2, h3⟩ => by
      subst ev
      obtain ⟨rfl, hk⟩ := pre_range hi
      obtain ⟨u, u0, u1, eu⟩ := dr_get hd (i := 3 * (pre.length : Int) + 1) (by omega) (by omega)
      obtain ⟨v, v0, v1, evv⟩ := dr_get hd (i := 3 * (pre.length : Int) + 2) (by omega) (by omega)
      obtain ⟨w, w0, w1, ew⟩ := dr_get hd (i := 3 * (pre.length : Int) + 3) (by omega) (by omega)
      have hz : ps.length < sizeLine := lt_size (by omega)
      refine ⟨_, rfl, _, .inl (by simp [M_law_sky_l4, enS, eu, evv, ew, hz]; rfl), ps ++ [(x + u % 9 - 4, y + v % 9 - 4, 1 + w % 5)], by simp [enS, spD], by simp; omega, fun p hp => ?_⟩
      rcases List.mem_append.mp hp with hp | hp
      · exact h3 p hp
      · rw [List.mem_singleton.mp hp]
        refine ⟨⟨?_, ?_⟩, ⟨?_, ?_⟩, ?_, ?_⟩ <;> simp only <;> omega
  exact ⟨ps, h1, by simp at h2; omega, h3⟩
theorem sky_cools (c0 : DF') (m : Nat) (hm : m ≤ 4) (h0 : 0 ≤ h) (a : Option D) {z : Int} (ez : atI (d.map D.int) 0 = some (.int z)) (z0 : 0 ≤ z) : ∃ cs : List Int, forGo (gdName 4) (M_law_sky_l3 c0) [4, 6] ((List.range m).map fun (i : Nat) => D.int (i : Int)) (enS d x y h a (some (.lst [])) none none) = .nx (enS d x y h a (some (.lst (cs.map D.int))) none none)
    ∧ cs.length ≤ 4 ∧ (∀ c ∈ cs, 0 ≤ c ∧ c ≤ 23) ∧ cs.Nodup := by
  obtain ⟨env', h1, cs, rfl, h2, h3, h4⟩ := forGo_inv (gd := gdName 4) (body := M_law_sky_l3 c0) (ks := [4, 6]) (enc := fun (i : Nat) => D.int (i : Int))
    (fun pre env => ∃ cs : List Int, env = enS d x y h a (some (.lst (cs.map D.int))) none none ∧ cs.length ≤ pre.length ∧ (∀ c ∈ cs, 0 ≤ c ∧ c ≤ 23) ∧ cs.Nodup) (List.range m)
    (env := enS d x y h a (some (.lst [])) none none) ⟨[], rfl, by simp, by simp, by simp⟩ fun pre k post env hi ⟨cs, ev, h2, h3, h4⟩ => by
      subst ev
      obtain ⟨rfl, hk⟩ := pre_range hi
      obtain ⟨u, u0, u1, eu⟩ := dr_get hd (i := 16 + (pre.length : Int)) (by omega) (by omega)
      have hz : cs.length < sizeLine := lt_size (by omega)
      obtain ⟨w, hw, ew⟩ := atI_ints [u % 24, (h + u % 4) % 24] (i := z / 30 % 2) (by omega) (by simp; omega)
      have hw' : 0 ≤ w ∧ w ≤ 23 := by
        simp at hw
        rcases hw with rfl | rfl <;> omega
      simp only [atI_lit, atI_zero] at ez
      simp at ew
      refine ⟨_, rfl, ?_⟩
      by_cases c : w ∈ cs
      · exact ⟨_, .inl (by simp [M_law_sky_l3, enS, eu, ez, ew, c, -List.getElem?_map]; rfl), cs, by simp [enS], by simp; omega, h3, h4⟩
      · refine ⟨_, .inl (by simp [M_law_sky_l3, enS, eu, ez, ew, c, hz, -List.getElem?_map]; rfl), cs ++ [w], by simp [enS], by simp; omega, fun c' hc => ?_, ?_⟩
        · rcases List.mem_append.mp hc with hc | hc
          · exact h3 c' hc
          · rw [List.mem_singleton.mp hc]; exact hw'
        · exact List.nodup_append.mpr ⟨h4, by simp, fun a ha b hb => by rw [List.mem_singleton.mp hb]; rintro rfl; exact c ha⟩
  exact ⟨cs, h1, by simp at h2; omega, h3, h4⟩
def WnK (w : Wn) : Prop := (0 ≤ w.1 ∧ w.1 ≤ 23) ∧ (0 ≤ w.2.1 ∧ w.2.1 ≤ 5) ∧ (-2 ≤ w.2.2.1 ∧ w.2.2.1 ≤ 2) ∧ -2 ≤ w.2.2.2 ∧ w.2.2.2 ≤ 2
theorem sky_still (a b : Option D) : ∃ ws : List Wn, ws.length = 6 ∧ (∀ w ∈ ws, WnK w) ∧ dComp (dRange1 (dC (.int (6)))) (gdName 12) (dC (.bl true)) (dImm (dTup (dCons (dC (.int (0))) (dCons (dVar 12) (dCons (dBin gSubI (dBin gModI (dBin gIx (dVar 0) (dBin gAdd (dC (.int (78))) (dBin gMulI (dC (.int (2))) (dVar 12)))) (dC (.int (5)))) (dC (.int (2)))) (dCons (dBin gSubI (dBin gModI (dBin gIx (dVar 0) (dBin gAdd (dC (.int (79))) (dBin gMulI (dC (.int (2))) (dVar 12)))) (dC (.int (5)))) (dC (.int (2)))) dNil)))))) [12]
    (enS d x y h a b (some (.lst [])) none) = .ok (.lst (ws.map wnD)) := by
  let g : Int → Int := fun i => match atI (d.map D.int) i with | some (.int v) => v | _ => 0
  let w : Nat → Wn := fun k => (0, (k : Int), g (78 + 2 * k) % 5 - 2, g (79 + 2 * k) % 5 - 2)
  refine ⟨(List.range 6).map w, by simp, ?_, ?_⟩
  · rintro _ hw
    obtain ⟨k, hk, rfl⟩ := List.mem_map.mp hw
    have hk := List.mem_range.mp hk
    refine ⟨⟨?_, ?_⟩, ⟨?_, ?_⟩, ⟨?_, ?_⟩, ?_, ?_⟩ <;> simp only [w] <;> omega
  · rw [dComp_map (h := fun k => wnD (w k)) (enc := fun (i : Nat) => D.int (i : Int)) (List.range 6) (by simp [rng_ok]) (by simp), List.map_map]
    · rfl
    · intro k hk
      have hk := List.mem_range.mp hk
      obtain ⟨u, u0, u1, eu⟩ := dr_get hd (i := 78 + 2 * (k : Int)) (by omega) (by omega)
      obtain ⟨v, v0, v1, ev⟩ := dr_get hd (i := 79 + 2 * (k : Int)) (by omega) (by omega)
      refine ⟨_, rfl, rfl, ?_⟩
      simp [enS, eu, ev, w, wnD, g]
theorem sky_winds (c0 : DF') (m : Nat) (hm : m ≤ 13) (h0 : 0 ≤ h) (a b : Option D) (ws0 : List Wn) (hl : ws0.length ≤ 6) (hk : ∀ w ∈ ws0, WnK w) : ∃ ws : List Wn, forGo (gdName 4) (M_law_sky_l2 c0) [4, 8, 9] ((List.range m).map fun (i : Nat) => D.int (i : Int)) (enS d x y h a b (some (.lst (ws0.map wnD))) none) = .nx (enS d x y h a b (some (.lst (ws.map wnD))) none)
    ∧ ws.length ≤ 19 ∧ ∀ w ∈ ws, WnK w := by
  obtain ⟨env', h1, ws, rfl, h2, h3⟩ := forGo_inv (gd := gdName 4) (body := M_law_sky_l2 c0) (ks := [4, 8, 9]) (enc := fun (i : Nat) => D.int (i : Int))
    (fun pre env => ∃ ws : List Wn, env = enS d x y h a b (some (.lst (ws.map wnD))) none ∧ ws.length ≤ 6 + pre.length ∧ ∀ w ∈ ws, WnK w) (List.range m)
    (env := enS d x y h a b (some (.lst (ws0.map wnD))) none) ⟨ws0, rfl, by simpa using hl, hk⟩ fun pre k post env hi ⟨ws, ev, h2, h3⟩ => by
      subst ev
      obtain ⟨rfl, hk⟩ := pre_range hi
      obtain ⟨d', hd', ed⟩ := dr_cutI hd (i := 22 + 4 * (pre.length : Int)) (j := 26 + 4 * (pre.length : Int)) (22 + 4 * pre.length) (26 + 4 * pre.length) (by omega) (by omega) (by omega) (by omega)
      rw [show 26 + 4 * pre.length - (22 + 4 * pre.length) = 4 by omega] at hd'
      obtain ⟨d0, d1, d2, d3, rfl, _, _, _, _⟩ := dr4 hd'
      have hz : ws.length < sizeLine := lt_size (by omega)
      obtain ⟨w, hw, ew⟩ := atI_ints [d0 % 24, (h + d0 / 7 % 6) % 24] (i := d1 / 6 % 2) (by omega) (by simp; omega)
      have hw' : 0 ≤ w ∧ w ≤ 23 := by
        simp at hw
        rcases hw with rfl | rfl <;> omega
      simp at ew
      refine ⟨_, rfl, _, .inl (by simp [M_law_sky_l2, enS, ed, ew, hz]; rfl), ws ++ [(w, d1 % 6, d2 % 5 - 2, d3 % 5 - 2)], by simp [enS, wnD], by simp; omega, fun w' hw2 => ?_⟩
      rcases List.mem_append.mp hw2 with hw2 | hw2
      · exact h3 w' hw2
      · rw [List.mem_singleton.mp hw2]
        refine ⟨hw', ⟨?_, ?_⟩, ⟨?_, ?_⟩, ?_, ?_⟩ <;> simp only <;> omega
  exact ⟨ws, h1, by simp at h2; omega, h3⟩
def ShK (t : Sh) : Prop := t.a ≤ t.c ∧ t.b ≤ t.e ∧ (0 ≤ t.f ∧ t.f ≤ t.g ∧ t.g ≤ 5) ∧ 0 ≤ t.h ∧ t.h ≤ t.i ∧ t.i ≤ 24
theorem sky_shuts (c0 : DF') (hc : ∀ (d0 d1 d2 d3 d4 d5 : Int) (r : List Int), c0 [.lst ((d0 :: d1 :: d2 :: d3 :: d4 :: d5 :: r).map D.int), .tup [.int x, .int y]] = .ok (boxN x y d0 d1 d2 d3 d4 d5)) (m : Nat) (hm : m ≤ 3) (h0 : 0 ≤ h) (h24 : h ≤ 24) (a b c : Option D) : ∃ ss : List Sh, forGo (gdName 4) (M_law_sky_l1 c0) [4, 11, 9] ((List.range m).map fun (i : Nat) => D.int (i : Int)) (enS d x y h a b c (some (.lst []))) = .nx (enS d x y h a b c (some (.lst (ss.map shD))))
    ∧ ss.length ≤ 3 ∧ ∀ s ∈ ss, ShK s := by
  obtain ⟨env', h1, ss, rfl, h2, h3⟩ := forGo_inv (gd := gdName 4) (body := M_law_sky_l1 c0) (ks := [4, 11, 9]) (enc := fun (i : Nat) => D.int (i : Int))
    (fun pre env => ∃ ss : List Sh, env = enS d x y h a b c (some (.lst (ss.map shD))) ∧ ss.length ≤ pre.length ∧ ∀ s ∈ ss, ShK s) (List.range m)
    (env := enS d x y h a b c (some (.lst []))) ⟨[], rfl, by simp, by simp⟩ fun pre k post env hi ⟨ss, ev, h2, h3⟩ => by
      subst ev
      obtain ⟨rfl, hk⟩ := pre_range hi
      obtain ⟨d', hd', ed⟩ := dr_cutI hd (i := 91 + 8 * (pre.length : Int)) (j := 99 + 8 * (pre.length : Int)) (91 + 8 * pre.length) (99 + 8 * pre.length) (by omega) (by omega) (by omega) (by omega)
      rw [show 99 + 8 * pre.length - (91 + 8 * pre.length) = 8 by omega] at hd'
      obtain ⟨d0, d1, d2, d3, d4, d5, d6, d7, rfl, _, _, _, _, _, _, _, _⟩ := dr8 hd'
      have hz : ss.length < sizeLine := lt_size (by omega)
      obtain ⟨w, hw, ew⟩ := atI_ints [d6 % 25, h] (i := d7 % 2) (by omega) (by simp; omega)
      have hw' : 0 ≤ w ∧ w ≤ 24 := by
        simp at hw
        rcases hw with rfl | rfl <;> omega
      have eb := hc d0 d1 d2 d3 d4 d5 [d6, d7]
      have m25 : gModI (.int (d7 / 2)) (.int (25 - w)) = some (.int (d7 / 2 % (25 - w))) := gModI_pos (by omega)
      have p1 : 0 ≤ d7 / 2 % (25 - w) := Int.emod_nonneg _ (by omega)
      have p2 : d7 / 2 % (25 - w) < 25 - w := Int.emod_lt_of_pos _ (by omega)
      have p3 : 0 ≤ d5 % (6 - d4 % 6) := Int.emod_nonneg _ (by omega)
      have p4 : d5 % (6 - d4 % 6) < 6 - d4 % 6 := Int.emod_lt_of_pos _ (by omega)
      simp at ew eb
      refine ⟨_, rfl, _, .inl (by simp [M_law_sky_l1, enS, ed, ew, hz, eb, m25, boxN, box6]; rfl), ss ++ [⟨x + d0 % 9 - 4, y + d1 % 9 - 4, x + d0 % 9 - 4 + d2 % 4, y + d1 % 9 - 4 + d3 % 4, d4 % 6, d4 % 6 + d5 % (6 - d4 % 6), w, w + d7 / 2 % (25 - w)⟩], by simp [enS, shD], by simp; omega, fun t ht => ?_⟩
      rcases List.mem_append.mp ht with ht | ht
      · exact h3 t ht
      · rw [List.mem_singleton.mp ht]
        refine ⟨?_, ?_, ⟨?_, ?_, ?_⟩, ?_, ?_, ?_⟩ <;> simp only <;> omega
  exact ⟨ss, h1, by simp at h2; omega, h3⟩
/-- a sky that is drawn -/
theorem sky_ok (c0 : DF') (hc : ∀ (d0 d1 d2 d3 d4 d5 : Int) (r : List Int), c0 [.lst ((d0 :: d1 :: d2 :: d3 :: d4 :: d5 :: r).map D.int), .tup [.int x, .int y]] = .ok (boxN x y d0 d1 d2 d3 d4 d5)) (h0 : 0 ≤ h) (h24 : h ≤ 24) :
    ∃ s : Sky, SkyOk x y s ∧ runF 13 (M_law_sky c0) [.lst (d.map D.int), .tup [.int x, .int y], .int h] = .ok (skyD s) := by
  obtain ⟨z, z0, z1, ez⟩ := dr_get hd (i := 0) (by omega) (by omega)
  obtain ⟨z21, z210, z211, ez21⟩ := dr_get hd (i := 21) (by omega) (by omega)
  obtain ⟨z90, z900, z901, ez90⟩ := dr_get hd (i := 90) (by omega) (by omega)
  obtain ⟨ps, e1, p1, p2⟩ := sky_hills hd hn (x := x) (y := y) (h := h) c0 (z % 6).toNat (by omega)
  obtain ⟨cs, e2, q1, q2, q3⟩ := sky_cools hd hn (x := x) (y := y) (h := h) c0 (z / 6 % 5).toNat (by omega) h0 (some (.lst (ps.map spD))) ez z0
  have rg : ∀ v k : Int, 0 < k → k ≤ 1000 → rng (v % k) = .ok ((List.range (v % k).toNat).map fun (i : Nat) => D.int (i : Int)) := fun v k hk hk2 => by
    have := Int.emod_lt_of_pos v hk
    have := Int.emod_nonneg v (b := k) (by omega)
    exact rng_ok (by omega) (by omega)
  have rg6 := rg z 6 (by omega) (by omega)
  have rg5 := rg (z / 6) 5 (by omega) (by omega)
  have rg14 := rg (z21 / 4) 14 (by omega) (by omega)
  have rg4 := rg z90 4 (by omega) (by omega)
  obtain ⟨wsS, w1, w2, w3⟩ := sky_still hd hn (x := x) (y := y) (h := h) (some (.lst (ps.map spD))) (some (.lst (cs.map D.int)))
  simp only [atI_lit, atI_zero] at ez ez21 ez90
  by_cases c : 0 < z21 % 4
  · obtain ⟨ws, e3, r1, r2⟩ := sky_winds hd hn (x := x) (y := y) (h := h) c0 (z21 / 4 % 14).toNat (by omega) h0 (some (.lst (ps.map spD))) (some (.lst (cs.map D.int))) wsS (by omega) w2
    obtain ⟨ss, e4, s1, s2⟩ := sky_shuts hd hn c0 hc (z90 % 4).toNat (by omega) h0 h24 (some (.lst (ps.map spD))) (some (.lst (cs.map D.int))) (some (.lst (ws.map wnD)))
    refine ⟨⟨ps, cs, ws, ss⟩, ⟨p1, p2, q1, q2, q3, r1, r2, s1, s2⟩, ?_⟩
    rw [runF_eq]
    simp only [enS] at e1 e2 w3 e3 e4
    simp [M_law_sky, dFor, ez, ez21, ez90, rg6, rg5, rg14, rg4, e1, e2, c, w3, e3, e4, skyD, -List.getElem?_map]
  · obtain ⟨ws, e3, r1, r2⟩ := sky_winds hd hn (x := x) (y := y) (h := h) c0 (z21 / 4 % 14).toNat (by omega) h0 (some (.lst (ps.map spD))) (some (.lst (cs.map D.int))) [] (by simp) (by simp)
    obtain ⟨ss, e4, s1, s2⟩ := sky_shuts hd hn c0 hc (z90 % 4).toNat (by omega) h0 h24 (some (.lst (ps.map spD))) (some (.lst (cs.map D.int))) (some (.lst (ws.map wnD)))
    refine ⟨⟨ps, cs, ws, ss⟩, ⟨p1, p2, q1, q2, q3, r1, r2, s1, s2⟩, ?_⟩
    rw [runF_eq]
    simp only [enS] at e1 e2 w3 e3 e4
    simp only [List.map_nil] at e3
    simp [M_law_sky, dFor, ez, ez21, ez90, rg6, rg5, rg14, rg4, e1, e2, c, e3, e4, skyD, -List.getElem?_map]
end
end Lw

/-! Sp6: spells of one wind. -/
namespace Dl
open PySem PySem.Spec PyProof.Rows L2
theorem atI_last {α : Type} {l : List α} {x : α} : atI (l ++ [x]) (-1) = some x := by
  rw [atI_lastL]
  simp
theorem put_last {l : List D} {x w : D} : putD (.lst (l ++ [x])) (.int (-1)) w = some (.lst (l ++ [w])) := by
  show (ixN (l ++ [x]).length (-1)).map (fun n => D.lst ((l ++ [x]).set n w)) = _
  unfold ixN
  rw [if_neg (by decide), if_pos (by simp; omega)]
  have : ((-1 : Int) + ((l ++ [x]).length : Int)).toNat = l.length := by simp; omega
  rw [this]
  simp
end Dl
namespace Lw
open PySem PySem.Spec PyProof.Rows L2 Dl
/-- the spells of the first n hours -/
def spellL (f : Int → Int × Int) : Nat → List Wn
  | 0 => []
  | n + 1 => match (spellL f n).getLast? with
    | some q => if q.2.2 = f n then (spellL f n).dropLast ++ [(q.1, (n : Int), f n)] else spellL f n ++ [((n : Int), (n : Int), f n)]
    | none => [((n : Int), (n : Int), f n)]
theorem spellL_len (f : Int → Int × Int) : ∀ n, (spellL f n).length ≤ n
  | 0 => Nat.le_refl _
  | n + 1 => by
    have ih := spellL_len f n
    unfold spellL
    split
    · split
      · simp; omega
      · simp; omega
    · simp
/-- after an hour: a last spell with that hour's wind -/
theorem spellL_last (f : Int → Int × Int) (n : Nat) : ∃ l q, spellL f (n + 1) = l ++ [q] ∧ q.2.2 = f n := by
  unfold spellL
  split
  · split
    · exact ⟨_, _, rfl, rfl⟩
    · exact ⟨_, _, rfl, rfl⟩
  · exact ⟨[], _, rfl, rfl⟩
theorem spellL_more {f : Int → Int × Int} {n : Nat} {l : List Wn} {q : Wn} (h : spellL f n = l ++ [q]) : spellL f (n + 1) = if q.2.2 = f n then l ++ [(q.1, (n : Int), f n)] else l ++ [q] ++ [((n : Int), (n : Int), f n)] := by
  conv => lhs; unfold spellL
  rw [h]
  simp
theorem pair_iff {p q : Int × Int} : (p.1 = q.1 ∧ p.2 = q.2) ↔ p = q := by
  cases p; cases q; simp
theorem spells_ok {c0 : DF'} (ws : List Wn) (l : Int) (f : Int → Int × Int) (hc : ∀ h, c0 [.lst (ws.map wnD), .int h, .int l] = .ok (pqD (f h))) : runF 6 (M_spells c0) [.lst (ws.map wnD), .int l] = .ok (.lst ((spellL f 24).map wnD)) := by
  obtain ⟨env', h1, h2⟩ := forGo_inv (gd := gdName 3) (body := M_spells_l1 c0) (ks := [3, 4, 5]) (enc := fun (i : Nat) => D.int (i : Int))
    (fun pre env => env = [some (.lst (ws.map wnD)), some (.int l), some (.lst ((spellL f pre.length).map wnD)), none, none, none]) (List.range 24)
    (env := [some (.lst (ws.map wnD)), some (.int l), some (.lst []), none, none, none]) rfl fun pre k post env hi ev => by
      subst ev
      obtain ⟨rfl, hk⟩ := pre_range hi
      refine ⟨_, rfl, ?_⟩
      cases hn : pre.length with
      | zero =>
        exact ⟨_, .inl (by simp [M_spells_l1, hc, pqD, spellL]; rfl), by simp [hn, spellL, wnD]⟩
      | succ n =>
        obtain ⟨s, q, e, _⟩ := spellL_last f n
        have hs : s.length ≤ n := by have := spellL_len f (n + 1); rw [e] at this; simp at this; omega
        have e2 := spellL_more e
        have z1 : s.length + 1 < sizeLine := lt_size (by omega)
        have el : atI (s.map wnD ++ [wnD q]) (-1) = some (.tup [.int q.1, .int q.2.1, .int q.2.2.1, .int q.2.2.2]) := atI_last
        rw [e]
        have z2 : (0 : Int) < (s.length : Int) + 1 := by omega
        by_cases c : q.2.2 = f ((n + 1 : Nat) : Int)
        · have c' : q.2.2.1 = (f ((n : Int) + 1)).1 ∧ q.2.2.2 = (f ((n : Int) + 1)).2 := by rw [c]; exact ⟨rfl, rfl⟩
          refine ⟨_, .inl (by simp [M_spells_l1, hc, pqD, el, put_last, c', gEq_two, z2]; rfl), ?_⟩
          rw [List.length_append, hn]
          show _ = [_, _, some (D.lst ((spellL f (n + 1 + 1)).map wnD)), _, _, _]
          rw [e2, if_pos c]
          simp [wnD, pqD]
        · have c' : ¬ (q.2.2.1 = (f ((n : Int) + 1)).1 ∧ q.2.2.2 = (f ((n : Int) + 1)).2) := fun h => c (pair_iff.mp h)
          refine ⟨_, .inl (by simp [M_spells_l1, hc, pqD, el, z1, c', gEq_two, z2]; rfl), ?_⟩
          rw [List.length_append, hn]
          show _ = [_, _, some (D.lst ((spellL f (n + 1 + 1)).map wnD)), _, _, _]
          rw [e2, if_neg c]
          simp [wnD, pqD]
  subst h2
  rw [List.length_range] at h1
  rw [runF_eq]
  simp [M_spells, dFor, rng_ok, h1]
theorem due2_ok {c0 : DF'} (ws : List Wn) (l : Int) (f : Int → Int × Int) (hc : ∀ h, c0 [.lst (ws.map wnD), .int h, .int l] = .ok (pqD (f h))) : runF 5 (M_law_due_2 c0) [.lst (ws.map wnD), .int l] = .ok (.lst ((spellL f 24).map wnD)) := by
  obtain ⟨env', h1, h2⟩ := forGo_inv (gd := gdName 3) (body := M_law_due_2_l1 c0) (ks := [3, 4]) (enc := fun (i : Nat) => D.int (i : Int))
    (fun pre env => env = [some (.lst (ws.map wnD)), some (.int l), some (.lst ((spellL f pre.length).map wnD)), none, none]) (List.range 24)
    (env := [some (.lst (ws.map wnD)), some (.int l), some (.lst []), none, none]) rfl fun pre k post env hi ev => by
      subst ev
      obtain ⟨rfl, hk⟩ := pre_range hi
      refine ⟨_, rfl, ?_⟩
      cases hn : pre.length with
      | zero =>
        exact ⟨_, .inl (by simp [M_law_due_2_l1, hc, pqD, spellL]; rfl), by simp [hn, spellL, wnD]⟩
      | succ n =>
        obtain ⟨s, q, e, eq⟩ := spellL_last f n
        have hs : s.length ≤ n := by have := spellL_len f (n + 1); rw [e] at this; simp at this; omega
        have e2 := spellL_more e
        have z1 : s.length + 1 < sizeLine := lt_size (by omega)
        have el : atI (s.map wnD ++ [wnD q]) (-1) = some (.tup [.int q.1, .int q.2.1, .int q.2.2.1, .int q.2.2.2]) := atI_last
        rw [e]
        have z2 : (0 : Int) < (n : Int) + 1 := by omega
        have z3 : (n : Int) + 1 - 1 = n := by omega
        by_cases c : q.2.2 = f ((n + 1 : Nat) : Int)
        · have c' : (f (n : Int)).1 = (f ((n : Int) + 1)).1 ∧ (f (n : Int)).2 = (f ((n : Int) + 1)).2 := by rw [← eq, c]; exact ⟨rfl, rfl⟩
          refine ⟨_, .inl (by simp [M_law_due_2_l1, hc, pqD, el, put_last, c', gEq_two, z2, z3]; rfl), ?_⟩
          rw [List.length_append, hn]
          show _ = [_, _, some (D.lst ((spellL f (n + 1 + 1)).map wnD)), _, _]
          rw [e2, if_pos c]
          simp [wnD, pqD]
        · have c' : ¬ ((f (n : Int)).1 = (f ((n : Int) + 1)).1 ∧ (f (n : Int)).2 = (f ((n : Int) + 1)).2) := fun h => c (eq.trans (pair_iff.mp h))
          refine ⟨_, .inl (by simp [M_law_due_2_l1, hc, pqD, el, z1, c', gEq_two, z2, z3]; rfl), ?_⟩
          rw [List.length_append, hn]
          show _ = [_, _, some (D.lst ((spellL f (n + 1 + 1)).map wnD)), _, _]
          rw [e2, if_neg c]
          simp [wnD, pqD]
  subst h2
  rw [List.length_range] at h1
  rw [runF_eq]
  simp [M_law_due_2, dFor, rng_ok, h1]
end Lw

/-! Sp7: ground, shut air, where a state may stand. -/
namespace Dl
open PySem PySem.Spec PyProof.Rows L2
theorem imms_map {α : Type} {f : α → D} {xs : List α} (h : ∀ x ∈ xs, imm (f x) = true) : imms (xs.map f) = true := by
  induction xs with
  | nil => rfl
  | cons x xs ih =>
    rw [List.map_cons, imms_cons, h x (by simp), ih fun y hy => h y (by simp [hy])]
    rfl
theorem noDics_map {α : Type} {f : α → D} {xs : List α} (h : ∀ x ∈ xs, noDic (f x) = true) : noDics (xs.map f) = true :=
  noDics_all fun d hd => by obtain ⟨x, hx, rfl⟩ := List.mem_map.mp hd; exact h x hx
theorem gIn_bls {bs : List Bool} : gIn (.bl true) (.lst (bs.map D.bl)) = some (.bl (bs.any id)) := by
  have e1 : eqOk (.bl true) = true := rfl
  have e2 : eqOk (.lst (bs.map D.bl)) = true := by
    have h1 : noDic (.lst (bs.map D.bl)) = true := noDics_map fun _ _ => rfl
    have h2 : (toPy (.lst (bs.map D.bl))).canLay0 = true := canLays_all fun d hd => by obtain ⟨x, hx, rfl⟩ := List.mem_map.mp hd; rfl
    have h3 : (toPy (.lst (bs.map D.bl))).depth ≤ 1 := by
      show PyData.depthAll (toPys (bs.map D.bl)) + 1 ≤ 1
      have : PyData.depthAll (toPys (bs.map D.bl)) ≤ 0 := depths_all fun d hd => by obtain ⟨x, hx, rfl⟩ := List.mem_map.mp hd; exact Nat.zero_le _
      omega
    unfold eqOk SeqAt.shaped
    rw [h1, h2, decide_eq_true (by omega)]
    rfl
  show (if eqOk (.bl true) && eqOk (.lst (bs.map D.bl)) then some (D.bl ((toPys (bs.map D.bl)).any fun z => PyData.eqv z (toPy (.bl true)))) else none) = _
  rw [e1, e2, toPys_any, List.any_map]
  show some (D.bl _) = _
  congr 2
  apply congrArg (List.any bs)
  funext b
  cases b <;> rfl
theorem gMaxA_ints {n : Int} {ns : List Int} : gMaxA [.lst (D.int n :: ns.map D.int)] = some (.int (ns.foldl maxI n)) := by
  unfold gMaxA gMaxL
  have : intsOf (D.int n :: ns.map D.int) = some (n :: ns) := intsOf_map (n :: ns)
  simp only [this]
  rfl
end Dl
namespace Lw
open PySem PySem.Spec PyProof.Rows L2 Dl
/-! ### the ground -/
def gStep (x y : Int) (g : Int) (p : Sp) : Int := if p.1 = x ∧ p.2.1 = y then maxI g p.2.2 else g
def groundF (ps : List Sp) (x y : Int) : Int := ps.foldl (gStep x y) 0
theorem ground_at_ok (ps : List Sp) (x y : Int) : runF 7 M_ground_at [.lst (ps.map spD), .int x, .int y] = .ok (.int (groundF ps x y)) := by
  obtain ⟨h1, _⟩ := forGo_fold (gd := gdTup 3 (gdCons (gdName 4) (gdCons (gdName 5) (gdCons (gdName 6) gdNil)))) (body := M_ground_at_l1) (ks := [4, 5, 6]) (enc := spD)
    (fun g => [some (.lst (ps.map spD)), some (.int x), some (.int y), some (.int g), none, none, none]) (gStep x y) (fun _ _ => True) ps 0 trivial fun pre p post g _ _ => by
      refine ⟨_, by simp [spD]; rfl, ?_⟩
      by_cases c : p.1 = x ∧ p.2.1 = y
      · exact ⟨_, .inl (by simp [M_ground_at_l1, c]; rfl), by simp [gStep, c], trivial⟩
      · exact ⟨_, .inl (by simp [M_ground_at_l1, c]; rfl), by simp [gStep, c], trivial⟩
  rw [runF_eq]
  simp [M_ground_at, dFor, h1, groundF]
theorem fold_filter (x y : Int) : ∀ (ps : List Sp) (g : Int), (((ps.filter fun p => decide (p.1 = x) && decide (p.2.1 = y)).map (·.2.2)).foldl maxI g) = ps.foldl (gStep x y) g
  | [], g => rfl
  | p :: ps, g => by
    by_cases c : p.1 = x ∧ p.2.1 = y
    · rw [List.filter_cons_of_pos (by simp [c]), List.map_cons, List.foldl_cons, List.foldl_cons, fold_filter x y ps, gStep, if_pos c]
    · rw [List.filter_cons_of_neg (by simpa using c), List.foldl_cons, fold_filter x y ps, gStep, if_neg c]
theorem law_ground_ok (ps : List Sp) (x y : Int) (hz : ps.length ≤ 1000) : runF 6 M_law_ground [.lst (ps.map spD), .int x, .int y] = .ok (.int (groundF ps x y)) := by
  have c : dComp (dItems (dVar 0)) (gdTup 3 (gdCons (gdName 3) (gdCons (gdName 4) (gdCons (gdName 5) gdNil)))) (dAnd (dBin gEq (dVar 3) (dVar 1)) (dBin gEq (dVar 4) (dVar 2))) (dVar 5) [3, 4, 5] [some (.lst (ps.map spD)), some (.int x), some (.int y), none, none, none]
      = .ok (.lst (((ps.filter fun p => decide (p.1 = x) && decide (p.2.1 = y)).map (·.2.2)).map D.int)) := by
    rw [dComp_filter (h := fun p => D.int p.2.2) (enc := spD) (fun p => decide (p.1 = x) && decide (p.2.1 = y)) ps (by simp) (by omega), List.map_map]
    · rfl
    · intro p _
      exact ⟨_, by simp [spD]; rfl, by simp, fun _ => by simp⟩
  rw [runF_eq]
  have z : ((ps.filter fun p => decide (p.1 = x) && decide (p.2.1 = y)).map (·.2.2)).length ≤ 1000 := by
    rw [List.length_map]
    exact Nat.le_trans (List.length_filter_le _ _) hz
  generalize hL : (ps.filter fun p => decide (p.1 = x) && decide (p.2.1 = y)).map (·.2.2) = L at c z
  have z2 : 1 + L.length ≤ sizeLine := le_size (by omega)
  have e : L.foldl maxI 0 = groundF ps x y := by rw [← hL]; exact fold_filter x y ps 0
  simp [M_law_ground, c, z2, gMaxA_ints, e]
/-! ### shut air -/
def shutP (h x y z : Int) (t : Sh) : Prop := (t.h ≤ h ∧ h ≤ t.i) ∧ t.a ≤ x ∧ x ≤ t.c ∧ t.b ≤ y ∧ y ≤ t.e ∧ t.f ≤ z ∧ z ≤ t.g
instance (h x y z : Int) (t : Sh) : Decidable (shutP h x y z t) := inferInstanceAs (Decidable (_ ∧ _))
def shutF (ss : List Sh) (h x y z : Int) : Bool := ss.any fun t => decide (shutP h x y z t)
theorem shut_at_ok {c0 : DF'} (hc : ∀ a b c e f g x y z : Int, c0 [box6 a b c e f g, .int x, .int y, .int z] = .ok (.bl (decide (a ≤ x ∧ x ≤ c ∧ b ≤ y ∧ y ≤ e ∧ f ≤ z ∧ z ≤ g)))) (ss : List Sh) (h x y z : Int) :
    runF 13 (M_shut_at c0) [.lst (ss.map shD), .int h, .int x, .int y, .int z] = .ok (.bl (shutF ss h x y z)) := by
  have out := forGo_exit (gd := gdTup 8 (gdCons (gdName 5) (gdCons (gdName 6) (gdCons (gdName 7) (gdCons (gdName 8) (gdCons (gdName 9) (gdCons (gdName 10) (gdCons (gdName 11) (gdCons (gdName 12) gdNil))))))))) (body := M_shut_at_l1 c0) (ks := [5, 6, 7, 8, 9, 10, 11, 12]) (enc := shD)
    (fun pre env => env = [some (.lst (ss.map shD)), some (.int h), some (.int x), some (.int y), some (.int z), none, none, none, none, none, none, none, none] ∧ ∀ t ∈ pre, ¬ shutP h x y z t) (fun o => o = .rt (.bl true) ∧ ∃ t ∈ ss, shutP h x y z t) ss (env := [some (.lst (ss.map shD)), some (.int h), some (.int x), some (.int y), some (.int z), none, none, none, none, none, none, none, none]) ⟨rfl, by simp⟩ fun pre t post env hi ⟨ev, hn⟩ => by
      subst ev
      refine ⟨_, by simp [shD]; rfl, ?_⟩
      have hb := hc t.a t.b t.c t.e t.f t.g x y z
      simp only [box6] at hb
      by_cases c : shutP h x y z t
      · have c' := c
        obtain ⟨⟨c1, c2⟩, c3⟩ := c
        have c3' := decide_eq_true c3
        rw [c3'] at hb
        exact .inr (.inl ⟨.bl true, by simp [M_shut_at_l1, hb, c1, c2], rfl, t, pre_mem hi, c'⟩)
      · refine .inl ⟨[some (.lst (ss.map shD)), some (.int h), some (.int x), some (.int y), some (.int z), some (.int t.a), some (.int t.b), some (.int t.c), some (.int t.e), some (.int t.f), some (.int t.g), some (.int t.h), some (.int t.i)], .inl ?_, by simp, fun t' ht => ?_⟩
        · by_cases c1 : t.h ≤ h
          · by_cases c2 : h ≤ t.i
            · have c3 : ¬ (t.a ≤ x ∧ x ≤ t.c ∧ t.b ≤ y ∧ y ≤ t.e ∧ t.f ≤ z ∧ z ≤ t.g) := fun c3 => c ⟨⟨c1, c2⟩, c3⟩
              have c3' := decide_eq_false c3
              rw [c3'] at hb
              simp [M_shut_at_l1, hb, c1, c2]
            · simp [M_shut_at_l1, c1, c2]
          · simp [M_shut_at_l1, c1]
        · rcases List.mem_append.mp ht with ht | ht
          · exact hn t' ht
          · rw [List.mem_singleton.mp ht]; exact c
  rw [runF_eq]
  rcases out with ⟨h1, t, ht, hp⟩ | ⟨env', h1, rfl, hn⟩
  · have e : shutF ss h x y z = true := List.any_eq_true.mpr ⟨t, ht, decide_eq_true hp⟩
    simp [M_shut_at, dFor, h1, e]
  · have e : shutF ss h x y z = false := by
      unfold shutF
      rw [Bool.eq_false_iff]
      intro e
      obtain ⟨t, ht, hp⟩ := List.any_eq_true.mp e
      exact hn t ht (of_decide_eq_true hp)
    simp [M_shut_at, dFor, h1, e]
theorem law_shut_ok {c0 : DF'} (hc : ∀ a b c e f g x y z : Int, c0 [box6 a b c e f g, .int x, .int y, .int z] = .ok (.bl (decide (a ≤ x ∧ x ≤ c ∧ b ≤ y ∧ y ≤ e ∧ f ≤ z ∧ z ≤ g)))) (ss : List Sh) (h x y z : Int) (hz : ss.length ≤ 1000) :
    runF 6 (M_law_shut c0) [.lst (ss.map shD), .int h, .int x, .int y, .int z] = .ok (.bl (shutF ss h x y z)) := by
  have c : dComp (dItems (dVar 0)) (gdName 5) (dAnd (dBin (gCmpI fun i j => decide (i ≤ j)) (dBin gIx (dVar 5) (dC (.int (6)))) (dVar 1)) (dBin (gCmpI fun i j => decide (i ≤ j)) (dVar 1) (dBin gIx (dVar 5) (dC (.int (7)))))) (dCall c0 (dCons (dSl (dVar 5) dNo (dPart (dC (.int (6))))) (dCons (dVar 2) (dCons (dVar 3) (dCons (dVar 4) dNil))))) [5]
      [some (.lst (ss.map shD)), some (.int h), some (.int x), some (.int y), some (.int z), none] = .ok (.lst (((ss.filter fun t => decide (t.h ≤ h) && decide (h ≤ t.i)).map fun t => decide (t.a ≤ x ∧ x ≤ t.c ∧ t.b ≤ y ∧ y ≤ t.e ∧ t.f ≤ z ∧ z ≤ t.g)).map D.bl)) := by
    rw [dComp_filter (h := fun t => D.bl (decide (t.a ≤ x ∧ x ≤ t.c ∧ t.b ≤ y ∧ y ≤ t.e ∧ t.f ≤ z ∧ z ≤ t.g))) (enc := shD) (fun t => decide (t.h ≤ h) && decide (h ≤ t.i)) ss (by simp) (by omega), List.map_map]
    · rfl
    · intro t _
      have hb := hc t.a t.b t.c t.e t.f t.g x y z
      simp only [box6] at hb
      exact ⟨_, rfl, by simp [shD], fun _ => by simp [shD, hb]⟩
  have e : ((ss.filter fun t => decide (t.h ≤ h) && decide (h ≤ t.i)).map fun t => decide (t.a ≤ x ∧ x ≤ t.c ∧ t.b ≤ y ∧ y ≤ t.e ∧ t.f ≤ z ∧ z ≤ t.g)).any id = shutF ss h x y z := by
    rw [Bool.eq_iff_iff]
    unfold shutF
    simp only [List.any_eq_true, List.mem_map, List.mem_filter, Bool.and_eq_true, decide_eq_true_eq, id]
    constructor
    · rintro ⟨_, ⟨t, ⟨ht, h1⟩, rfl⟩, h2⟩
      exact ⟨t, ht, h1, of_decide_eq_true h2⟩
    · rintro ⟨t, ht, h1, h2⟩
      exact ⟨_, ⟨t, ⟨ht, h1⟩, rfl⟩, decide_eq_true h2⟩
  rw [runF_eq]
  simp only [M_law_shut, dSeq_eq, dRet_eq, dImm_eq, dBin_eq, dC_eq, bind_ok]
  simp [c, gIn_bls, ← e, -List.map_map]
/-! ### standing -/
def standF (s : Sky) (h x y z : Int) : Str := if z < groundF s.hills x y then "hill" else if shutF s.shuts h x y z = true then "shut" else ""
abbrev stD (x y z a b : Int) : D := .tup [.int x, .int y, .int z, .int a, .int b]
theorem standing_ok {c0 c1 : DF'} (s : Sky) (h0 : ∀ h x y z : Int, c0 [.lst (s.shuts.map shD), .int h, .int x, .int y, .int z] = .ok (.bl (shutF s.shuts h x y z))) (h1 : ∀ x y : Int, c1 [.lst (s.hills.map spD), .int x, .int y] = .ok (.int (groundF s.hills x y))) (h x y z a b : Int) :
    runF 7 (M_standing c0 c1) [skyD s, .int h, stD x y z a b] = .ok (.str (standF s h x y z)) := by
  rw [runF_eq]
  unfold standF
  by_cases c1 : z < groundF s.hills x y
  · simp [M_standing, skyD, h0, h1, c1]
  · by_cases c2 : shutF s.shuts h x y z = true
    · simp [M_standing, skyD, h0, h1, c1, c2]
    · simp [M_standing, skyD, h0, h1, c1, c2]
theorem law_stand_ok {c0 c1 : DF'} (s : Sky) (h0 : ∀ h x y z : Int, c0 [.lst (s.shuts.map shD), .int h, .int x, .int y, .int z] = .ok (.bl (shutF s.shuts h x y z))) (h1 : ∀ x y : Int, c1 [.lst (s.hills.map spD), .int x, .int y] = .ok (.int (groundF s.hills x y))) (h x y z a b : Int) :
    runF 3 (M_law_stand c0 c1) [skyD s, .int h, stD x y z a b] = .ok (.str (standF s h x y z)) := by
  rw [runF_eq]
  unfold standF
  by_cases c1 : z < groundF s.hills x y
  · simp [M_law_stand, skyD, h0, h1, c1]
  · by_cases c2 : shutF s.shuts h x y z = true
    · simp [M_law_stand, skyD, h0, h1, c1, c2]
    · simp [M_law_stand, skyD, h0, h1, c1, c2]
theorem standF_ok (s : Sky) (h x y z : Int) : okE 0 (.str (standF s h x y z)) = true := by
  unfold standF
  split
  · kernel_rfl
  · split <;> kernel_rfl
/-- nothing is in the way -/
noncomputable def freeF (s : Sky) (h x y z : Int) : Bool := dec (standF s h x y z = "")
theorem gEq_stand (s : Sky) (h x y z : Int) : gEq (.str (standF s h x y z)) (.str "") = some (.bl (freeF s h x y z)) := by
  rw [gEq_E 0 0 (standF_ok s h x y z) (by kernel_rfl) (by decide) (by decide), D.str.injEq]
  rfl
theorem may_stand_ok {c0 : DF'} (s : Sky) (hc : ∀ h x y z a b : Int, c0 [skyD s, .int h, stD x y z a b] = .ok (.str (standF s h x y z))) (h x y z a b : Int) :
    runF 3 (M_may_stand c0) [skyD s, .int h, stD x y z a b] = .ok (.bl (freeF s h x y z)) := by
  rw [runF_eq]
  simp [M_may_stand, hc, gEq_stand]
/-! ### where things stand at first -/
theorem base_ok {d : List Int} (h : Dr 3 d) : ∃ x y : Int, (-1000 < x ∧ x < 1000) ∧ (-1000 < y ∧ y < 1000) ∧ runF 1 M_law_base [.lst (d.map D.int)] = .ok (.tup [.int x, .int y]) := by
  obtain ⟨d0, r, rfl, a0, a1, h⟩ := dr_uncons h
  obtain ⟨d1, r, rfl, b0, b1, h⟩ := dr_uncons h
  obtain ⟨d2, r, rfl, c0, c1, h⟩ := dr_uncons h
  rw [dr_nil h, runF_eq]
  by_cases e1 : d0 % 5 = 1
  · exact ⟨d1 - 500, d2 - 500, by omega, by omega, by simp [M_law_base, e1]⟩
  · by_cases e2 : d0 % 5 = 2
    · exact ⟨(d1 % 3 - 1) * 985, (d2 % 3 - 1) * 985, by omega, by omega, by simp [M_law_base, e1, e2]⟩
    · exact ⟨0, 0, by omega, by omega, by simp [M_law_base, e1, e2]⟩
theorem copy_ok (s : Sky) : runF 1 M_law_copy [skyD s] = .ok (skyD s) := by
  have h1 : imms (s.hills.map spD) = true := imms_map fun _ _ => rfl
  have h2 : imms (s.cools.map D.int) = true := imms_map fun _ _ => rfl
  have h3 : imms (s.winds.map wnD) = true := imms_map fun _ _ => rfl
  have h4 : imms (s.shuts.map shD) = true := imms_map fun _ _ => rfl
  rw [runF_eq]
  simp [M_law_copy, skyD, h1, h2, h3, h4]
theorem sky_eq (s : Sky) : eqOk (skyD s) = true := okE_eqOk (n := 3) (by
  have all : ∀ {α : Type} (f : α → D) (xs : List α), (∀ x, okE 1 (f x) = true) → okE 2 (.lst (xs.map f)) = true := fun f xs h => by
    show (xs.map f).all (okE 1) = true
    rw [List.all_eq_true]
    intro d hd
    obtain ⟨x, _, rfl⟩ := List.mem_map.mp hd
    exact h x
  show ([_, _, _, _] : List D).all (okE 2) = true
  simp only [List.all_cons, List.all_nil]
  rw [all spD _ fun _ => rfl, all D.int _ fun _ => rfl, all wnD _ fun _ => rfl, all shD _ fun _ => rfl]
  rfl) (by decide)
/-- a drawn state: near the base, 0 to 5 high, ballast and gas of 0 to n -/
theorem state_ok {d : List Int} {n : Nat} (h : Dr (n + 5) d) (x y k : Int) (hk : 0 ≤ k) : ∃ u v z a b : Int, (x - 3 ≤ u ∧ u ≤ x + 3) ∧ (y - 3 ≤ v ∧ v ≤ y + 3) ∧ (0 ≤ z ∧ z ≤ 5) ∧ (0 ≤ a ∧ a ≤ k) ∧ (0 ≤ b ∧ b ≤ k) ∧ runF 5 M_law_state [.lst (d.map D.int), .tup [.int x, .int y], .int k] = .ok (stD u v z a b) := by
  obtain ⟨d0, r, rfl, a0, a1, h⟩ := dr_uncons h
  obtain ⟨d1, r, rfl, b0, b1, h⟩ := dr_uncons h
  obtain ⟨d2, r, rfl, c0, c1, h⟩ := dr_uncons h
  obtain ⟨d3, r, rfl, e0, e1, h⟩ := dr_uncons h
  obtain ⟨d4, r, rfl, f0, f1, h⟩ := dr_uncons h
  have m : ∀ v : Int, gModI (.int v) (.int (k + 1)) = some (.int (v % (k + 1))) := fun v => gModI_pos (by omega)
  have m0 : ∀ v : Int, 0 ≤ v % (k + 1) ∧ v % (k + 1) ≤ k := fun v => ⟨Int.emod_nonneg _ (by omega), by have := Int.emod_lt_of_pos v (b := k + 1) (by omega); omega⟩
  rw [runF_eq]
  exact ⟨x + d0 % 7 - 3, y + d1 % 7 - 3, d2 % 6, d3 % (k + 1), d4 % (k + 1), by omega, by omega, by omega, m0 d3, m0 d4, by simp [M_law_state, m]⟩
end Lw

/-! Sp8: sightings. -/
namespace Dl
open PySem PySem.Spec PyProof.Rows L2
/-- data that may be compared, so deep at most -/
def okQ : Nat → D → Bool
  | _, .non => true
  | _, .bl _ => true
  | _, .int _ => true
  | _, .str x => PyData.canLay0 (.str x)
  | n + 1, .tup ds => ds.all (okQ n)
  | n + 1, .lst ds => ds.all (okQ n)
  | _, _ => false
theorem okQ_facts : ∀ (n : Nat) (d : D), okQ n d = true → noDic d = true ∧ (toPy d).canLay0 = true ∧ (toPy d).depth ≤ n
  | _, .non, _ => ⟨rfl, rfl, Nat.zero_le _⟩
  | _, .bl _, _ => ⟨rfl, rfl, Nat.zero_le _⟩
  | _, .int _, _ => ⟨rfl, rfl, Nat.zero_le _⟩
  | 0, .str x, h => ⟨rfl, h, Nat.zero_le _⟩
  | n + 1, .str x, h => ⟨rfl, h, Nat.zero_le _⟩
  | n + 1, .tup ds, h => by
    have h : ds.all (okQ n) = true := h
    rw [List.all_eq_true] at h
    have ih := fun d hd => okQ_facts n d (h d hd)
    refine ⟨noDics_all fun d hd => (ih d hd).1, canLays_all fun d hd => (ih d hd).2.1, ?_⟩
    show PyData.depthAll (toPys ds) + 1 ≤ n + 1
    have := depths_all fun d hd => (ih d hd).2.2
    omega
  | n + 1, .lst ds, h => by
    have h : ds.all (okQ n) = true := h
    rw [List.all_eq_true] at h
    have ih := fun d hd => okQ_facts n d (h d hd)
    refine ⟨noDics_all fun d hd => (ih d hd).1, canLays_all fun d hd => (ih d hd).2.1, ?_⟩
    show PyData.depthAll (toPys ds) + 1 ≤ n + 1
    have := depths_all fun d hd => (ih d hd).2.2
    omega
  | 0, .tup _, h => by cases h
  | 0, .lst _, h => by cases h
  | 0, .frl _, h => by cases h
  | n + 1, .frl _, h => by cases h
  | 0, .ktp _, h => by cases h
  | n + 1, .ktp _, h => by cases h
  | 0, .dic _ _ _, h => by cases h
  | n + 1, .dic _ _ _, h => by cases h
theorem okQ_eqOk {n : Nat} {d : D} (h : okQ n d = true) (hn : n ≤ 64) : eqOk d = true := by
  obtain ⟨h1, h2, h3⟩ := okQ_facts n d h
  unfold eqOk SeqAt.shaped
  rw [h1, h2, decide_eq_true (by omega)]
  rfl
theorem okQ_lst {α : Type} {f : α → D} {xs : List α} {n : Nat} (h : ∀ x ∈ xs, okQ n (f x) = true) : okQ (n + 1) (.lst (xs.map f)) = true := by
  show (xs.map f).all (okQ n) = true
  rw [List.all_eq_true]
  intro d hd
  obtain ⟨x, hx, rfl⟩ := List.mem_map.mp hd
  exact h x hx
theorem okS_lst {α : Type} {f : α → D} {xs : List α} {n : Nat} (h : ∀ x ∈ xs, Lw.okS n (f x) = true) (hl : xs.length ≤ 1000000) : Lw.okS (n + 1) (.lst (xs.map f)) = true := by
  show ((xs.map f).all (Lw.okS n) && decide ((xs.map f).length ≤ 1000000)) = true
  rw [Bool.and_eq_true, List.all_eq_true, decide_eq_true_eq, List.length_map]
  refine ⟨fun d hd => ?_, hl⟩
  obtain ⟨x, hx, rfl⟩ := List.mem_map.mp hd
  exact h x hx
@[simp] theorem gNe_bl {a b : Bool} : gNe (.bl a) (.bl b) = some (.bl (a != b)) := by cases a <;> cases b <;> rfl
@[simp] theorem gEq_bl {a b : Bool} : gEq (.bl a) (.bl b) = some (.bl (a == b)) := by cases a <;> cases b <;> rfl
end Dl
namespace Lw
open PySem PySem.Spec PyProof.Rows L2 Dl
theorem dr_take {n m : Nat} {ns : List Int} (h : Dr n ns) (a : Nat) (hb : a + m ≤ n) : Dr m ((ns.drop a).take m) := ⟨by simp [h.1]; omega, fun v hv => h.2 v (List.mem_of_mem_drop (List.mem_of_mem_take hv))⟩
theorem dr10 {ns : List Int} (h : Dr 10 ns) : ∃ a b c d e f g i j k, ns = [a, b, c, d, e, f, g, i, j, k] ∧ (0 ≤ a ∧ a < 1000) ∧ (0 ≤ b ∧ b < 1000) ∧ (0 ≤ c ∧ c < 1000) ∧ (0 ≤ d ∧ d < 1000) ∧ (0 ≤ e ∧ e < 1000) ∧ (0 ≤ f ∧ f < 1000) ∧ (0 ≤ g ∧ g < 1000) ∧ (0 ≤ i ∧ i < 1000) ∧ (0 ≤ j ∧ j < 1000) ∧ (0 ≤ k ∧ k < 1000) := by
  obtain ⟨a, r, rfl, a0, a1, h⟩ := dr_uncons h
  obtain ⟨b, r, rfl, b0, b1, h⟩ := dr_uncons h
  obtain ⟨c, d, e, f, g, i, j, k, rfl, h1, h2, h3, h4, h5, h6, h7, h8⟩ := dr8 h
  exact ⟨a, b, c, d, e, f, g, i, j, k, rfl, ⟨a0, a1⟩, ⟨b0, b1⟩, h1, h2, h3, h4, h5, h6, h7, h8⟩
/-- a state: x, y, height, ballast, gas -/
abbrev St := Int × Int × Int × Int × Int
def tD (s : St) : D := .tup [.int s.1, .int s.2.1, .int s.2.2.1, .int s.2.2.2.1, .int s.2.2.2.2]
/-- a sighting -/
structure Si where
  (w a b c e f g : Int)
  seen : Bool
def siD (s : Si) : D := .tup [.int s.w, .int s.a, .int s.b, .int s.c, .int s.e, .int s.f, .int s.g, .bl s.seen]
def misfit (h x y z : Int) (t : Si) : Prop := t.w = h ∧ decide (t.a ≤ x ∧ x ≤ t.c ∧ t.b ≤ y ∧ y ≤ t.e ∧ t.f ≤ z ∧ z ≤ t.g) ≠ t.seen
instance (h x y z : Int) (t : Si) : Decidable (misfit h x y z t) := inferInstanceAs (Decidable (_ ∧ _))
def fitF (ss : List Si) (h x y z : Int) : Bool := ss.all fun t => !decide (misfit h x y z t)
theorem fits_ok {c0 : DF'} (hc : ∀ a b c e f g x y z : Int, c0 [box6 a b c e f g, .int x, .int y, .int z] = .ok (.bl (decide (a ≤ x ∧ x ≤ c ∧ b ≤ y ∧ y ≤ e ∧ f ≤ z ∧ z ≤ g)))) (ss : List Si) (h : Int) (s : St) :
    runF 11 (M_fits c0) [.lst (ss.map siD), .int h, tD s] = .ok (.bl (fitF ss h s.1 s.2.1 s.2.2.1)) := by
  have out := forGo_exit (gd := gdTup 8 (gdCons (gdName 3) (gdCons (gdName 4) (gdCons (gdName 5) (gdCons (gdName 6) (gdCons (gdName 7) (gdCons (gdName 8) (gdCons (gdName 9) (gdCons (gdName 10) gdNil))))))))) (body := M_fits_l1 c0) (ks := [3, 4, 5, 6, 7, 8, 9, 10]) (enc := siD)
    (fun pre env => env = [some (.lst (ss.map siD)), some (.int h), some (tD s), none, none, none, none, none, none, none, none] ∧ ∀ t ∈ pre, ¬ misfit h s.1 s.2.1 s.2.2.1 t) (fun o => o = .rt (.bl false) ∧ ∃ t ∈ ss, misfit h s.1 s.2.1 s.2.2.1 t) ss (env := [some (.lst (ss.map siD)), some (.int h), some (tD s), none, none, none, none, none, none, none, none]) ⟨rfl, by simp⟩ fun pre t post env hi ⟨ev, hn⟩ => by
      subst ev
      refine ⟨_, by simp [siD]; rfl, ?_⟩
      have hb := hc t.a t.b t.c t.e t.f t.g s.1 s.2.1 s.2.2.1
      simp only [box6] at hb
      by_cases c : misfit h s.1 s.2.1 s.2.2.1 t
      · have c' := c
        obtain ⟨c1, c2⟩ := c
        generalize decide (t.a ≤ s.1 ∧ s.1 ≤ t.c ∧ t.b ≤ s.2.1 ∧ s.2.1 ≤ t.e ∧ t.f ≤ s.2.2.1 ∧ s.2.2.1 ≤ t.g) = u at hb c2
        exact .inr (.inl ⟨.bl false, by simp [M_fits_l1, tD, hb, c1, c2], rfl, t, pre_mem hi, c'⟩)
      · refine .inl ⟨[some (.lst (ss.map siD)), some (.int h), some (tD s), some (.int t.w), some (.int t.a), some (.int t.b), some (.int t.c), some (.int t.e), some (.int t.f), some (.int t.g), some (.bl t.seen)], .inl ?_, by simp, fun t' ht => ?_⟩
        · by_cases c1 : t.w = h
          · have c2 : decide (t.a ≤ s.1 ∧ s.1 ≤ t.c ∧ t.b ≤ s.2.1 ∧ s.2.1 ≤ t.e ∧ t.f ≤ s.2.2.1 ∧ s.2.2.1 ≤ t.g) = t.seen := by
              apply Classical.byContradiction
              intro c2
              exact c ⟨c1, c2⟩
            rw [c2] at hb
            simp [M_fits_l1, tD, hb, c1]
          · simp [M_fits_l1, tD, c1]
        · rcases List.mem_append.mp ht with ht | ht
          · exact hn t' ht
          · rw [List.mem_singleton.mp ht]; exact c
  rw [runF_eq]
  rcases out with ⟨h1, t, ht, hp⟩ | ⟨env', h1, rfl, hn⟩
  · have e : fitF ss h s.1 s.2.1 s.2.2.1 = false := by
      unfold fitF
      rw [Bool.eq_false_iff]
      intro e
      have := List.all_eq_true.mp e t ht
      rw [decide_eq_true hp] at this
      cases this
    simp [M_fits, dFor, h1, e]
  · have e : fitF ss h s.1 s.2.1 s.2.2.1 = true := List.all_eq_true.mpr fun t ht => by rw [decide_eq_false (hn t ht)]; rfl
    simp [M_fits, dFor, h1, e]
theorem law_fits_ok {c0 : DF'} (hc : ∀ a b c e f g x y z : Int, c0 [box6 a b c e f g, .int x, .int y, .int z] = .ok (.bl (decide (a ≤ x ∧ x ≤ c ∧ b ≤ y ∧ y ≤ e ∧ f ≤ z ∧ z ≤ g)))) (ss : List Si) (h : Int) (s : St) :
    runF 4 (M_law_fits c0) [.lst (ss.map siD), .int h, tD s] = .ok (.bl (fitF ss h s.1 s.2.1 s.2.2.1)) := by
  have out := forGo_exit (gd := gdName 3) (body := M_law_fits_l1 c0) (ks := [3]) (enc := siD)
    (fun pre env => env = [some (.lst (ss.map siD)), some (.int h), some (tD s), none] ∧ ∀ t ∈ pre, ¬ misfit h s.1 s.2.1 s.2.2.1 t) (fun o => o = .rt (.bl false) ∧ ∃ t ∈ ss, misfit h s.1 s.2.1 s.2.2.1 t) ss (env := [some (.lst (ss.map siD)), some (.int h), some (tD s), none]) ⟨rfl, by simp⟩ fun pre t post env hi ⟨ev, hn⟩ => by
      subst ev
      refine ⟨_, rfl, ?_⟩
      have hb := hc t.a t.b t.c t.e t.f t.g s.1 s.2.1 s.2.2.1
      simp only [box6] at hb
      have cut : ∀ w : D, cutD [w, D.int t.a, D.int t.b, D.int t.c, D.int t.e, D.int t.f, D.int t.g, D.bl t.seen] (some 1) (some 7) = [D.int t.a, D.int t.b, D.int t.c, D.int t.e, D.int t.f, D.int t.g] := fun _ => rfl
      by_cases c : misfit h s.1 s.2.1 s.2.2.1 t
      · have c' := c
        obtain ⟨c1, c2⟩ := c
        generalize decide (t.a ≤ s.1 ∧ s.1 ≤ t.c ∧ t.b ≤ s.2.1 ∧ s.2.1 ≤ t.e ∧ t.f ≤ s.2.2.1 ∧ s.2.2.1 ≤ t.g) = u at hb c2
        exact .inr (.inl ⟨.bl false, by simp [M_law_fits_l1, tD, siD, cut, hb, c1, c2], rfl, t, pre_mem hi, c'⟩)
      · refine .inl ⟨[some (.lst (ss.map siD)), some (.int h), some (tD s), some (siD t)], .inl ?_, by simp, fun t' ht => ?_⟩
        · by_cases c1 : t.w = h
          · have c2 : decide (t.a ≤ s.1 ∧ s.1 ≤ t.c ∧ t.b ≤ s.2.1 ∧ s.2.1 ≤ t.e ∧ t.f ≤ s.2.2.1 ∧ s.2.2.1 ≤ t.g) = t.seen := by
              apply Classical.byContradiction
              intro c2
              exact c ⟨c1, c2⟩
            rw [c2] at hb
            simp [M_law_fits_l1, tD, siD, cut, hb, c1]
          · simp [M_law_fits_l1, tD, siD, c1]
        · rcases List.mem_append.mp ht with ht | ht
          · exact hn t' ht
          · rw [List.mem_singleton.mp ht]; exact c
  rw [runF_eq]
  rcases out with ⟨h1, t, ht, hp⟩ | ⟨env', h1, rfl, hn⟩
  · have e : fitF ss h s.1 s.2.1 s.2.2.1 = false := by
      unfold fitF
      rw [Bool.eq_false_iff]
      intro e
      have := List.all_eq_true.mp e t ht
      rw [decide_eq_true hp] at this
      cases this
    simp [M_law_fits, dFor, h1, e]
  · have e : fitF ss h s.1 s.2.1 s.2.2.1 = true := List.all_eq_true.mpr fun t ht => by rw [decide_eq_false (hn t ht)]; rfl
    simp [M_law_fits, dFor, h1, e]
/-- sightings as they are drawn -/
theorem sights_ok {c0 : DF'} {d : List Int} {n : Nat} (hd : Dr n d) (hn : 51 ≤ n) {x y : Int} (hc : ∀ (d0 d1 d2 d3 d4 d5 : Int) (r : List Int), c0 [.lst ((d0 :: d1 :: d2 :: d3 :: d4 :: d5 :: r).map D.int), .tup [.int x, .int y]] = .ok (boxN x y d0 d1 d2 d3 d4 d5))
    (h : Int) (layers : List (List St)) (m : Nat) (hm : layers.length = m + 1) (hz : ∀ l ∈ layers, ∀ s ∈ l, 0 ≤ s.2.2.1) :
    ∃ ss : List Si, ss.length ≤ 5 ∧ (∀ t ∈ ss, h ≤ t.w ∧ t.w ≤ h + m) ∧ runF 12 (M_law_sights c0) [.lst (d.map D.int), .int h, .int (m : Int), .lst (layers.map fun l => .lst (l.map tD)), .tup [.int x, .int y]] = .ok (.lst (ss.map siD)) := by
  obtain ⟨x0, x00, x01, e0⟩ := dr_get hd (i := 0) (by omega) (by omega)
  have hr : (x0 % 6).toNat ≤ 5 := by omega
  obtain ⟨env', h1, ss, rfl, h2, h3⟩ := forGo_inv (gd := gdName 6) (body := M_law_sights_l1 c0) (ks := [6, 7, 8, 9, 10, 11]) (enc := fun (i : Nat) => D.int (i : Int))
    (fun pre env => ∃ ss : List Si, env = [some (.lst (d.map D.int)), some (.int h), some (.int (m : Int)), some (.lst (layers.map fun l => .lst (l.map tD))), some (.tup [.int x, .int y]), some (.lst (ss.map siD)), none, none, none, none, none, none] ∧ ss.length ≤ pre.length ∧ ∀ t ∈ ss, h ≤ t.w ∧ t.w ≤ h + m) (List.range (x0 % 6).toNat)
    (env := [some (.lst (d.map D.int)), some (.int h), some (.int (m : Int)), some (.lst (layers.map fun l => .lst (l.map tD))), some (.tup [.int x, .int y]), some (.lst []), none, none, none, none, none, none]) ⟨[], rfl, by simp, by simp⟩ fun pre k post env hi ⟨ss, ev, h2, h3⟩ => by
      subst ev
      obtain ⟨rfl, hk⟩ := pre_range hi
      obtain ⟨d', hd', ed⟩ := dr_cutI hd (i := 1 + 10 * (pre.length : Int)) (j := 11 + 10 * (pre.length : Int)) (1 + 10 * pre.length) (11 + 10 * pre.length) (by omega) (by omega) (by omega) (by omega)
      rw [show 11 + 10 * pre.length - (1 + 10 * pre.length) = 10 by omega] at hd'
      obtain ⟨d0, d1, d2, d3, d4, d5, d6, d7, d8, d9, rfl, _, _, _, _, _, _, _, _, _, _⟩ := dr10 hd'
      have eb := hc d1 d2 d3 d4 d5 d6 []
      have cut : cutD [D.int d0, D.int d1, D.int d2, D.int d3, D.int d4, D.int d5, D.int d6, D.int d7, D.int d8, D.int d9] (some 1) (some 7) = [D.int d1, D.int d2, D.int d3, D.int d4, D.int d5, D.int d6] := rfl
      simp at eb
      have hz0 : ss.length < sizeLine := lt_size (by omega)
      have mm : gModI (.int d0) (.int ((m : Int) + 1)) = some (.int (d0 % ((m : Int) + 1))) := gModI_pos (by omega)
      have q1 := Int.emod_nonneg d0 (b := (m : Int) + 1) (by omega)
      have q2 := Int.emod_lt_of_pos d0 (b := (m : Int) + 1) (by omega)
      obtain ⟨l, hl, el⟩ := atI_map (fun l => D.lst (l.map tD)) layers (i := d0 % ((m : Int) + 1)) q1 (by omega)
      have app : ∀ t : Si, t.w = h + d0 % ((m : Int) + 1) → (ss ++ [t]).length ≤ (pre ++ [pre.length]).length ∧ ∀ t' ∈ ss ++ [t], h ≤ t'.w ∧ t'.w ≤ h + m := fun t ht => ⟨by simp; omega, fun t' h' => by
        rcases List.mem_append.mp h' with h' | h'
        · exact h3 t' h'
        · rw [List.mem_singleton.mp h', ht]; omega⟩
      refine ⟨_, rfl, ?_⟩
      by_cases c1 : 0 < l.length
      · by_cases c2 : 0 < d7 % 4
        · obtain ⟨s, hs, es⟩ := atI_map tD l (i := d8 % (l.length : Int)) (Int.emod_nonneg _ (by omega)) (Int.emod_lt_of_pos _ (by omega))
          have es : atI (l.map tD) (d8 % (l.length : Int)) = some (.tup [.int s.1, .int s.2.1, .int s.2.2.1, .int s.2.2.2.1, .int s.2.2.2.2]) := es
          have m8 : gModI (.int d8) (.int (l.length : Int)) = some (.int (d8 % (l.length : Int))) := gModI_pos (by omega)
          have sz := hz l hl s hs
          have mz : gModI (.int d3) (.int (s.2.2.1 + 1)) = some (.int (d3 % (s.2.2.1 + 1))) := gModI_pos (by omega)
          refine ⟨_, .inl (by simp [M_law_sights_l1, ed, mm, el, c1, c2, m8, es, mz, cut, eb, boxN, box6, hz0]; rfl), ss ++ [⟨h + d0 % ((m : Int) + 1), s.1 - d7 / 4 % 3, s.2.1 - d1 % 3, s.1 + d2 % 3, s.2.1 + d7 / 4 % 3, d3 % (s.2.2.1 + 1), 5, decide (0 < d9 % 3)⟩], by simp [siD], app _ rfl⟩
        · refine ⟨_, .inl (by simp [M_law_sights_l1, ed, mm, el, c1, c2, cut, eb, boxN, box6, hz0]; rfl), ss ++ [⟨h + d0 % ((m : Int) + 1), x + d1 % 9 - 4, y + d2 % 9 - 4, x + d1 % 9 - 4 + d3 % 4, y + d2 % 9 - 4 + d4 % 4, d5 % 6, d5 % 6 + d6 % (6 - d5 % 6), decide (0 < d9 % 3)⟩], by simp [siD], app _ rfl⟩
      · refine ⟨_, .inl (by simp [M_law_sights_l1, ed, mm, el, c1, cut, eb, boxN, box6, hz0]; rfl), ss ++ [⟨h + d0 % ((m : Int) + 1), x + d1 % 9 - 4, y + d2 % 9 - 4, x + d1 % 9 - 4 + d3 % 4, y + d2 % 9 - 4 + d4 % 4, d5 % 6, d5 % 6 + d6 % (6 - d5 % 6), decide (0 < d9 % 3)⟩], by simp [siD], app _ rfl⟩
  refine ⟨ss, by simp at h2; omega, h3, ?_⟩
  have rg : rng (x0 % 6) = .ok ((List.range (x0 % 6).toNat).map fun (i : Nat) => D.int (i : Int)) := rng_ok (by omega) (by omega)
  simp only [atI_lit, atI_zero] at e0
  rw [runF_eq]
  simp [M_law_sights, dFor, e0, rg, h1, -List.getElem?_map]
end Lw

/-! Sp9: orders, where they lead, what holds one back. -/
namespace Lw
open PySem PySem.Spec PyProof.Rows L2 Dl
inductive Od where
  | up | level | down
def oS : Od → Str
  | .up => "up"
  | .level => "level"
  | .down => "down"
abbrev oD (o : Od) : D := .str (oS o)
def Od.dz : Od → Int
  | .up => 1
  | .level => 0
  | .down => -1
def Od.isUp : Od → Bool
  | .up => true
  | _ => false
def Od.isDown : Od → Bool
  | .down => true
  | _ => false
@[simp] theorem eq_up {o : Od} : gEq (.str (oS o)) (.str "up") = some (.bl o.isUp) := by cases o <;> kernel_rfl
@[simp] theorem eq_down {o : Od} : gEq (.str (oS o)) (.str "down") = some (.bl o.isDown) := by cases o <;> kernel_rfl
@[simp] theorem ix_order {o : Od} : gIx (.dic false [.str "up", .str "level", .str "down"] [.int 1, .int 0, .int (-1)]) (.str (oS o)) = some (.int o.dz) := by cases o <;> kernel_rfl
/-- what holds one back on the spot -/
def heldF (p : St) (o : Od) : Str := if o.isUp = true ∧ p.2.2.2.1 = 0 then "sacks" else if o.isDown = true ∧ p.2.2.2.2 = 0 then "puffs" else if o.isUp = true ∧ p.2.2.1 = 5 then "high" else if o.isDown = true ∧ p.2.2.1 = 0 then "low" else ""
theorem held_ok (p : St) (o : Od) : runF 2 M_held_back [tD p, oD o] = .ok (.str (heldF p o)) := by
  rw [runF_eq]
  unfold heldF
  cases h1 : o.isUp <;> cases h2 : o.isDown <;> by_cases c1 : p.2.2.2.1 = 0 <;> by_cases c2 : p.2.2.2.2 = 0 <;> by_cases c3 : p.2.2.1 = 5 <;> by_cases c4 : p.2.2.1 = 0 <;> first
    | (exfalso; omega)
    | simp [M_held_back, tD, h1, h2, c1, c2, c3, c4]
/-- the height after the hour's cool air -/
def zF (s : Sky) (h z : Int) : Int := if h ∈ s.cools then max 0 (z - 1) else z
/-- where an order leads -/
def ledF (s : Sky) (h : Int) (p : St) (o : Od) : St :=
  (p.1 + (windF s.winds h (zF s h (p.2.2.1 + o.dz))).1, p.2.1 + (windF s.winds h (zF s h (p.2.2.1 + o.dz))).2, zF s h (p.2.2.1 + o.dz), p.2.2.2.1 - (if o.isUp = true then 1 else 0), p.2.2.2.2 - (if o.isDown = true then 1 else 0))
theorem led_to_ok {c0 : DF'} (s : Sky) (hc : ∀ h l, c0 [.lst (s.winds.map wnD), .int h, .int l] = .ok (pqD (windF s.winds h l))) (h : Int) (p : St) (o : Od) : runF 15 (M_led_to c0) [skyD s, .int h, tD p, oD o] = .ok (tD (ledF s h p o)) := by
  have a1 : ∀ z : Int, z + -1 = z - 1 := fun z => by omega
  have a2 : ∀ z : Int, z + 1 - 1 = z := fun z => by omega
  rw [runF_eq]
  unfold ledF zF
  by_cases c : h ∈ s.cools
  · cases o <;> simp [M_led_to, tD, skyD, pqD, Od.isUp, Od.isDown, Od.dz, c, hc, maxI_eq, a1, a2]
  · cases o <;> simp [M_led_to, tD, skyD, pqD, Od.isUp, Od.isDown, Od.dz, c, hc, a1, a2]
theorem law_led_ok {c0 : DF'} (s : Sky) (hc : ∀ h l, c0 [.lst (s.winds.map wnD), .int h, .int l] = .ok (pqD (windF s.winds h l))) (h : Int) (p : St) (o : Od) (h0 : 0 ≤ p.2.2.1 + o.dz) : runF 12 (M_law_led c0) [skyD s, .int h, tD p, oD o] = .ok (tD (ledF s h p o)) := by
  have m1 : max (0 : Int) 1 = 1 := by omega
  have m2 : max (0 : Int) (-1) = 0 := by omega
  have m3 : max (0 : Int) 0 = 0 := by omega
  have m4 : maxI 0 1 = 1 := rfl
  have m5 : maxI 0 (-1) = 0 := rfl
  have m6 : maxI 0 0 = 0 := rfl
  rw [runF_eq]
  unfold ledF zF
  generalize hz : p.2.2.1 + o.dz = z1 at h0
  have g1 : gAdd (.int p.2.2.1) (.int o.dz) = some (.int z1) := by rw [gAdd_int, hz]
  have gm : (if o.isUp = true then (1 : Int) else 0) = maxI 0 o.dz := by cases o <;> rfl
  have gn : (if o.isDown = true then (1 : Int) else 0) = maxI 0 (-o.dz) := by cases o <;> rfl
  rw [gm, gn]
  by_cases c : h ∈ s.cools
  · by_cases c2 : 0 < z1
    · have e : max 0 (z1 - 1) = z1 - 1 := by omega
      simp only [if_pos c, e]
      simp [M_law_led, tD, skyD, pqD, g1, hz, c, c2, hc]
    · have e : max 0 (z1 - 1) = z1 := by omega
      simp only [if_pos c, e]
      simp [M_law_led, tD, skyD, pqD, g1, hz, c, c2, hc]
  · simp only [if_neg c]
    simp [M_law_led, tD, skyD, pqD, g1, hz, c, hc]
/-- why not: the reason, or no sign -/
noncomputable def whyF (s : Sky) (h : Int) (p : St) (o : Od) : Str := if heldF p o = "" then standF s (h + 1) (ledF s h p o).1 (ledF s h p o).2.1 (ledF s h p o).2.2.1 else heldF p o
theorem ne_held (p : St) (o : Od) : gNe (.str (heldF p o)) (.str "") = some (.bl (!dec (heldF p o = ""))) := by
  have k : okE 0 (.str (heldF p o)) = true := by
    unfold heldF
    split
    · kernel_rfl
    · split
      · kernel_rfl
      · split
        · kernel_rfl
        · split <;> kernel_rfl
  rw [gNe_E 0 0 k (by kernel_rfl) (by decide) (by decide), D.str.injEq]
theorem why_not_ok {c0 c1 c2 : DF'} (s : Sky) (h0 : ∀ h p o, c0 [skyD s, .int h, tD p, oD o] = .ok (tD (ledF s h p o))) (h1 : ∀ h p, c1 [skyD s, .int h, tD p] = .ok (.str (standF s h p.1 p.2.1 p.2.2.1))) (h2 : ∀ p o, c2 [tD p, oD o] = .ok (.str (heldF p o))) (h : Int) (p : St) (o : Od) :
    runF 5 (M_why_not c0 c1 c2) [skyD s, .int h, tD p, oD o] = .ok (.str (whyF s h p o)) := by
  rw [runF_eq]
  unfold whyF
  by_cases c : heldF p o = ""
  · have ne0 : gNe (.str "") (.str "") = some (.bl false) := by kernel_rfl
    simp [M_why_not, h2, c, ne0, h0, h1]
  · simp [M_why_not, h2, ne_held, c]
theorem law_why_ok {c0 c1 : DF'} (s : Sky) (h0 : ∀ h p o, 0 ≤ p.2.2.1 + o.dz → c0 [skyD s, .int h, tD p, oD o] = .ok (tD (ledF s h p o))) (h1 : ∀ h p, c1 [skyD s, .int h, tD p] = .ok (.str (standF s h p.1 p.2.1 p.2.2.1))) (h : Int) (p : St) (o : Od) (hp : 0 ≤ p.2.2.1) :
    runF 4 (M_law_why c0 c1) [skyD s, .int h, tD p, oD o] = .ok (.str (whyF s h p o)) := by
  have e0 : (("" : Str) = "") = True := by simp
  have n1 : (("sacks" : Str) = "") = False := eq_false (by decide +kernel)
  have n2 : (("puffs" : Str) = "") = False := eq_false (by decide +kernel)
  have n3 : (("high" : Str) = "") = False := eq_false (by decide +kernel)
  have n4 : (("low" : Str) = "") = False := eq_false (by decide +kernel)
  rw [runF_eq]
  unfold whyF heldF
  by_cases d1 : o.isUp = true ∧ p.2.2.2.1 = 0
  · simp only [if_pos d1, n1, if_false]
    simp [M_law_why, tD, d1]
  · simp only [if_neg d1]
    by_cases d2 : o.isDown = true ∧ p.2.2.2.2 = 0
    · have u : o.isUp = false := by cases o <;> first | rfl | cases d2.1
      simp only [if_pos d2, n2, if_false]
      simp [M_law_why, tD, d2, u]
    · simp only [if_neg d2]
      by_cases d3 : o.isUp = true ∧ p.2.2.1 = 5
      · have u : o.isDown = false := by cases o <;> first | rfl | cases d3.1
        have v : ¬ p.2.2.2.1 = 0 := fun e => d1 ⟨d3.1, e⟩
        simp only [if_pos d3, n3, if_false]
        simp [M_law_why, tD, d3, u, v]
      · simp only [if_neg d3]
        by_cases d4 : o.isDown = true ∧ p.2.2.1 = 0
        · have u : o.isUp = false := by cases o <;> first | rfl | cases d4.1
          have v : ¬ p.2.2.2.2 = 0 := fun e => d2 ⟨d4.1, e⟩
          simp only [if_pos d4, n4, if_false]
          simp [M_law_why, tD, d4, u, v]
        · simp only [if_neg d4, e0, if_true]
          have hz : 0 ≤ p.2.2.1 + o.dz := by
            cases o with
            | up => show 0 ≤ p.2.2.1 + 1; omega
            | level => show 0 ≤ p.2.2.1 + 0; omega
            | down =>
              have : ¬ p.2.2.1 = 0 := fun e => d4 ⟨rfl, e⟩
              show 0 ≤ p.2.2.1 + -1
              omega
          have q := h0 h p o hz
          have q1 := h1 (h + 1) (ledF s h p o)
          simp only [tD] at q q1
          cases o with
          | level => simp [M_law_why, tD, Od.isUp, Od.isDown, q, q1]
          | up =>
            have v : ¬ p.2.2.2.1 = 0 := fun e => d1 ⟨rfl, e⟩
            have w : ¬ p.2.2.1 = 5 := fun e => d3 ⟨rfl, e⟩
            simp [M_law_why, tD, Od.isUp, Od.isDown, v, w, q, q1]
          | down =>
            have v : ¬ p.2.2.2.2 = 0 := fun e => d2 ⟨rfl, e⟩
            have w : ¬ p.2.2.1 = 0 := fun e => d4 ⟨rfl, e⟩
            simp [M_law_why, tD, Od.isUp, Od.isDown, v, w, q, q1]
end Lw

/-! Sp10: lists of lists of states. -/
namespace Dl
open PySem PySem.Spec PyProof.Rows L2
@[simp] theorem dEnum_eq {fa : DX} {env : DEnv} : dEnum fa env = (fa env).bind fun x => .ofO ((lsD x).map (enumD 0)) := (rfl)
@[simp] theorem lsD_lst {ds : List D} : lsD (.lst ds) = some ds := (rfl)
@[simp] theorem lsD_tup {ds : List D} : lsD (.tup ds) = some ds := (rfl)
@[simp] theorem listD_lst {ds : List D} : listD (.lst ds) = some ds := (rfl)
theorem dRevR_int {f : DX} {env : DEnv} {j : Int} (h : f env = .ok (.int j)) (hl : lim62 j = true) : dRevR f env = .ok (rangeD ((j.toNat : Nat) - 1) (-1) j.toNat) := by
  unfold dRevR
  rw [h]
  exact if_pos hl
theorem lim62_nat {n : Nat} (hn : n ≤ 1000000) : lim62 (n : Int) = true := by
  unfold lim62
  rw [Bool.and_eq_true, decide_eq_true_eq, decide_eq_true_eq]
  omega
theorem dRevR_ok {f : DX} {env : DEnv} {n : Nat} (h : f env = .ok (.int (n : Int))) (hn : n ≤ 1000000) : dRevR f env = .ok ((List.range n).map fun (i : Nat) => D.int ((n : Int) - 1 - (i : Int))) := by
  rw [dRevR_int h (lim62_nat hn), rangeD_map, Int.toNat_natCast]
  congr 1
  apply List.map_congr_left
  intro i _
  congr 1
  omega
end Dl
namespace Lw
open PySem PySem.Spec PyProof.Rows L2 Dl
abbrev rowD (l : List St) : D := .lst (l.map tD)
/-- over that place -/
def over (x y : Int) (s : St) : Bool := decide (s.1 = x) && decide (s.2.1 = y)
def firstL (x y : Int) : Nat → List (List St) → D
  | _, [] => .non
  | n, r :: rs => if r.any (over x y) = true then .int (n : Int) else firstL x y (n + 1) rs
theorem over_row (x y : Int) (rows : D) (n : Nat) (rr : D) : ∀ row : List St, forGo (gdName 5) M_first_over_l1 [5] (row.map tD) [some rows, some (.int x), some (.int y), some (.int (n : Int)), some rr, none]
    = if row.any (over x y) = true then .rt (.int (n : Int)) else .nx [some rows, some (.int x), some (.int y), some (.int (n : Int)), some rr, none]
  | [] => by simp
  | s :: row => by
    rw [List.map_cons, forGo_name]
    have ih := over_row x y rows n rr row
    have b : M_first_over_l1 ([some rows, some (.int x), some (.int y), some (.int (n : Int)), some rr, none].set 5 (some (tD s))) = if over x y s = true then .rt (.int (n : Int)) else .nx [some rows, some (.int x), some (.int y), some (.int (n : Int)), some rr, some (tD s)] := by
      by_cases h1 : s.1 = x
      · by_cases h2 : s.2.1 = y
        · simp [M_first_over_l1, tD, over, h1, h2]
        · simp [M_first_over_l1, tD, over, h1, h2]
      · simp [M_first_over_l1, tD, over, h1]
    rw [b, List.any_cons]
    cases h : over x y s with
    | true => simp
    | false =>
      simp only [Bool.false_eq_true, if_false, forK_nx, Bool.false_or]
      exact ih
theorem over_rows (x y : Int) (rows : D) : ∀ (rs : List (List St)) (n : Nat), forGo (gdTup 2 (gdCons (gdName 3) (gdCons (gdName 4) gdNil))) M_first_over_l2 [3, 4, 5] (enumD n (rs.map rowD)) [some rows, some (.int x), some (.int y), none, none, none]
    = (match firstL x y n rs with | .non => .nx [some rows, some (.int x), some (.int y), none, none, none] | d => .rt d)
  | [], n => rfl
  | r :: rs, n => by
    have e : enumD n ((r :: rs).map rowD) = .tup [.int (n : Int), rowD r] :: enumD (n + 1) (rs.map rowD) := rfl
    rw [e, forGo_cons (e1 := [some rows, some (.int x), some (.int y), some (.int (n : Int)), some (rowD r), none]) (by simp)]
    have b := over_row x y rows n (rowD r) r
    have ih := over_rows x y rows rs (n + 1)
    unfold firstL
    by_cases c : r.any (over x y) = true
    · rw [if_pos c] at b ⊢
      have hb : M_first_over_l2 [some rows, some (.int x), some (.int y), some (.int (n : Int)), some (rowD r), none] = .rt (.int (n : Int)) := by simp [M_first_over_l2, dFor, b]
      rw [hb]
      rfl
    · rw [if_neg c] at b ⊢
      have hb : M_first_over_l2 [some rows, some (.int x), some (.int y), some (.int (n : Int)), some (rowD r), none] = .nx [some rows, some (.int x), some (.int y), some (.int (n : Int)), some (rowD r), none] := by simp [M_first_over_l2, dFor, b]
      rw [hb, forK_nx]
      exact ih
theorem firstL_kind (x y : Int) : ∀ (rs : List (List St)) (n : Nat), firstL x y n rs = .non ∨ ∃ i : Int, firstL x y n rs = .int i
  | [], n => .inl rfl
  | r :: rs, n => by
    unfold firstL
    split
    · exact .inr ⟨_, rfl⟩
    · exact firstL_kind x y rs (n + 1)
theorem first_over_ok (rs : List (List St)) (x y : Int) : runF 6 M_first_over [.lst (rs.map rowD), .int x, .int y] = .ok (firstL x y 0 rs) := by
  have h := over_rows x y (.lst (rs.map rowD)) rs 0
  rw [runF_eq]
  rcases firstL_kind x y rs 0 with e | ⟨i, e⟩
  · rw [e] at h
    simp only at h
    simp [M_first_over, dFor, h, e]
  · rw [e] at h
    simp only at h
    simp [M_first_over, dFor, h, e]
theorem law_flat_ok (rs : List (List St)) (hz : rs.flatten.length ≤ 1000000) : runF 3 M_law_flat [.lst (rs.map rowD)] = .ok (.lst (rs.flatten.map tD)) := by
  obtain ⟨env', h1, h2⟩ := forGo_inv (gd := gdName 2) (body := M_law_flat_l1) (ks := [2]) (enc := rowD)
    (fun pre env => env = [some (.lst (rs.map rowD)), some (.lst (pre.flatten.map tD)), none]) rs
    (env := [some (.lst (rs.map rowD)), some (.lst []), none]) rfl fun pre r post env hi ev => by
      subst ev
      have hz' : pre.flatten.length + r.length ≤ 1000000 := by
        rw [hi] at hz
        simp only [List.flatten_append, List.flatten_cons, List.length_append] at hz
        omega
      have z : pre.flatten.length + r.length ≤ sizeLine := le_size hz'
      have im : imms (pre.flatten.map tD ++ r.map tD) = true := by
        rw [← List.map_append]
        exact imms_map fun _ _ => rfl
      have zz : (pre.flatten.map tD).length + (r.map tD).length ≤ sizeLine := by rw [List.length_map, List.length_map]; exact z
      have g : gCatL (.lst (pre.flatten.map tD)) (.lst (r.map tD)) = some (.lst (pre.flatten.map tD ++ r.map tD)) := by rw [gCatL_lst, if_pos zz]
      refine ⟨_, rfl, [some (.lst (rs.map rowD)), some (.lst (pre.flatten.map tD ++ r.map tD)), some (rowD r)], .inl ?_, ?_⟩
      · unfold M_law_flat_l1
        simp only [dSeq_eq, dSet_eq, dImmL_eq, dBin_eq, dVar_eq, List.set_cons_succ, List.set_cons_zero]
        simp only [List.getElem?_cons_succ, List.getElem?_cons_zero, getV_some, bind_ok, g, ofO_some, immL_lst, im, if_true, out_ok, seqO_nx, dNext_eq, List.set_cons_succ, List.set_cons_zero]
      · rw [List.flatten_append, List.map_append]
        simp
  subst h2
  rw [runF_eq]
  simp [M_law_flat, dFor, h1, -List.map_flatten]
theorem rows_eq (rs : List (List St)) : eqOk (.lst (rs.map rowD)) = true := okQ_eqOk (n := 3) (okQ_lst fun r _ => okQ_lst fun s _ => rfl) (by decide)
end Lw

/-! Sp11: rows of numbers as keys, sets of them, sorted. -/
namespace Dl
open PySem PySem.Spec PyProof.Rows L2
/-- a tuple of numbers -/
def iD (xs : List Int) : D := .tup (xs.map D.int)
theorem iD_key (xs : List Int) : iD xs = .tup ((xs.map Sum.inl : List Key).map keyD) := by
  unfold iD
  rw [List.map_map]
  rfl
theorem keyEq_iD (xs ys : List Int) : keyEq (iD xs) (iD ys) = decide (xs = ys) := by
  rw [iD_key, iD_key, keyEq_keys]
  congr 1
  apply propext
  constructor
  · intro h
    exact (List.map_inj_right (fun a b e => by cases e; rfl)).mp h
  · intro h
    rw [h]
theorem keyFits_iD (xs : List Int) : keyFits true (iD xs) = true := by
  rw [iD_key]
  show (keysOf _).isSome = true
  rw [keysOf_map]
  rfl
/-- numbers, set by set -/
def addL {α : Type} [DecidableEq α] (L : List α) (x : α) : List α := if x ∈ L then L else L ++ [x]
section
variable {α : Type} [DecidableEq α] {e : α → D} (he : ∀ a b, keyEq (e a) (e b) = decide (a = b))
include he
theorem any_key (L : List α) (x : α) : (L.map e).any (fun y => keyEq y (e x)) = decide (x ∈ L) := by
  rw [List.any_map, Bool.eq_iff_iff, List.any_eq_true, decide_eq_true_eq]
  constructor
  · rintro ⟨y, hy, h⟩
    have h : keyEq (e y) (e x) = true := h
    rw [he] at h
    rw [← of_decide_eq_true h]
    exact hy
  · intro h
    exact ⟨x, h, by show keyEq (e x) (e x) = true; rw [he, decide_eq_true rfl]⟩
theorem putKs_add (L : List α) (x : α) : putKs (L.map e) (e x) = (addL L x).map e := by
  unfold putKs addL
  rw [any_key he]
  by_cases h : x ∈ L
  · rw [if_pos (decide_eq_true h), if_pos h]
  · rw [if_neg (by simpa using h), if_neg h, List.map_append]
    rfl
theorem putWs_add (L : List α) (x : α) (w : D) : putWs (L.map e) (L.map fun _ => w) (e x) w = (addL L x).map fun _ => w := by
  unfold putWs addL
  rw [any_key he]
  by_cases h : x ∈ L
  · rw [if_pos (decide_eq_true h), if_pos h]
    have : ∀ L : List α, List.zipWith (fun y z => if keyEq y (e x) then w else z) (L.map e) (L.map fun _ => w) = L.map fun _ => w := by
      intro L
      induction L with
      | nil => rfl
      | cons a L ih =>
        simp only [List.map_cons, List.zipWith_cons_cons, ih]
        congr 1
        split <;> rfl
    exact this L
  · rw [if_neg (by simpa using h), if_neg h, List.map_append]
    rfl
theorem putD_add (L : List α) (x : α) (w : D) (hk : keyFits true (e x) = true) (hz : L.length < sizeLine) : putD (.dic true (L.map e) (L.map fun _ => w)) (e x) w = some (.dic true ((addL L x).map e) ((addL L x).map fun _ => w)) := by
  show (if keyFits true (e x) && decide ((L.map e).length < sizeLine) then some (D.dic true (putKs (L.map e) (e x)) (putWs (L.map e) (L.map fun _ => w) (e x) w)) else none) = _
  rw [hk, List.length_map, decide_eq_true hz, putKs_add he, putWs_add he]
  rfl
theorem dictK_add (w : D) : ∀ (xs L : List α), dictK (xs.map fun x => (e x, w)) (L.map e, L.map fun _ => w) = ((xs.foldl addL L).map e, (xs.foldl addL L).map fun _ => w)
  | [], L => rfl
  | x :: xs, L => by
    have ih := dictK_add w xs (addL L x)
    rw [List.foldl_cons, ← ih]
    show dictK (xs.map fun x => (e x, w)) (putKs (L.map e) (e x), putWs (L.map e) (L.map fun _ => w) (e x) w) = _
    rw [putKs_add he, putWs_add he]
theorem gDict_add (w : D) (hk : ∀ x, keyFits true (e x) = true) (xs : List α) : gDictL (.lst (xs.map fun x => D.tup [e x, w])) = some (.dic true ((xs.foldl addL []).map e) ((xs.foldl addL []).map fun _ => w)) := by
  have ps : pairsK (xs.map fun x => D.tup [e x, w]) = some (xs.map fun x => (e x, w)) := by
    induction xs with
    | nil => rfl
    | cons x xs ih =>
      rw [List.map_cons, List.map_cons]
      unfold pairsK
      have h1 : pairK (.tup [e x, w]) = some (e x, w) := by
        show (if keyFits true (e x) then some (e x, w) else none) = _
        rw [if_pos (hk x)]
      rw [h1, ih]
  rw [gDictL_lst, ps]
  show some (D.dic true _ _) = _
  have h := dictK_add he w xs []
  simp only [List.map_nil] at h
  rw [h]
end
section
variable {α : Type} [DecidableEq α]
theorem mem_addL {L : List α} {x y : α} : y ∈ addL L x ↔ y ∈ L ∨ y = x := by
  unfold addL
  split
  · next h => exact ⟨.inl, fun q => q.elim id fun e => e ▸ h⟩
  · simp
theorem nodup_addL {L : List α} {x : α} (h : L.Nodup) : (addL L x).Nodup := by
  unfold addL
  split
  · exact h
  · next hx => exact List.nodup_append.mpr ⟨h, by simp, fun a ha b hb => by rw [List.mem_singleton.mp hb]; rintro rfl; exact hx ha⟩
theorem len_addL {L : List α} {x : α} : (addL L x).length ≤ L.length + 1 := by
  unfold addL
  split <;> simp
theorem mem_addAll {y : α} : ∀ {xs L : List α}, y ∈ xs.foldl addL L ↔ y ∈ L ∨ y ∈ xs
  | [], L => by simp
  | x :: xs, L => by
    rw [List.foldl_cons, mem_addAll, mem_addL]
    simp only [List.mem_cons]
    constructor
    · rintro ((h | h) | h) <;> simp [h]
    · rintro (h | h | h) <;> simp [h]
theorem nodup_addAll : ∀ {xs L : List α}, L.Nodup → (xs.foldl addL L).Nodup
  | [], L, h => h
  | x :: xs, L, h => nodup_addAll (xs := xs) (nodup_addL h)
theorem len_addAll : ∀ {xs L : List α}, (xs.foldl addL L).length ≤ L.length + xs.length
  | [], L => Nat.le_refl _
  | x :: xs, L => by
    have h := len_addAll (xs := xs) (L := addL L x)
    have h2 := len_addL (L := L) (x := x)
    rw [List.foldl_cons, List.length_cons]
    omega
end
/-! ### rows of numbers sorted -/
def lexI : List Int → List Int → Bool
  | x :: xs, y :: ys => decide (x < y) || (!decide (y < x) && lexI xs ys)
  | _, _ => false
theorem dataLt_rows : ∀ (xs ys : List Int), xs.length = ys.length → PyProof.Rows.lexLt itemOrd (PySem.W.keyToksAll (toPys (xs.map D.int))) (PySem.W.keyToksAll (toPys (ys.map D.int))) = lexI xs ys
  | [], [], _ => by
    show PyProof.Rows.lexLt itemOrd [.inl 0] [.inl 0] = false
    exact PyProof.Rows.lex_irrefl _
  | [], _ :: _, h => by cases h
  | _ :: _, [], h => by cases h
  | x :: xs, y :: ys, h => by
    have ih := dataLt_rows xs ys (by simpa using h)
    show PyProof.Rows.lexLt itemOrd (.inl 1 :: .inl x :: PySem.W.keyToksAll (toPys (xs.map D.int))) (.inl 1 :: .inl y :: PySem.W.keyToksAll (toPys (ys.map D.int))) = _
    rw [PyProof.Rows.lex_cons, PyProof.Rows.lex_cons, ih]
    show (decide ((1 : Int) < 1) || (!decide ((1 : Int) < 1) && (decide (x < y) || (!decide (y < x) && lexI xs ys)))) = (decide (x < y) || (!decide (y < x) && lexI xs ys))
    simp
theorem leD_iD (xs ys : List Int) (h : xs.length = ys.length) : leD (iD xs) (iD ys) = !lexI ys xs := by
  show (!PySem.W.dataLt (toPy (iD ys)) (toPy (iD xs))) = _
  congr 1
  have e : ∀ zs : List Int, toPy (iD zs) = .tuple (toPys (zs.map D.int)) := fun zs => by
    unfold iD toPy
    rfl
  rw [e, e, PySem.W.dataLt_tuple]
  exact dataLt_rows ys xs h.symm
theorem lexI_anti : ∀ (xs ys : List Int), xs.length = ys.length → lexI xs ys = false → lexI ys xs = false → xs = ys
  | [], [], _, _, _ => rfl
  | [], _ :: _, h, _, _ => by cases h
  | _ :: _, [], h, _, _ => by cases h
  | x :: xs, y :: ys, h, h1, h2 => by
    unfold lexI at h1 h2
    simp only [Bool.or_eq_false_iff, decide_eq_false_iff_not, Bool.and_eq_false_imp, Bool.not_eq_true', decide_eq_false_iff_not] at h1 h2
    have e : x = y := by omega
    subst e
    rw [lexI_anti xs ys (by simpa using h) (h1.2 (by omega)) (h2.2 (by omega))]
theorem sorted_eq {α : Type} {le : α → α → Prop} (anti : ∀ a b, le a b → le b a → a = b) : ∀ {l1 l2 : List α}, l1.Perm l2 → l1.Pairwise le → l2.Pairwise le → l1 = l2
  | [], l2, p, _, _ => p.symm.eq_nil.symm
  | a :: as, [], p, _, _ => p.eq_nil
  | a :: as, b :: bs, p, h1, h2 => by
    have e : a = b := by
      rcases List.mem_cons.mp (p.mem_iff.mp (List.mem_cons_self : a ∈ a :: as)) with h | h
      · exact h
      · rcases List.mem_cons.mp (p.mem_iff.mpr (List.mem_cons_self : b ∈ b :: bs)) with h' | h'
        · exact h'.symm
        · exact anti a b ((List.pairwise_cons.mp h1).1 b h') ((List.pairwise_cons.mp h2).1 a h)
    subst e
    rw [sorted_eq anti (List.Perm.cons_inv p) (List.pairwise_cons.mp h1).2 (List.pairwise_cons.mp h2).2]
/-- two strictly rising lists of the same things -/
theorem sorted_same {α : Type} [DecidableEq α] {le : α → α → Prop} (anti : ∀ a b, le a b → le b a → a = b) {l1 l2 : List α} (n1 : l1.Nodup) (n2 : l2.Nodup) (m : ∀ x, x ∈ l1 ↔ x ∈ l2) (h1 : l1.Pairwise le) (h2 : l2.Pairwise le) : l1 = l2 :=
  sorted_eq anti ((List.perm_ext_iff_of_nodup n1 n2).mpr m) h1 h2
theorem lexI_trans : ∀ (xs ys zs : List Int), xs.length = ys.length → ys.length = zs.length → lexI ys xs = false → lexI zs ys = false → lexI zs xs = false
  | [], [], [], _, _, _, _ => rfl
  | [], [], _ :: _, _, h, _, _ => by cases h
  | [], _ :: _, _, h, _, _, _ => by cases h
  | _ :: _, [], _, h, _, _, _ => by cases h
  | _ :: _, _ :: _, [], _, h, _, _ => by cases h
  | x :: xs, y :: ys, z :: zs, h, h', h1, h2 => by
    unfold lexI at h1 h2 ⊢
    simp only [Bool.or_eq_false_iff, decide_eq_false_iff_not, Bool.and_eq_false_imp, Bool.not_eq_true', decide_eq_false_iff_not] at h1 h2 ⊢
    refine ⟨by omega, fun hz => ?_⟩
    exact lexI_trans xs ys zs (by simpa using h) (by simpa using h') (h1.2 (by omega)) (h2.2 (by omega))
theorem lexI_asym : ∀ (xs ys : List Int), lexI xs ys = true → lexI ys xs = false
  | [], [], h => by cases h
  | [], _ :: _, h => by cases h
  | _ :: _, [], h => by cases h
  | x :: xs, y :: ys, h => by
    unfold lexI at h ⊢
    simp only [Bool.or_eq_true, Bool.and_eq_true, decide_eq_true_eq, Bool.not_eq_true', decide_eq_false_iff_not, Bool.or_eq_false_iff, Bool.and_eq_false_imp] at h ⊢
    rcases h with h | ⟨h, h2⟩
    · exact ⟨by omega, fun q => absurd h (by omega)⟩
    · refine ⟨h, fun q => lexI_asym xs ys h2⟩
section
variable {α : Type} [DecidableEq α] {n : Nat} (f : α → List Int) (hf : ∀ a, (f a).length = n + 1) (inj : ∀ a b, f a = f b → a = b)
/-- things told by rows of numbers, sorted -/
def srtF (L : List α) : List α := L.mergeSort fun a b => !lexI (f b) (f a)
def leF (a b : α) : Prop := lexI (f b) (f a) = false
theorem srtF_perm (L : List α) : (srtF f L).Perm L := List.mergeSort_perm L _
include hf
theorem srtF_sorted (L : List α) : (srtF f L).Pairwise (leF f) := by
  have := List.pairwise_mergeSort (le := fun (a b : α) => !lexI (f b) (f a)) (fun a b c h1 h2 => by
    simp only [Bool.not_eq_true'] at h1 h2 ⊢
    exact lexI_trans _ _ _ ((hf a).trans (hf b).symm) ((hf b).trans (hf c).symm) h1 h2) (fun a b => by
    cases h : lexI (f b) (f a) with
    | false => rfl
    | true =>
      rw [lexI_asym _ _ h]
      rfl) L
  exact this.imp fun h => by
    simp only [Bool.not_eq_true'] at h
    exact h
theorem srtD_F (L : List α) : srtD (L.map fun a => iD (f a)) = (srtF f L).map fun a => iD (f a) :=
  (List.map_mergeSort (f := fun a => iD (f a)) (fun a _ b _ => by rw [leD_iD _ _ ((hf a).trans (hf b).symm)])).symm
include inj
theorem leF_anti (a b : α) (h1 : leF f a b) (h2 : leF f b a) : a = b := inj a b (lexI_anti _ _ ((hf a).trans (hf b).symm) h2 h1)
theorem srtF_eq {L M : List α} (n1 : L.Nodup) (n2 : M.Nodup) (m : ∀ x, x ∈ L ↔ x ∈ M) : srtF f L = srtF f M :=
  sorted_eq (leF_anti f hf inj) ((srtF_perm f L).trans (((List.perm_ext_iff_of_nodup n1 n2).mpr m).trans (srtF_perm f M).symm)) (srtF_sorted f hf L) (srtF_sorted f hf M)
end
theorem alike_rows : ∀ (xs ys : List Int), PySem.W.alikeAll (toPys (xs.map D.int)) (toPys (ys.map D.int)) = true
  | [], [] => rfl
  | [], _ :: _ => rfl
  | _ :: _, [] => rfl
  | x :: xs, y :: ys => by
    show (PySem.W.alike (.int x) (.int y) && PySem.W.alikeAll (toPys (xs.map D.int)) (toPys (ys.map D.int))) = true
    rw [alike_rows xs ys]
    rfl
theorem srtOk_F {α : Type} {n : Nat} (f : α → List Int) (hf : ∀ a, (f a).length = n + 1) {L : List α} (h : L.length ≤ 1000000) : srtOk (L.map fun a => iD (f a)) = true := by
  have dep : ∀ xs : List Int, PyData.depthAll (toPys (xs.map D.int)) ≤ 0 := fun xs => depths_all fun d hd => by
    obtain ⟨x, _, rfl⟩ := List.mem_map.mp hd
    exact Nat.zero_le _
  unfold srtOk
  simp only [Bool.and_eq_true, Bool.or_eq_true, List.all_eq_true, List.mem_map, decide_eq_true_eq, List.length_map]
  refine ⟨⟨?_, .inl ?_⟩, le_size h⟩
  · rintro _ ⟨a, _, rfl⟩
    refine ⟨⟨⟨noDics_map fun _ _ => rfl, canLays_all fun d hd => by obtain ⟨x, _, rfl⟩ := List.mem_map.mp hd; rfl⟩, ?_⟩, ?_⟩
    · show PyData.depthAll (toPys ((f a).map D.int)) + 1 ≤ 50
      have := dep (f a)
      omega
    · rintro _ ⟨b, _, rfl⟩
      exact alike_rows _ _
  · rintro _ ⟨a, _, rfl⟩
    have := hf a
    cases e : f a with
    | nil => rw [e] at this; cases this
    | cons x xs => rfl
theorem sorted_F {α : Type} {n : Nat} (f : α → List Int) (hf : ∀ a, (f a).length = n + 1) [DecidableEq α] {L : List α} (h : L.length ≤ 1000000) : sortedO (.lst (L.map fun a => iD (f a))) = some (.lst ((srtF f L).map fun a => iD (f a))) := by
  show (if srtOk (L.map fun a => iD (f a)) then some (D.lst (srtD (L.map fun a => iD (f a)))) else none) = _
  rw [if_pos (srtOk_F f hf h), srtD_F f hf]
end Dl

/-! Sp12: pairs that none beats. -/
namespace Lw
open PySem PySem.Spec PyProof.Rows L2 Dl
abbrev Pr := Int × Int
def prL (p : Pr) : List Int := [p.1, p.2]
theorem prL_len (p : Pr) : (prL p).length = 1 + 1 := rfl
theorem prL_inj (a b : Pr) (h : prL a = prL b) : a = b := by
  cases a; cases b
  simp [prL] at h
  simp [h]
theorem pqD_iD (p : Pr) : iD (prL p) = pqD p := rfl
theorem keyEq_pq (a b : Pr) : keyEq (pqD a) (pqD b) = decide (a = b) := by
  rw [← pqD_iD, ← pqD_iD, keyEq_iD]
  exact decide_eq_decide.mpr ⟨prL_inj a b, fun h => by rw [h]⟩
theorem leF_pr {a b : Pr} : leF prL a b ↔ lexP a b := by
  unfold leF lexP prL
  unfold lexI
  unfold lexI
  unfold lexI
  simp only [Bool.or_eq_false_iff, decide_eq_false_iff_not, Bool.and_eq_false_imp, Bool.not_eq_true', decide_eq_false_iff_not]
  constructor
  · rintro ⟨h1, h2⟩
    by_cases h : a.1 < b.1
    · exact .inl h
    · have := (h2 (by omega)).1
      exact .inr ⟨by omega, by omega⟩
  · rintro (h | ⟨h, h'⟩)
    · exact ⟨by omega, fun q => absurd h (by omega)⟩
    · exact ⟨by omega, fun q => ⟨by omega, fun _ => by simp⟩⟩
/-- q has as much of both as p, and is not p -/
def beat (q p : Pr) : Prop := p.1 ≤ q.1 ∧ p.2 ≤ q.2 ∧ q ≠ p
instance (q p : Pr) : Decidable (beat q p) := inferInstanceAs (Decidable (_ ∧ _ ∧ _))
theorem pr_ext {p q : Pr} (h1 : p.1 = q.1) (h2 : p.2 = q.2) : p = q := by cases p; cases q; simp at h1 h2; simp [h1, h2]
theorem beats_ok (p q : Pr) : runF 2 M_beats [pqD p, pqD q] = .ok (.bl (decide (beat p q))) := by
  have n : gNe (.tup [.int p.1, .int p.2]) (.tup [.int q.1, .int q.2]) = some (.bl (!decide (p.1 = q.1 ∧ p.2 = q.2))) := by
    rw [gNe_E 1 1 rfl rfl (by decide) (by decide), ← dec_dec]
    congr 3
    simp
  rw [runF_eq]
  simp [M_beats, pqD, n]
  have dd : (decide (beat p q) = true) ↔ beat p q := decide_eq_true_iff
  rw [Bool.eq_iff_iff, dd]
  simp only [Bool.and_eq_true, decide_eq_true_eq, Bool.not_eq_true', Bool.or_eq_true, decide_eq_false_iff_not]
  unfold beat
  constructor
  · rintro ⟨h1, h2, h3⟩
    refine ⟨h1, h2, fun e => ?_⟩
    subst e
    simp at h3
  · rintro ⟨h1, h2, h3⟩
    refine ⟨h1, h2, ?_⟩
    by_cases e1 : p.1 = q.1
    · by_cases e2 : p.2 = q.2
      · exact absurd (pr_ext e1 e2) h3
      · simp [e1, e2]
    · simp [e1]
/-! ### the front -/
def frontGo : List Pr → Int → List Pr
  | [], _ => []
  | x :: r, m => if m < x.2 then x :: frontGo r x.2 else frontGo r m
theorem frontGo_len : ∀ (l : List Pr) (m : Int), (frontGo l m).length ≤ l.length
  | [], _ => Nat.le_refl _
  | x :: r, m => by
    unfold frontGo
    split
    · have := frontGo_len r x.2
      simp; omega
    · have := frontGo_len r m
      simp; omega
theorem front_mem : ∀ (l : List Pr) (m : Int), l.Pairwise (fun a b => lexP b a) → ∀ p, p ∈ frontGo l m ↔ p ∈ l ∧ m < p.2 ∧ ∀ q ∈ l, ¬ beat q p
  | [], m, _, p => by simp [frontGo]
  | x :: r, m, h, p => by
    obtain ⟨h1, h2⟩ := List.pairwise_cons.mp h
    unfold frontGo
    by_cases c : m < x.2
    · rw [if_pos c, List.mem_cons, front_mem r x.2 h2 p]
      constructor
      · rintro (rfl | ⟨a, b, d⟩)
        · refine ⟨by simp, c, fun q hq hb => ?_⟩
          rcases List.mem_cons.mp hq with rfl | hq
          · exact hb.2.2 rfl
          · have l := h1 q hq
            obtain ⟨b1, b2, b3⟩ := hb
            unfold lexP at l
            exact b3 (pr_ext (by omega) (by omega))
        · refine ⟨by simp [a], by omega, fun q hq hb => ?_⟩
          rcases List.mem_cons.mp hq with rfl | hq
          · have := hb.2.1; omega
          · exact d q hq hb
      · rintro ⟨a, b, d⟩
        rcases List.mem_cons.mp a with rfl | a
        · exact .inl rfl
        · by_cases e : p = x
          · exact .inl e
          · refine .inr ⟨a, ?_, fun q hq => d q (by simp [hq])⟩
            have nb := d x (by simp)
            have l := h1 p a
            unfold lexP at l
            apply Classical.byContradiction
            intro k
            exact nb ⟨by omega, by omega, fun z => e z.symm⟩
    · rw [if_neg c, front_mem r m h2 p]
      constructor
      · rintro ⟨a, b, d⟩
        refine ⟨by simp [a], b, fun q hq hb => ?_⟩
        rcases List.mem_cons.mp hq with rfl | hq
        · have := hb.2.1; omega
        · exact d q hq hb
      · rintro ⟨a, b, d⟩
        rcases List.mem_cons.mp a with rfl | a
        · exact absurd b c
        · exact ⟨a, b, fun q hq => d q (by simp [hq])⟩
theorem front_sub : ∀ (l : List Pr) (m : Int), List.Sublist (frontGo l m) l
  | [], _ => .slnil
  | x :: r, m => by
    unfold frontGo
    split
    · exact (front_sub r x.2).cons₂ x
    · exact (front_sub r m).cons x
theorem front_nodup : ∀ (l : List Pr) (m : Int), (frontGo l m).Nodup ∧ ∀ p ∈ frontGo l m, m < p.2
  | [], _ => ⟨by simp [frontGo], by simp [frontGo]⟩
  | x :: r, m => by
    unfold frontGo
    split
    · next c =>
      obtain ⟨h1, h2⟩ := front_nodup r x.2
      refine ⟨List.nodup_cons.mpr ⟨fun h => absurd (h2 x h) (Int.lt_irrefl _), h1⟩, fun p hp => ?_⟩
      rcases List.mem_cons.mp hp with rfl | hp
      · exact c
      · exact Int.lt_trans c (h2 p hp)
    · exact front_nodup r m
/-- the front of a list -/
def frontF (l : List Pr) : List Pr := (frontGo (srtF prL l).reverse (-1)).reverse
theorem front_ok (l : List Pr) (hz : l.length ≤ 100000) : runF 5 M_front [.lst (l.map pqD)] = .ok (.lst ((frontF l).map pqD)) := by
  have srt : sortedO (.lst (l.map pqD)) = some (.lst ((srtF prL l).map pqD)) := sorted_F prL prL_len (by omega)
  have sl : (srtF prL l).length ≤ 100000 := by rw [(srtF_perm prL l).length_eq]; exact hz
  have key : ∀ (xs : List Pr) (m : Int) (acc : List Pr), acc.length + xs.length ≤ 100000 → ∃ m', forGo (gdTup 2 (gdCons (gdName 3) (gdCons (gdName 4) gdNil))) M_front_l1 [3, 4] (xs.map pqD) [some (.lst (l.map pqD)), some (.lst (acc.map pqD)), some (.int m), none, none] = .nx [some (.lst (l.map pqD)), some (.lst ((acc ++ frontGo xs m).map pqD)), some (.int m'), none, none] := by
    intro xs
    induction xs with
    | nil => intro m acc _; exact ⟨m, by simp [frontGo]⟩
    | cons x xs ih =>
      intro m acc hl
      rw [List.length_cons] at hl
      rw [List.map_cons, forGo_cons (e1 := [some (.lst (l.map pqD)), some (.lst (acc.map pqD)), some (.int m), some (.int x.1), some (.int x.2)]) (by simp [pqD])]
      have z : acc.length < sizeLine := lt_size (by omega)
      by_cases c : m < x.2
      · obtain ⟨m', h⟩ := ih x.2 (acc ++ [x]) (by simp; omega)
        refine ⟨m', ?_⟩
        have b : M_front_l1 [some (.lst (l.map pqD)), some (.lst (acc.map pqD)), some (.int m), some (.int x.1), some (.int x.2)] = .nx [some (.lst (l.map pqD)), some (.lst ((acc ++ [x]).map pqD)), some (.int x.2), some (.int x.1), some (.int x.2)] := by
          simp [M_front_l1, c, z, pqD]
        rw [b, forK_nx]
        have e : frontGo (x :: xs) m = x :: frontGo xs x.2 := by
          conv => lhs; unfold frontGo
          rw [if_pos c]
        rw [e, show acc ++ x :: frontGo xs x.2 = (acc ++ [x]) ++ frontGo xs x.2 by simp]
        exact h
      · obtain ⟨m', h⟩ := ih m acc (by omega)
        refine ⟨m', ?_⟩
        have b : M_front_l1 [some (.lst (l.map pqD)), some (.lst (acc.map pqD)), some (.int m), some (.int x.1), some (.int x.2)] = .nx [some (.lst (l.map pqD)), some (.lst (acc.map pqD)), some (.int m), some (.int x.1), some (.int x.2)] := by
          simp [M_front_l1, c]
        rw [b, forK_nx]
        have e : frontGo (x :: xs) m = frontGo xs m := by
          conv => lhs; unfold frontGo
          rw [if_neg c]
        rw [e]
        exact h
  obtain ⟨m', h⟩ := key (srtF prL l).reverse (-1) [] (by simp; omega)
  have src : ∀ e1 e2 e3 e4, dRev (dSorted (dCons (dVar 0) dNil)) [some (.lst (l.map pqD)), e1, e2, e3, e4] = .ok ((srtF prL l).reverse.map pqD) := fun e1 e2 e3 e4 => by
    unfold dRev
    simp [srt]
    unfold revD
    simp [List.map_reverse]
  rw [runF_eq]
  simp only [List.map_nil, List.nil_append] at h
  rw [List.map_reverse] at h
  unfold frontF
  simp [M_front, dFor, src, h, List.map_reverse]
theorem frontF_mem {l : List Pr} (h0 : ∀ p ∈ l, 0 ≤ p.2) (p : Pr) : p ∈ frontF l ↔ p ∈ l ∧ ∀ q ∈ l, ¬ beat q p := by
  have srt := (srtF_sorted prL prL_len l).imp fun h => leF_pr.mp h
  have pm := srtF_perm prL l
  unfold frontF
  rw [List.mem_reverse, front_mem _ _ (List.pairwise_reverse.mpr srt)]
  simp only [List.mem_reverse, pm.mem_iff]
  constructor
  · rintro ⟨a, _, b⟩; exact ⟨a, b⟩
  · rintro ⟨a, b⟩; exact ⟨a, by have := h0 p a; omega, b⟩
theorem frontF_sorted (l : List Pr) : (frontF l).Pairwise (leF prL) ∧ (frontF l).Nodup := by
  have srt := srtF_sorted prL prL_len l
  refine ⟨?_, ?_⟩
  · unfold frontF
    rw [List.pairwise_reverse]
    exact (List.pairwise_reverse.mpr srt).sublist (front_sub _ _)
  · unfold frontF
    exact List.pairwise_reverse.mpr ((front_nodup _ _).1.imp fun h e => h e.symm)
/-! ### the least ones -/
def leastGo : List Pr → Option Int → List Pr
  | [], _ => []
  | x :: r, none => x :: leastGo r (some x.2)
  | x :: r, some m => if x.2 < m then x :: leastGo r (some x.2) else leastGo r (some m)
def below (m : Option Int) (p : Pr) : Prop := ∀ k, m = some k → p.2 < k
theorem least_mem : ∀ (l : List Pr) (m : Option Int), l.Pairwise lexP → ∀ p, p ∈ leastGo l m ↔ p ∈ l ∧ below m p ∧ ∀ q ∈ l, ¬ beat p q
  | [], m, _, p => by cases m <;> simp [leastGo]
  | x :: r, m, h, p => by
    obtain ⟨h1, h2⟩ := List.pairwise_cons.mp h
    have take : below m x → (p ∈ x :: leastGo r (some x.2) ↔ p ∈ x :: r ∧ below m p ∧ ∀ q ∈ x :: r, ¬ beat p q) := fun c => by
      rw [List.mem_cons, least_mem r (some x.2) h2 p]
      constructor
      · rintro (rfl | ⟨a, b, d⟩)
        · refine ⟨by simp, c, fun q hq hb => ?_⟩
          rcases List.mem_cons.mp hq with rfl | hq
          · exact hb.2.2 rfl
          · have l := h1 q hq
            obtain ⟨b1, b2, b3⟩ := hb
            unfold lexP at l
            exact b3 (pr_ext (by omega) (by omega))
        · have b := b x.2 rfl
          refine ⟨by simp [a], fun k hk => Int.lt_trans b (c k hk), fun q hq hb => ?_⟩
          rcases List.mem_cons.mp hq with rfl | hq
          · have := hb.2.1; omega
          · exact d q hq hb
      · rintro ⟨a, b, d⟩
        rcases List.mem_cons.mp a with rfl | a
        · exact .inl rfl
        · by_cases e : p = x
          · exact .inl e
          · refine .inr ⟨a, fun k hk => ?_, fun q hq => d q (by simp [hq])⟩
            cases hk
            have nb := d x (by simp)
            have l := h1 p a
            unfold lexP at l
            apply Classical.byContradiction
            intro k
            exact nb ⟨by omega, by omega, e⟩
    cases m with
    | none => exact take fun k hk => by cases hk
    | some m =>
      unfold leastGo
      by_cases c : x.2 < m
      · rw [if_pos c]
        exact take fun k hk => by cases hk; exact c
      · rw [if_neg c, least_mem r (some m) h2 p]
        constructor
        · rintro ⟨a, b, d⟩
          have b' := b m rfl
          refine ⟨by simp [a], b, fun q hq hb => ?_⟩
          rcases List.mem_cons.mp hq with rfl | hq
          · have := hb.2.1; omega
          · exact d q hq hb
        · rintro ⟨a, b, d⟩
          have b' := b m rfl
          rcases List.mem_cons.mp a with rfl | a
          · exact absurd b' c
          · exact ⟨a, b, fun q hq => d q (by simp [hq])⟩
theorem least_sub : ∀ (l : List Pr) (m : Option Int), List.Sublist (leastGo l m) l
  | [], m => by cases m <;> exact .slnil
  | x :: r, none => (least_sub r (some x.2)).cons₂ x
  | x :: r, some m => by
    unfold leastGo
    split
    · exact (least_sub r (some x.2)).cons₂ x
    · exact (least_sub r (some m)).cons x
theorem least_nodup : ∀ (l : List Pr) (m : Option Int), (leastGo l m).Nodup ∧ ∀ p ∈ leastGo l m, below m p
  | [], m => by cases m <;> exact ⟨by simp [leastGo], by simp [leastGo]⟩
  | x :: r, none => by
    obtain ⟨h1, h2⟩ := least_nodup r (some x.2)
    refine ⟨List.nodup_cons.mpr ⟨fun h => absurd (h2 x h x.2 rfl) (Int.lt_irrefl _), h1⟩, fun p _ k hk => by cases hk⟩
  | x :: r, some m => by
    unfold leastGo
    split
    · next c =>
      obtain ⟨h1, h2⟩ := least_nodup r (some x.2)
      refine ⟨List.nodup_cons.mpr ⟨fun h => absurd (h2 x h x.2 rfl) (Int.lt_irrefl _), h1⟩, fun p hp k hk => ?_⟩
      cases hk
      rcases List.mem_cons.mp hp with rfl | hp
      · exact c
      · exact Int.lt_trans (h2 p hp x.2 rfl) c
    · exact least_nodup r (some m)
def leastF (l : List Pr) : List Pr := leastGo (srtF prL l) none
theorem leastF_mem {l : List Pr} (p : Pr) : p ∈ leastF l ↔ p ∈ l ∧ ∀ q ∈ l, ¬ beat p q := by
  have srt := (srtF_sorted prL prL_len l).imp fun h => leF_pr.mp h
  have pm := srtF_perm prL l
  unfold leastF
  rw [least_mem _ _ srt]
  simp only [pm.mem_iff]
  constructor
  · rintro ⟨a, _, b⟩; exact ⟨a, b⟩
  · rintro ⟨a, b⟩
    exact ⟨a, fun k (hk : none = some k) => (by cases hk), b⟩
theorem leastF_sorted (l : List Pr) : (leastF l).Pairwise (leF prL) ∧ (leastF l).Nodup :=
  ⟨(srtF_sorted prL prL_len l).sublist (least_sub _ _), (least_nodup _ _).1⟩
theorem least_ok (l : List Pr) (hz : l.length ≤ 1000) : runF 4 M_least [.lst (l.map pqD)] = .ok (.lst ((leastF l).map pqD)) := by
  have srt : sortedO (.lst (l.map pqD)) = some (.lst ((srtF prL l).map pqD)) := sorted_F prL prL_len (by omega)
  have sl : (srtF prL l).length ≤ 1000 := by rw [(srtF_perm prL l).length_eq]; exact hz
  have key : ∀ (xs : List Pr) (acc : List Pr), acc.length + xs.length ≤ 1000 → forGo (gdTup 2 (gdCons (gdName 2) (gdCons (gdName 3) gdNil))) M_least_l1 [2, 3] (xs.map pqD) [some (.lst (l.map pqD)), some (.lst (acc.map pqD)), none, none] = .nx [some (.lst (l.map pqD)), some (.lst ((acc ++ leastGo xs (acc.getLast?.map (·.2))).map pqD)), none, none] := by
    intro xs
    induction xs with
    | nil => intro acc _; simp [leastGo]
    | cons x xs ih =>
      intro acc hl
      rw [List.length_cons] at hl
      rw [List.map_cons, forGo_cons (e1 := [some (.lst (l.map pqD)), some (.lst (acc.map pqD)), some (.int x.1), some (.int x.2)]) (by simp [pqD])]
      have z : acc.length < sizeLine := lt_size (by omega)
      have app : M_least_l1 [some (.lst (l.map pqD)), some (.lst (acc.map pqD)), some (.int x.1), some (.int x.2)] = .nx [some (.lst (l.map pqD)), some (.lst ((acc ++ [x]).map pqD)), some (.int x.1), some (.int x.2)] →
          leastGo (x :: xs) (acc.getLast?.map (·.2)) = x :: leastGo xs (some x.2) → forK (gdTup 2 (gdCons (gdName 2) (gdCons (gdName 3) gdNil))) M_least_l1 [2, 3] (xs.map pqD) (M_least_l1 [some (.lst (l.map pqD)), some (.lst (acc.map pqD)), some (.int x.1), some (.int x.2)]) = .nx [some (.lst (l.map pqD)), some (.lst ((acc ++ leastGo (x :: xs) (acc.getLast?.map (·.2))).map pqD)), none, none] := fun b e => by
        have h := ih (acc ++ [x]) (by simp; omega)
        rw [b, forK_nx, e, show acc ++ x :: leastGo xs (some x.2) = (acc ++ [x]) ++ leastGo xs (some x.2) by simp]
        simpa using h
      rcases List.eq_nil_or_concat acc with e | ⟨a', q, e⟩
      · subst e
        exact app (by simp [M_least_l1, pqD]) rfl
      · rw [List.concat_eq_append] at e
        subst e
        have el : atI (a'.map pqD ++ [pqD q]) (-1) = some (.tup [.int q.1, .int q.2]) := Dl.atI_last
        have nz : ¬ ((a'.length : Int) + 1 = 0) := by omega
        simp only [List.getLast?_append, List.getLast?_singleton, Option.some_or, Option.map_some] at app ⊢
        by_cases c : x.2 < q.2
        · refine app ?_ ?_
          · have z' : a'.length + 1 < sizeLine := by simpa using z
            have el' : atI (a'.map pqD ++ [D.tup [.int q.1, .int q.2]]) (-1) = some (.tup [.int q.1, .int q.2]) := el
            simp [M_least_l1, el', nz, c, z', pqD]
          · conv => lhs; unfold leastGo
            rw [if_pos c]
        · have b : M_least_l1 [some (.lst (l.map pqD)), some (.lst ((a' ++ [q]).map pqD)), some (.int x.1), some (.int x.2)] = .nx [some (.lst (l.map pqD)), some (.lst ((a' ++ [q]).map pqD)), some (.int x.1), some (.int x.2)] := by
            simp [M_least_l1, el, nz, c]
          have e : leastGo (x :: xs) (some q.2) = leastGo xs (some q.2) := by
            conv => lhs; unfold leastGo
            rw [if_neg c]
          rw [b, forK_nx, e]
          have h := ih (a' ++ [q]) (by omega)
          simp only [List.getLast?_append, List.getLast?_singleton, Option.some_or, Option.map_some] at h
          exact h
  have h := key (srtF prL l) [] (by simp; omega)
  rw [runF_eq]
  simp only [List.map_nil, List.nil_append, List.getLast?_nil, Option.map_none] at h
  unfold leastF
  simp [M_least, dFor, srt, h]
end Lw

/-! Sp13: the states behind an hour. -/
namespace Lw
open PySem PySem.Spec PyProof.Rows L2 Dl
def tL (s : St) : List Int := [s.1, s.2.1, s.2.2.1, s.2.2.2.1, s.2.2.2.2]
theorem tL_len (s : St) : (tL s).length = 4 + 1 := rfl
theorem tL_inj (a b : St) (h : tL a = tL b) : a = b := by
  obtain ⟨a1, a2, a3, a4, a5⟩ := a
  obtain ⟨b1, b2, b3, b4, b5⟩ := b
  simp [tL] at h
  simp [h]
theorem tD_iD (s : St) : iD (tL s) = tD s := rfl
theorem keyEq_t (a b : St) : keyEq (tD a) (tD b) = decide (a = b) := by
  rw [← tD_iD, ← tD_iD, keyEq_iD]
  exact decide_eq_decide.mpr ⟨tL_inj a b, fun h => by rw [h]⟩
def Od.all : List Od := [.up, .level, .down]
theorem whyF_ok (s : Sky) (h : Int) (p : St) (o : Od) : okE 0 (.str (whyF s h p o)) = true := by
  unfold whyF
  split
  · exact standF_ok _ _ _ _ _
  · unfold heldF
    split
    · kernel_rfl
    · split
      · kernel_rfl
      · split
        · kernel_rfl
        · split <;> kernel_rfl
/-- the order may be flown -/
noncomputable def canF (s : Sky) (h : Int) (p : St) (o : Od) : Bool := dec (whyF s h p o = "")
theorem gEq_why (s : Sky) (h : Int) (p : St) (o : Od) : gEq (.str (whyF s h p o)) (.str "") = some (.bl (canF s h p o)) := by
  rw [gEq_E 0 0 (whyF_ok s h p o) (by kernel_rfl) (by decide) (by decide), D.str.injEq]
  rfl
theorem gNe_why (s : Sky) (h : Int) (p : St) (o : Od) : gNe (.str (whyF s h p o)) (.str "") = some (.bl (!canF s h p o)) := by
  rw [gNe_E 0 0 (whyF_ok s h p o) (by kernel_rfl) (by decide) (by decide), D.str.injEq]
  rfl
theorem choices_ok {c0 : DF'} (s : Sky) (hc : ∀ h p o, c0 [skyD s, .int h, tD p, oD o] = .ok (.str (whyF s h p o))) (h : Int) (p : St) : runF 4 (M_choices c0) [skyD s, .int h, tD p] = .ok (.lst ((Od.all.filter (canF s h p)).map oD)) := by
  have c : dComp (dItems (dC ((.ktp [.str ("up" : Str), .str ("level" : Str), .str ("down" : Str)])))) (gdName 3) (dBin gEq (dCall c0 (dCons (dVar 0) (dCons (dVar 1) (dCons (dVar 2) (dCons (dVar 3) dNil))))) (dC (.str ("" : Str)))) (dImm (dVar 3)) [3] [some (skyD s), some (.int h), some (tD p), none] = .ok (.lst ((Od.all.filter (canF s h p)).map oD)) :=
    dComp_filter (h := oD) (enc := oD) (canF s h p) Od.all (by simp [Od.all, oS]) (by decide) fun o _ => ⟨_, rfl, by simp [hc, gEq_why], fun _ => by simp⟩
  rw [runF_eq]
  simp [M_choices, c]
theorem next_ok {c0 c1 : DF'} (s : Sky) (h0 : ∀ h p o, c0 [skyD s, .int h, tD p, oD o] = .ok (tD (ledF s h p o))) (h1 : ∀ h p o, c1 [skyD s, .int h, tD p, oD o] = .ok (.str (whyF s h p o))) (h : Int) (p : St) (o : Od) (c : canF s h p o = true) : runF 5 (M_next_state c0 c1) [skyD s, .int h, tD p, oD o] = .ok (tD (ledF s h p o)) := by
  rw [runF_eq]
  simp [M_next_state, h0, h1, gNe_why, c]
  simp [tD]
/-- where the orders lead from one -/
noncomputable def fromF (s : Sky) (h : Int) (p : St) : List St := (Od.all.filter (canF s h p)).map (ledF s h p)
noncomputable def behindF (s : Sky) (h : Int) (l : List St) : List St := srtF tL ((l.flatMap (fromF s h)).foldl addL [])
theorem behind_ok {c0 c1 : DF'} (s : Sky) (h0 : ∀ h p, c0 [skyD s, .int h, tD p] = .ok (.lst ((Od.all.filter (canF s h p)).map oD))) (h1 : ∀ h p o, canF s h p o = true → c1 [skyD s, .int h, tD p, oD o] = .ok (tD (ledF s h p o))) (h : Int) (l : List St) (hz : l.length ≤ 100000) :
    runF 6 (M_behind c0 c1) [skyD s, .int h, .lst (l.map tD)] = .ok (.lst ((behindF s h l).map tD)) := by
  have lf : ∀ p, (fromF s h p).length ≤ 3 := fun p => by
    unfold fromF
    rw [List.length_map]
    exact List.length_filter_le _ _
  have lfm : ∀ l : List St, (l.flatMap (fromF s h)).length ≤ 3 * l.length := fun l => by
    induction l with
    | nil => exact Nat.le_refl _
    | cons p l ih =>
      rw [List.flatMap_cons, List.length_append, List.length_cons]
      have := lf p
      omega
  obtain ⟨env', e1, e2⟩ := forGo_inv (gd := gdName 4) (body := M_behind_l2 c0 c1) (ks := [4, 5]) (enc := tD)
    (fun pre env => env = [some (skyD s), some (.int h), some (.lst (l.map tD)), some (.dic true (((pre.flatMap (fromF s h)).foldl addL []).map tD) (((pre.flatMap (fromF s h)).foldl addL []).map fun _ => .bl true)), none, none]) l
    (env := [some (skyD s), some (.int h), some (.lst (l.map tD)), some (.dic true [] []), none, none]) rfl fun pre p post env hi ev => by
      subst ev
      have hpl := pre_lt hi
      have hm := lfm pre
      obtain ⟨env', e1, e2⟩ := forGo_inv (gd := gdName 5) (body := M_behind_l1 c0 c1) (ks := [5]) (enc := oD)
        (fun pr env => env = [some (skyD s), some (.int h), some (.lst (l.map tD)), some (.dic true ((((pre.flatMap (fromF s h)) ++ pr.map (ledF s h p)).foldl addL []).map tD) ((((pre.flatMap (fromF s h)) ++ pr.map (ledF s h p)).foldl addL []).map fun _ => .bl true)), some (tD p), none]) (Od.all.filter (canF s h p))
        (env := [some (skyD s), some (.int h), some (.lst (l.map tD)), some (.dic true (((pre.flatMap (fromF s h)).foldl addL []).map tD) (((pre.flatMap (fromF s h)).foldl addL []).map fun _ => .bl true)), some (tD p), none]) (by simp) fun pr o po env hi2 ev => by
          subst ev
          have co : canF s h p o = true := (List.mem_filter.mp (pre_mem hi2)).2
          have hpr : pr.length ≤ 3 := by
            have := pre_lt hi2
            have h3 : (Od.all.filter (canF s h p)).length ≤ 3 := List.length_filter_le _ _
            omega
          have hl : (((pre.flatMap (fromF s h)) ++ pr.map (ledF s h p)).foldl addL []).length ≤ 1000000 := by
            have := len_addAll (xs := (pre.flatMap (fromF s h)) ++ pr.map (ledF s h p)) (L := [])
            simp only [List.length_append, List.length_map, List.length_nil] at this
            omega
          have put := putD_add keyEq_t (((pre.flatMap (fromF s h)) ++ pr.map (ledF s h p)).foldl addL []) (ledF s h p o) (.bl true) (keyFits_iD (tL _)) (lt_size hl)
          refine ⟨_, rfl, [some (skyD s), some (.int h), some (.lst (l.map tD)), some (.dic true ((addL (((pre.flatMap (fromF s h)) ++ pr.map (ledF s h p)).foldl addL []) (ledF s h p o)).map tD) ((addL (((pre.flatMap (fromF s h)) ++ pr.map (ledF s h p)).foldl addL []) (ledF s h p o)).map fun _ => .bl true)), some (tD p), some (oD o)], .inl ?_, ?_⟩
          · generalize ((pre.flatMap (fromF s h)) ++ pr.map (ledF s h p)).foldl addL [] = acc at put
            simp only [M_behind_l1, dSeq_eq, dPut_simp, dCall_eq, dCons_eq, dNil_eq, dVar_eq, dC_eq, bind_ok, List.set_cons_succ, List.set_cons_zero, List.getElem?_cons_succ, List.getElem?_cons_zero, getV_some, h1 h p o co, out_ok, getSel_some, put, putO_some, seqO_nx, dNext_eq]
          · rw [List.map_append, ← List.append_assoc, List.foldl_append]
            simp
      subst e2
      refine ⟨_, rfl, [some (skyD s), some (.int h), some (.lst (l.map tD)), some (.dic true ((((pre.flatMap (fromF s h)) ++ (Od.all.filter (canF s h p)).map (ledF s h p)).foldl addL []).map tD) ((((pre.flatMap (fromF s h)) ++ (Od.all.filter (canF s h p)).map (ledF s h p)).foldl addL []).map fun _ => .bl true)), some (tD p), none], .inl ?_, ?_⟩
      · simp only [M_behind_l2, dSeq_eq, List.set_cons_succ, List.set_cons_zero]
        have src : ∀ e3 e5, (dItems (dCall c0 (dCons (dVar 0) (dCons (dVar 1) (dCons (dVar 4) dNil))))) [some (skyD s), some (.int h), some (.lst (l.map tD)), e3, some (tD p), e5] = .ok ((Od.all.filter (canF s h p)).map oD) := fun e3 e5 => by simp [h0]
        rw [dFor_ok (src _ _), e1]
        simp
      · rw [List.flatMap_append, List.flatMap_cons, List.flatMap_nil, List.append_nil]
        simp [fromF]
  subst e2
  have hl : ((l.flatMap (fromF s h)).foldl addL []).length ≤ 1000000 := by
    have := len_addAll (xs := l.flatMap (fromF s h)) (L := [])
    have := lfm l
    simp only [List.length_nil] at *
    omega
  have srt : sortedO (.lst (((l.flatMap (fromF s h)).foldl addL []).map tD)) = some (.lst ((behindF s h l).map tD)) := sorted_F tL tL_len hl
  rw [runF_eq]
  simp [M_behind, dFor, e1, srt]
end Lw

/-! Sp14: all states reached, all flights. -/
namespace Lw
open PySem PySem.Spec PyProof.Rows L2 Dl
theorem fromF_len (s : Sky) (h : Int) (p : St) : (fromF s h p).length ≤ 3 := by
  unfold fromF
  rw [List.length_map]
  exact List.length_filter_le _ _
theorem flat_len (s : Sky) (h : Int) : ∀ l : List St, (l.flatMap (fromF s h)).length ≤ 3 * l.length
  | [] => Nat.le_refl _
  | p :: l => by
    have ih := flat_len s h l
    have := fromF_len s h p
    rw [List.flatMap_cons, List.length_append, List.length_cons]
    omega
theorem behindF_len (s : Sky) (h : Int) (l : List St) : (behindF s h l).length ≤ 3 * l.length := by
  unfold behindF
  rw [(srtF_perm tL _).length_eq]
  have := len_addAll (xs := l.flatMap (fromF s h)) (L := [])
  have := flat_len s h l
  simp only [List.length_nil] at *
  omega
theorem behindF_mem (s : Sky) (h : Int) (l : List St) (q : St) : q ∈ behindF s h l ↔ ∃ p ∈ l, q ∈ fromF s h p := by
  unfold behindF
  rw [(srtF_perm tL _).mem_iff, mem_addAll]
  simp
theorem behindF_sorted (s : Sky) (h : Int) (l : List St) : (behindF s h l).Pairwise (leF tL) ∧ (behindF s h l).Nodup :=
  ⟨srtF_sorted tL tL_len _, (srtF_perm tL _).nodup_iff.mpr (nodup_addAll (by simp))⟩
noncomputable def statesF (s : Sky) (h : Int) (p : St) : Nat → List St
  | 0 => [p]
  | n + 1 => behindF s (h + n) (statesF s h p n)
theorem statesF_len (s : Sky) (h : Int) (p : St) : ∀ n, (statesF s h p n).length ≤ 3 ^ n
  | 0 => Nat.le_refl _
  | n + 1 => by
    have ih := statesF_len s h p n
    have := behindF_len s (h + n) (statesF s h p n)
    show (behindF s (h + n) (statesF s h p n)).length ≤ 3 ^ (n + 1)
    rw [Nat.pow_succ]
    omega
theorem pow3 {n : Nat} (h : n ≤ 8) : 3 ^ n ≤ 6561 := by
  have : 3 ^ n ≤ 3 ^ 8 := Nat.pow_le_pow_right (by decide) h
  exact this
theorem states_ok {c0 : DF'} (s : Sky) (hc : ∀ (h : Int) (l : List St), l.length ≤ 100000 → c0 [skyD s, .int h, .lst (l.map tD)] = .ok (.lst ((behindF s h l).map tD))) (h : Int) (p : St) (n : Nat) (hn : n ≤ 8) : runF 6 (M_states c0) [skyD s, .int h, tD p, .int (n : Int)] = .ok (.lst ((statesF s h p n).map tD)) := by
  obtain ⟨env', e1, e2⟩ := forGo_inv (gd := gdName 5) (body := M_states_l1 c0) (ks := [5]) (enc := fun (i : Nat) => D.int (i : Int))
    (fun pre env => env = [some (skyD s), some (.int h), some (tD p), some (.int (n : Int)), some (.lst ((statesF s h p pre.length).map tD)), none]) (List.range n)
    (env := [some (skyD s), some (.int h), some (tD p), some (.int (n : Int)), some (.lst [tD p]), none]) rfl fun pre k post env hi ev => by
      subst ev
      obtain ⟨rfl, hk⟩ := pre_range hi
      have hl := Nat.le_trans (statesF_len s h p pre.length) (pow3 (by omega))
      have b := hc (h + pre.length) (statesF s h p pre.length) (by omega)
      refine ⟨_, rfl, _, .inl (by simp [M_states_l1, b]; rfl), ?_⟩
      rw [List.length_append]
      show _ = [_, _, _, _, some (D.lst ((behindF s (h + pre.length) (statesF s h p pre.length)).map tD)), _]
      simp
  subst e2
  rw [List.length_range] at e1
  have im : imm (tD p) = true := rfl
  rw [runF_eq]
  simp [M_states, dFor, rng_nat (show n < 2 ^ 62 by omega), e1, im]
/-! ### flights -/
abbrev Fl := List Od × St
def flD (r : Fl) : D := .tup [.tup (r.1.map oD), tD r.2]
noncomputable def goF (s : Sky) (h : Int) (r : Fl) : List Fl := (Od.all.filter (canF s h r.2)).map fun o => (r.1 ++ [o], ledF s h r.2 o)
noncomputable def flightsF (s : Sky) (h : Int) (p : St) : Nat → List Fl
  | 0 => [([], p)]
  | n + 1 => (flightsF s h p n).flatMap (goF s (h + n))
theorem goF_len (s : Sky) (h : Int) (r : Fl) : (goF s h r).length ≤ 3 := by
  unfold goF
  rw [List.length_map]
  exact List.length_filter_le _ _
theorem flat_goF (s : Sky) (h : Int) : ∀ l : List Fl, (l.flatMap (goF s h)).length ≤ 3 * l.length
  | [] => Nat.le_refl _
  | p :: l => by
    have ih := flat_goF s h l
    have := goF_len s h p
    rw [List.flatMap_cons, List.length_append, List.length_cons]
    omega
theorem flightsF_len (s : Sky) (h : Int) (p : St) : ∀ n, (flightsF s h p n).length ≤ 3 ^ n
  | 0 => Nat.le_refl _
  | n + 1 => by
    have ih := flightsF_len s h p n
    have := flat_goF s (h + n) (flightsF s h p n)
    show ((flightsF s h p n).flatMap (goF s (h + n))).length ≤ 3 ^ (n + 1)
    rw [Nat.pow_succ]
    omega
theorem mem_goF {s : Sky} {h : Int} {r : Fl} {q : St} : (∃ r' ∈ goF s h r, r'.2 = q) ↔ q ∈ fromF s h r.2 := by
  unfold goF fromF
  constructor
  · rintro ⟨r', h1, rfl⟩
    obtain ⟨o, ho, rfl⟩ := List.mem_map.mp h1
    exact List.mem_map.mpr ⟨o, ho, rfl⟩
  · intro h1
    obtain ⟨o, ho, rfl⟩ := List.mem_map.mp h1
    exact ⟨_, List.mem_map.mpr ⟨o, ho, rfl⟩, rfl⟩
/-- the states of all flights are those that are reached -/
theorem flights_states (s : Sky) (h : Int) (p : St) : ∀ (n : Nat) (q : St), (∃ r ∈ flightsF s h p n, r.2 = q) ↔ q ∈ statesF s h p n
  | 0, q => by simp [flightsF, statesF, eq_comm]
  | n + 1, q => by
    have ih := flights_states s h p n
    show (∃ r ∈ (flightsF s h p n).flatMap (goF s (h + n)), r.2 = q) ↔ q ∈ behindF s (h + n) (statesF s h p n)
    rw [behindF_mem]
    constructor
    · rintro ⟨r, h1, h2⟩
      obtain ⟨r0, h3, h4⟩ := List.mem_flatMap.mp h1
      exact ⟨r0.2, (ih r0.2).mp ⟨r0, h3, rfl⟩, mem_goF.mp ⟨r, h4, h2⟩⟩
    · rintro ⟨p0, h1, h2⟩
      obtain ⟨r0, h3, rfl⟩ := (ih p0).mpr h1
      obtain ⟨r, h4, h5⟩ := mem_goF.mpr h2
      exact ⟨r, List.mem_flatMap.mpr ⟨r0, h3, h4⟩, h5⟩
end Lw

/-! Sp15: flights, as the law goes through them. -/
namespace Lw
open PySem PySem.Spec PyProof.Rows L2 Dl
theorem can_up {s : Sky} {h : Int} {p : St} {o : Od} (c : canF s h p o = true) (hz : 0 ≤ p.2.2.1) : 0 ≤ p.2.2.1 + o.dz := by
  have n4 : ¬ (("low" : Str) = "") := by decide +kernel
  have n2 : ¬ (("puffs" : Str) = "") := by decide +kernel
  unfold canF at c
  rw [dec_iff] at c
  cases o with
  | up => show 0 ≤ p.2.2.1 + 1; omega
  | level => show 0 ≤ p.2.2.1 + 0; omega
  | down =>
    show 0 ≤ p.2.2.1 + -1
    by_cases e : p.2.2.1 = 0
    · exfalso
      by_cases e2 : p.2.2.2.2 = 0
      · have hh : heldF p .down = "puffs" := by simp [heldF, Od.isUp, Od.isDown, e2]
        unfold whyF at c
        rw [hh, if_neg n2] at c
        exact n2 c
      · have hh : heldF p .down = "low" := by simp [heldF, Od.isUp, Od.isDown, e2, e]
        unfold whyF at c
        rw [hh, if_neg n4] at c
        exact n4 c
    · omega
theorem led_z {s : Sky} {h : Int} {p : St} {o : Od} (h0 : 0 ≤ p.2.2.1 + o.dz) : 0 ≤ (ledF s h p o).2.2.1 := by
  show 0 ≤ zF s h (p.2.2.1 + o.dz)
  unfold zF
  split <;> omega
theorem flights_z (s : Sky) (h : Int) (p : St) (hp : 0 ≤ p.2.2.1) : ∀ (n : Nat), ∀ r ∈ flightsF s h p n, 0 ≤ r.2.2.2.1 ∧ r.1.length = n
  | 0, r, hr => by
    rw [List.mem_singleton.mp (show r ∈ [([], p)] from hr)]
    exact ⟨hp, rfl⟩
  | n + 1, r, hr => by
    obtain ⟨r0, h1, h2⟩ := List.mem_flatMap.mp (show r ∈ (flightsF s h p n).flatMap (goF s (h + n)) from hr)
    obtain ⟨hz, hl⟩ := flights_z s h p hp n r0 h1
    obtain ⟨o, ho, rfl⟩ := List.mem_map.mp h2
    have co := (List.mem_filter.mp ho).2
    exact ⟨led_z (can_up co hz), by simp [hl]⟩
theorem flights_ok {c0 c1 : DF'} (s : Sky) (hW : ∀ h p o, 0 ≤ p.2.2.1 → c0 [skyD s, .int h, tD p, oD o] = .ok (.str (whyF s h p o))) (hL : ∀ h p o, 0 ≤ p.2.2.1 + o.dz → c1 [skyD s, .int h, tD p, oD o] = .ok (tD (ledF s h p o))) (h : Int) (p : St) (hp : 0 ≤ p.2.2.1) (n : Nat) (hn : n ≤ 8) :
    runF 10 (M_law_flights c0 c1) [skyD s, .int h, tD p, .int (n : Int)] = .ok (.lst ((flightsF s h p n).map flD)) := by
  obtain ⟨env', e1, e2⟩ := forGo_inv (gd := gdName 5) (body := M_law_flights_l3 c0 c1) (ks := [5, 6, 7, 8, 9]) (enc := fun (i : Nat) => D.int (i : Int))
    (fun pre env => env = [some (skyD s), some (.int h), some (tD p), some (.int (n : Int)), some (.lst ((flightsF s h p pre.length).map flD)), none, none, none, none, none]) (List.range n)
    (env := [some (skyD s), some (.int h), some (tD p), some (.int (n : Int)), some (.lst [flD ([], p)]), none, none, none, none, none]) rfl fun pre k post env hi ev => by
      subst ev
      obtain ⟨rfl, hk⟩ := pre_range hi
      have hl := Nat.le_trans (flightsF_len s h p pre.length) (pow3 (by omega))
      have hz := flights_z s h p hp pre.length
      have hnx : flightsF s h p (pre.length + 1) = (flightsF s h p pre.length).flatMap (goF s (h + pre.length)) := rfl
      generalize flightsF s h p pre.length = rows at hl hz hnx
      have all := flat_goF s (h + pre.length)
      obtain ⟨env', f1, f2⟩ := forGo_inv (gd := gdTup 2 (gdCons (gdName 7) (gdCons (gdName 8) gdNil))) (body := M_law_flights_l2 c0 c1) (ks := [7, 8, 9]) (enc := flD)
        (fun pr env => env = [some (skyD s), some (.int h), some (tD p), some (.int (n : Int)), none, some (.int (pre.length : Int)), some (.lst ((pr.flatMap (goF s (h + pre.length))).map flD)), none, none, none]) rows
        (env := [some (skyD s), some (.int h), some (tD p), some (.int (n : Int)), none, some (.int (pre.length : Int)), some (.lst []), none, none, none]) rfl fun pr r po env hi2 ev => by
          subst ev
          obtain ⟨hz', hlen⟩ := hz r (pre_mem hi2)
          have hpl := pre_lt hi2
          have ha := all pr
          refine ⟨_, by simp [flD]; rfl, ?_⟩
          obtain ⟨env', g1, g2⟩ := forGo_inv (gd := gdName 9) (body := M_law_flights_l1 c0 c1) (ks := [9]) (enc := oD)
            (fun qs env => env = [some (skyD s), some (.int h), some (tD p), some (.int (n : Int)), none, some (.int (pre.length : Int)), some (.lst ((pr.flatMap (goF s (h + pre.length)) ++ (qs.filter (canF s (h + pre.length) r.2)).map fun o => (r.1 ++ [o], ledF s (h + pre.length) r.2 o)).map flD)), some (.tup (r.1.map oD)), some (tD r.2), none]) Od.all
            (env := [some (skyD s), some (.int h), some (tD p), some (.int (n : Int)), none, some (.int (pre.length : Int)), some (.lst ((pr.flatMap (goF s (h + pre.length))).map flD)), some (.tup (r.1.map oD)), some (tD r.2), none]) (by simp) fun qs o qo env hi3 ev => by
              subst ev
              have hq : qs.length ≤ 3 := by have := pre_lt hi3; have : Od.all.length = 3 := rfl; omega
              have hf : (qs.filter (canF s (h + pre.length) r.2)).length ≤ 3 := Nat.le_trans (List.length_filter_le _ _) hq
              generalize hA : pr.flatMap (goF s (h + pre.length)) ++ (qs.filter (canF s (h + pre.length) r.2)).map (fun o => ((r.1 ++ [o], ledF s (h + pre.length) r.2 o) : Fl)) = acc
              have eA : pr.flatMap (goF s (h + pre.length)) ++ ((qs ++ [o]).filter (canF s (h + pre.length) r.2)).map (fun o => ((r.1 ++ [o], ledF s (h + pre.length) r.2 o) : Fl)) = acc ++ ([o].filter (canF s (h + pre.length) r.2)).map (fun o => ((r.1 ++ [o], ledF s (h + pre.length) r.2 o) : Fl)) := by
                rw [List.filter_append, List.map_append, ← List.append_assoc, hA]
              have hacc : acc.length ≤ 100000 := by rw [← hA, List.length_append, List.length_map]; omega
              have z : acc.length < sizeLine := lt_size (by omega)
              have z2 : r.1.length + 1 ≤ sizeLine := le_size (by omega)
              have w := hW (h + pre.length) r.2 o hz'
              have imO : imms (r.1.map oD ++ [oD o]) = true := by
                rw [show r.1.map oD ++ [oD o] = (r.1 ++ [o]).map oD by simp]
                exact imms_map fun _ _ => rfl
              refine ⟨_, rfl, ?_⟩
              by_cases c : canF s (h + pre.length) r.2 o = true
              · have l := hL (h + pre.length) r.2 o (can_up c hz')
                have imT : imm (tD (ledF s (h + pre.length) r.2 o)) = true := rfl
                refine ⟨_, .inl (by simp [M_law_flights_l1, w, gEq_why, c, l, z, z2, imO, imT]; rfl), ?_⟩
                rw [eA]
                simp [c, flD]
              · refine ⟨_, .inl (by simp [M_law_flights_l1, w, gEq_why, c]; rfl), ?_⟩
                rw [eA]
                simp [c]
          subst g2
          simp only [Od.all, List.map_cons, List.map_nil, oD, oS] at g1
          refine ⟨_, .inl (by simp [M_law_flights_l2, dFor, g1]; rfl), ?_⟩
          rw [List.flatMap_append, List.flatMap_cons, List.flatMap_nil, List.append_nil]
          simp [goF, Od.all]
      subst f2
      refine ⟨_, rfl, _, .inl (by simp [M_law_flights_l3, f1]; rfl), ?_⟩
      rw [List.length_append]
      show _ = [_, _, _, _, some (D.lst ((flightsF s h p (pre.length + 1)).map flD)), _, _, _, _, _]
      rw [hnx]
      simp
  subst e2
  rw [List.length_range] at e1
  simp only [flD, List.map_nil] at e1
  have im : imm (tD p) = true := rfl
  rw [runF_eq]
  simp [M_law_flights, dFor, rng_nat (show n < 2 ^ 62 by omega), e1, im, flD]
end Lw

/-! Sp16: a case: a base, an hour, a number of hours, a sky, a state. -/
namespace Lw
open PySem PySem.Spec PyProof.Rows L2 Dl
theorem case_pos {c0 c1 c2 : DF'} {N : Nat} {ns : List Int} (hns : Dr N ns) (hs : ∀ (d : List Int) (x y : Int), Dr 6 d → c0 [.lst (d.map D.int), .tup [.int x, .int y], .int 6] = runF 5 M_law_state [.lst (d.map D.int), .tup [.int x, .int y], .int 6])
    (hk : ∀ (d : List Int) (x y h : Int), Dr 120 d → 0 ≤ h → h ≤ 24 → ∃ s : Sky, SkyOk x y s ∧ c1 [.lst (d.map D.int), .tup [.int x, .int y], .int h] = .ok (skyD s))
    (hb : ∀ d : List Int, c2 [.lst (d.map D.int)] = runF 1 M_law_base [.lst (d.map D.int)]) (hN : 140 ≤ N := by omega) :
    ∃ (x y h : Int) (n : Nat) (s : Sky) (p : St), SkyOk x y s ∧ n ≤ 8 ∧ 0 ≤ h ∧ h + n ≤ 24 ∧ (0 ≤ p.2.2.1 ∧ p.2.2.1 ≤ 5) ∧ (0 ≤ p.2.2.2.1 ∧ 0 ≤ p.2.2.2.2) ∧ runF 7 (M_law_case c0 c1 c2) [.lst (ns.map D.int)] = .ok (.tup [.tup [.int x, .int y], .int h, .int (n : Int), skyD s, tD p]) := by
  obtain ⟨x3, x30, x31, e3⟩ := dr_get hns (i := 3) (by omega) (by omega)
  obtain ⟨x4, x40, x41, e4⟩ := dr_get hns (i := 4) (by omega) (by omega)
  obtain ⟨x5, x50, x51, e5⟩ := dr_get hns (i := 5) (by omega) (by omega)
  obtain ⟨x6, x60, x61, e6⟩ := dr_get hns (i := 6) (by omega) (by omega)
  obtain ⟨x7, x70, x71, e7⟩ := dr_get hns (i := 7) (by omega) (by omega)
  obtain ⟨x9, x90, x91, e9⟩ := dr_get hns (i := 9) (by omega) (by omega)
  obtain ⟨x133, _, _, e133⟩ := dr_get hns (i := 133) (by omega) (by omega)
  obtain ⟨x134, _, _, e134⟩ := dr_get hns (i := 134) (by omega) (by omega)
  obtain ⟨d, hd, ed⟩ := dr_cutI hns (i := 10) (j := 130) 10 130 (by omega) (by omega) (by omega) (by omega)
  obtain ⟨d', hd', ed'⟩ := dr_cutI hns (i := 130) (j := 136) 130 136 (by omega) (by omega) (by omega) (by omega)
  obtain ⟨bx, by', hbx, hby, eb⟩ := base_ok (dr_to hns (b := 3) (by omega))
  rw [← hb] at eb
  obtain ⟨u, v, z, a, b, hu, hv, hz, ha, hb', est⟩ := state_ok (n := 1) hd' bx by' 6 (by omega)
  rw [← hs d' bx by' hd'] at est
  simp only [atI_lit] at e3 e4 e5 e6 e7 e9 e133 e134
  simp only [stD] at est
  simp at eb
  have cut3 : cutD [D.int u, .int v, .int z, .int a, .int b] none (some 3) = [.int u, .int v, .int z] := rfl
  -- what is left to say, at an hour
  have fin : ∀ (n : Int) (l0 l1 : Int), 0 ≤ n → n ≤ 8 → 0 ≤ l0 → 0 ≤ l1 → ∀ h : Int, 0 ≤ h → h + n ≤ 24 → ∃ s : Sky, SkyOk bx by' s ∧ c1 [.lst (d.map D.int), .tup [.int bx, .int by'], .int h] = .ok (skyD s) ∧ gModI (.int x133) (.int (l0 + 1)) = some (.int (x133 % (l0 + 1))) ∧ gModI (.int x134) (.int (l1 + 1)) = some (.int (x134 % (l1 + 1))) := fun n l0 l1 n0 n8 h0 h1 h hh hn => by
    obtain ⟨s, S, es⟩ := hk d bx by' h hd hh (by omega)
    exact ⟨s, S, es, gModI_pos (by omega), gModI_pos (by omega)⟩
  have m24 : ∀ n : Int, n ≤ 8 → gModI (.int x6) (.int (25 - n)) = some (.int (x6 % (25 - n))) ∧ 0 ≤ x6 % (25 - n) ∧ x6 % (25 - n) + n ≤ 24 := fun n hn => ⟨gModI_pos (by omega), Int.emod_nonneg _ (by omega), by have := Int.emod_lt_of_pos x6 (b := 25 - n) (by omega); omega⟩
  obtain ⟨q0, q1, hq0, hq1, eq⟩ : ∃ q0 q1 : Int, 0 ≤ q0 ∧ 0 ≤ q1 ∧ atI [D.tup [.int 1, .int 1], .tup [.int 3, .int 0], .tup [.int 0, .int 3], .tup [.int 2, .int 0]] (x9 % 4) = some (.tup [.int q0, .int q1]) := by
    have : x9 % 4 = 0 ∨ x9 % 4 = 1 ∨ x9 % 4 = 2 ∨ x9 % 4 = 3 := by omega
    rcases this with h | h | h | h <;> rw [h]
    · exact ⟨1, 1, by decide, by decide, rfl⟩
    · exact ⟨3, 0, by decide, by decide, rfl⟩
    · exact ⟨0, 3, by decide, by decide, rfl⟩
    · exact ⟨2, 0, by decide, by decide, rfl⟩
  rw [runF_eq]
  by_cases k1 : x4 % 6 = 1
  · obtain ⟨m1, m2, m3⟩ := m24 5 (by omega)
    simp only [show (25 : Int) - 5 = 20 by decide] at m1 m2 m3
    by_cases k3 : x7 % 5 = 1
    · obtain ⟨s, S, es, g0, g1⟩ := fin 5 6 6 (by omega) (by omega) (by omega) (by omega) 19 (by omega) (by omega)
      exact ⟨bx, by', 19, 5, s, (u, v, z, x133 % 7, x134 % 7), S, by omega, by omega, by omega, hz, ⟨Int.emod_nonneg _ (by omega), Int.emod_nonneg _ (by omega)⟩, by simp [M_law_case, e3, e4, e5, e6, e7, e9, e133, e134, ed, ed', eb, est, es, cut3, tD, -List.getElem?_map, k1, k3, m1]⟩
    · obtain ⟨s, S, es, g0, g1⟩ := fin 5 6 6 (by omega) (by omega) (by omega) (by omega) (x6 % 20) m2 m3
      exact ⟨bx, by', x6 % 20, 5, s, (u, v, z, x133 % 7, x134 % 7), S, by omega, m2, m3, hz, ⟨Int.emod_nonneg _ (by omega), Int.emod_nonneg _ (by omega)⟩, by simp [M_law_case, e3, e4, e5, e6, e7, e9, e133, e134, ed, ed', eb, est, es, cut3, tD, -List.getElem?_map, k1, k3, m1]⟩
  · by_cases k2 : x4 % 6 = 2
    · obtain ⟨m1, m2, m3⟩ := m24 (8 - x5 % 3) (by omega)
      have nn : ((8 - x5 % 3).toNat : Int) = 8 - x5 % 3 := by omega
      by_cases k3 : x7 % 5 = 1
      · obtain ⟨s, S, es, g0, g1⟩ := fin (8 - x5 % 3) q0 q1 (by omega) (by omega) hq0 hq1 (24 - (8 - x5 % 3)) (by omega) (by omega)
        exact ⟨bx, by', 24 - (8 - x5 % 3), (8 - x5 % 3).toNat, s, (u, v, z, x133 % (q0 + 1), x134 % (q1 + 1)), S, by omega, by omega, by omega, hz, ⟨Int.emod_nonneg _ (by omega), Int.emod_nonneg _ (by omega)⟩, by rw [nn]; simp [M_law_case, e3, e4, e5, e6, e7, e9, e133, e134, ed, ed', eb, est, es, cut3, tD, -List.getElem?_map, k1, k2, k3, m1, eq, g0, g1]⟩
      · obtain ⟨s, S, es, g0, g1⟩ := fin (8 - x5 % 3) q0 q1 (by omega) (by omega) hq0 hq1 (x6 % (25 - (8 - x5 % 3))) m2 m3
        exact ⟨bx, by', x6 % (25 - (8 - x5 % 3)), (8 - x5 % 3).toNat, s, (u, v, z, x133 % (q0 + 1), x134 % (q1 + 1)), S, by omega, m2, by omega, hz, ⟨Int.emod_nonneg _ (by omega), Int.emod_nonneg _ (by omega)⟩, by rw [nn]; simp [M_law_case, e3, e4, e5, e6, e7, e9, e133, e134, ed, ed', eb, est, es, cut3, tD, -List.getElem?_map, k1, k2, k3, m1, eq, g0, g1]⟩
    · obtain ⟨m1, m2, m3⟩ := m24 (x3 % 5) (by omega)
      have nn : ((x3 % 5).toNat : Int) = x3 % 5 := by omega
      by_cases k3 : x7 % 5 = 1
      · obtain ⟨s, S, es, g0, g1⟩ := fin (x3 % 5) 6 6 (by omega) (by omega) (by omega) (by omega) (24 - x3 % 5) (by omega) (by omega)
        exact ⟨bx, by', 24 - x3 % 5, (x3 % 5).toNat, s, (u, v, z, x133 % 7, x134 % 7), S, by omega, by omega, by omega, hz, ⟨Int.emod_nonneg _ (by omega), Int.emod_nonneg _ (by omega)⟩, by rw [nn]; simp [M_law_case, e3, e4, e5, e6, e7, e9, e133, e134, ed, ed', eb, est, es, cut3, tD, -List.getElem?_map, k1, k2, k3, m1]⟩
      · obtain ⟨s, S, es, g0, g1⟩ := fin (x3 % 5) 6 6 (by omega) (by omega) (by omega) (by omega) (x6 % (25 - x3 % 5)) m2 m3
        exact ⟨bx, by', x6 % (25 - x3 % 5), (x3 % 5).toNat, s, (u, v, z, x133 % 7, x134 % 7), S, by omega, m2, by omega, hz, ⟨Int.emod_nonneg _ (by omega), Int.emod_nonneg _ (by omega)⟩, by rw [nn]; simp [M_law_case, e3, e4, e5, e6, e7, e9, e133, e134, ed, ed', eb, est, es, cut3, tD, -List.getElem?_map, k1, k2, k3, m1]⟩
theorem case_ok {c0 c1 c2 : DF'} {N : Nat} {ns : List Int} (hns : Dr N ns) (hs : ∀ (d : List Int) (x y : Int), Dr 6 d → c0 [.lst (d.map D.int), .tup [.int x, .int y], .int 6] = runF 5 M_law_state [.lst (d.map D.int), .tup [.int x, .int y], .int 6])
    (hk : ∀ (d : List Int) (x y h : Int), Dr 120 d → 0 ≤ h → h ≤ 24 → ∃ s : Sky, SkyOk x y s ∧ c1 [.lst (d.map D.int), .tup [.int x, .int y], .int h] = .ok (skyD s))
    (hb : ∀ d : List Int, c2 [.lst (d.map D.int)] = runF 1 M_law_base [.lst (d.map D.int)]) (hN : 140 ≤ N := by omega) :
    ∃ (x y h : Int) (n : Nat) (s : Sky) (p : St), SkyOk x y s ∧ n ≤ 8 ∧ 0 ≤ h ∧ h + n ≤ 24 ∧ (0 ≤ p.2.2.1 ∧ p.2.2.1 ≤ 5) ∧ runF 7 (M_law_case c0 c1 c2) [.lst (ns.map D.int)] = .ok (.tup [.tup [.int x, .int y], .int h, .int (n : Int), skyD s, tD p]) :=
  let ⟨x, y, h, n, s, p, a, b, c, d, e, _, g⟩ := case_pos hns hs hk hb hN
  ⟨x, y, h, n, s, p, a, b, c, d, e, g⟩
end Lw

/-! Sp17: rows of orders flown. -/
namespace Lw
open PySem PySem.Spec PyProof.Rows L2 Dl
/-- the states behind each order -/
def stepsF (s : Sky) (h : Int) (p : St) : List Od → List St
  | [] => []
  | o :: os => ledF s h p o :: stepsF s (h + 1) (ledF s h p o) os
def endF (s : Sky) (h : Int) (p : St) : List Od → St
  | [] => p
  | o :: os => endF s (h + 1) (ledF s h p o) os
noncomputable def goodF (s : Sky) (h : Int) (p : St) : List Od → Bool
  | [] => true
  | o :: os => canF s h p o && goodF s (h + 1) (ledF s h p o) os
def trailF (s : Sky) (h : Int) (p : St) (os : List Od) : List St := p :: stepsF s h p os
theorem hour_add (h : Int) (n : Nat) : h + 1 + (n : Int) = h + ((n + 1 : Nat) : Int) := by omega
theorem endF_snoc (s : Sky) (o : Od) : ∀ (os : List Od) (h : Int) (p : St), endF s h p (os ++ [o]) = ledF s (h + os.length) (endF s h p os) o
  | [], h, p => by show ledF s h p o = ledF s (h + (0 : Nat)) p o; rw [show h + ((0 : Nat) : Int) = h by omega]
  | q :: os, h, p => by
    show endF s (h + 1) (ledF s h p q) (os ++ [o]) = _
    rw [endF_snoc s o os, hour_add]
    rfl
theorem stepsF_snoc (s : Sky) (o : Od) : ∀ (os : List Od) (h : Int) (p : St), stepsF s h p (os ++ [o]) = stepsF s h p os ++ [ledF s (h + os.length) (endF s h p os) o]
  | [], h, p => by show [ledF s h p o] = [ledF s (h + (0 : Nat)) p o]; rw [show h + ((0 : Nat) : Int) = h by omega]
  | q :: os, h, p => by
    show ledF s h p q :: stepsF s (h + 1) (ledF s h p q) (os ++ [o]) = _
    rw [stepsF_snoc s o os, hour_add]
    rfl
theorem goodF_snoc (s : Sky) (o : Od) : ∀ (os : List Od) (h : Int) (p : St), goodF s h p (os ++ [o]) = (goodF s h p os && canF s (h + os.length) (endF s h p os) o)
  | [], h, p => by
    show (canF s h p o && true) = (true && canF s (h + (0 : Nat)) p o)
    rw [show h + ((0 : Nat) : Int) = h by omega, Bool.and_true, Bool.true_and]
  | q :: os, h, p => by
    show (canF s h p q && goodF s (h + 1) (ledF s h p q) (os ++ [o])) = ((canF s h p q && goodF s (h + 1) (ledF s h p q) os) && _)
    rw [goodF_snoc s o os, hour_add, Bool.and_assoc]
    rfl
theorem goodF_pre {s : Sky} : ∀ (a b : List Od) (h : Int) (p : St), goodF s h p (a ++ b) = true → goodF s h p a = true
  | [], _, _, _, _ => rfl
  | q :: a, b, h, p, hh => by
    have hh : (canF s h p q && goodF s (h + 1) (ledF s h p q) (a ++ b)) = true := hh
    rw [Bool.and_eq_true] at hh
    show (canF s h p q && goodF s (h + 1) (ledF s h p q) a) = true
    rw [hh.1, goodF_pre a b _ _ hh.2]
    rfl
theorem trailF_snoc (s : Sky) (h : Int) (p : St) (os : List Od) (o : Od) : trailF s h p (os ++ [o]) = trailF s h p os ++ [ledF s (h + os.length) (endF s h p os) o] := by
  unfold trailF
  rw [stepsF_snoc]
  rfl
theorem stepsF_len (s : Sky) : ∀ (os : List Od) (h : Int) (p : St), (stepsF s h p os).length = os.length
  | [], _, _ => rfl
  | o :: os, h, p => by
    show (stepsF s (h + 1) (ledF s h p o) os).length + 1 = os.length + 1
    rw [stepsF_len s os]
theorem trailF_len (s : Sky) (h : Int) (p : St) (os : List Od) : (trailF s h p os).length = os.length + 1 := by
  unfold trailF
  rw [List.length_cons, stepsF_len]
theorem trailF_last (s : Sky) : ∀ (os : List Od) (h : Int) (p : St), (trailF s h p os).getLast? = some (endF s h p os)
  | [], _, _ => rfl
  | o :: os, h, p => by
    show (p :: trailF s (h + 1) (ledF s h p o) os).getLast? = _
    rw [List.getLast?_cons, trailF_last s os]
    rfl
theorem trail_at (s : Sky) (h : Int) (p : St) (os : List Od) : atI ((trailF s h p os).map tD) (-1) = some (tD (endF s h p os)) := by
  rw [atI_lastL, List.getLast?_map, trailF_last]
  rfl
theorem endF_z {s : Sky} : ∀ (os : List Od) (h : Int) (p : St), 0 ≤ p.2.2.1 → goodF s h p os = true → 0 ≤ (endF s h p os).2.2.1
  | [], _, _, hz, _ => hz
  | o :: os, h, p, hz, hg => by
    have hg : (canF s h p o && goodF s (h + 1) (ledF s h p o) os) = true := hg
    rw [Bool.and_eq_true] at hg
    exact endF_z os (h + 1) _ (led_z (can_up hg.1 hz)) hg.2
theorem whyF_len (s : Sky) (h : Int) (p : St) (o : Od) : (whyF s h p o).length ≤ 1000 := by
  have k : ∀ x : Str, x = "hill" ∨ x = "shut" ∨ x = "" ∨ x = "sacks" ∨ x = "puffs" ∨ x = "high" ∨ x = "low" → x.length ≤ 1000 := by
    rintro x (rfl | rfl | rfl | rfl | rfl | rfl | rfl) <;> decide
  apply k
  unfold whyF
  split
  · unfold standF
    split
    · simp
    · split <;> simp
  · unfold heldF
    repeat' split
    all_goals simp
/-! ### flown -/
def enF (s : Sky) (h : Int) (p : St) (all : List Od) (os : List Od) : DEnv := [some (skyD s), some (.int h), some (tD p), some (.tup (all.map oD)), some (.lst ((trailF s h p os).map tD)), none, none, none]
abbrev stopX (n : Nat) (w : Str) : Fields := [("at", .int (n : Int)), ("why", .str w)]
section
variable {c0 c1 : DF'} (s : Sky) (h0 : ∀ h p o, c0 [skyD s, .int h, tD p, oD o] = .ok (tD (ledF s h p o))) (h1 : ∀ h p o, c1 [skyD s, .int h, tD p, oD o] = .ok (.str (whyF s h p o))) (h : Int) (p : St)
include h0 h1
theorem flown_turn (all os : List Od) (o : Od) (hl : os.length ≤ 900) : M_flown_l1 c0 c1 (((enF s h p all os).set 5 (some (.int (os.length : Int)))).set 6 (some (oD o))) =
    if canF s (h + os.length) (endF s h p os) o = true then .nx ((((enF s h p all (os ++ [o])).set 5 (some (.int (os.length : Int)))).set 6 (some (oD o))).set 7 (some (.str (whyF s (h + os.length) (endF s h p os) o))))
    else .exc "Stopped" (stopX os.length (whyF s (h + os.length) (endF s h p os) o)) ((((enF s h p all os).set 5 (some (.int (os.length : Int)))).set 6 (some (oD o))).set 7 (some (.str (whyF s (h + os.length) (endF s h p os) o)))) := by
  have ta := trail_at s h p os
  have l0 := h0 (h + os.length) (endF s h p os) o
  have l1 := h1 (h + os.length) (endF s h p os) o
  have ne := gNe_why s (h + os.length) (endF s h p os) o
  have sm : smallD (.int (os.length : Int)) = true := smallD_int (by omega) (by omega)
  have sw : smallD (.str (whyF s (h + os.length) (endF s h p os) o)) = true := smallD_str (whyF_len _ _ _ _)
  have z : (trailF s h p os).length < sizeLine := lt_size (by rw [trailF_len]; omega)
  unfold enF
  rw [trailF_snoc]
  by_cases c : canF s (h + os.length) (endF s h p os) o = true
  · simp [M_flown_l1, ta, l0, l1, ne, c, z]
  · simp [M_flown_l1, ta, l0, l1, ne, c, sm, sw, z]
theorem flown_good (all : List Od) : ∀ (os done : List Od), goodF s h p (done ++ os) = true → (done ++ os).length ≤ 900 → forGo (gdTup 2 (gdCons (gdName 5) (gdCons (gdName 6) gdNil))) (M_flown_l1 c0 c1) [5, 6, 7] (enumD done.length (os.map oD)) (enF s h p all done) = .nx (enF s h p all (done ++ os))
  | [], done, _, _ => by rw [List.append_nil]; rfl
  | o :: os, done, hg, hl => by
    have e1 : done ++ o :: os = (done ++ [o]) ++ os := by simp
    have hg2 : goodF s h p (done ++ [o]) = true := by
      rw [e1] at hg
      exact goodF_pre _ _ _ _ hg
    have c : canF s (h + done.length) (endF s h p done) o = true := by
      rw [goodF_snoc, Bool.and_eq_true] at hg2
      exact hg2.2
    have e2 : enumD done.length ((o :: os).map oD) = .tup [.int (done.length : Int), oD o] :: enumD (done.length + 1) (os.map oD) := rfl
    have t := flown_turn s h0 h1 h p all done o (by simp at hl; omega)
    rw [if_pos c] at t
    have ih := flown_good all os (done ++ [o]) (by rw [← e1]; exact hg) (by rw [← e1]; exact hl)
    rw [e2, forGo_cons (e1 := ((enF s h p all done).set 5 (some (.int (done.length : Int)))).set 6 (some (oD o))) (by simp [enF]), t, forK_nx]
    have e3 : (done ++ [o]).length = done.length + 1 := by simp
    rw [e3] at ih
    rw [e1, ← ih]
    congr 1
theorem flown_stop (all : List Od) (o : Od) (post : List Od) : ∀ (pre done : List Od), goodF s h p (done ++ pre) = true → canF s (h + (done ++ pre).length) (endF s h p (done ++ pre)) o = false → (done ++ pre).length ≤ 900 →
    ∃ e, forGo (gdTup 2 (gdCons (gdName 5) (gdCons (gdName 6) gdNil))) (M_flown_l1 c0 c1) [5, 6, 7] (enumD done.length ((pre ++ o :: post).map oD)) (enF s h p all done) = .exc "Stopped" (stopX (done ++ pre).length (whyF s (h + (done ++ pre).length) (endF s h p (done ++ pre)) o)) e
  | [], done, hg, hc, hl => by
    rw [List.append_nil] at hg hc hl ⊢
    have e2 : enumD done.length (([] ++ o :: post).map oD) = .tup [.int (done.length : Int), oD o] :: enumD (done.length + 1) (post.map oD) := rfl
    have t := flown_turn s h0 h1 h p all done o hl
    rw [if_neg (by rw [hc]; exact Bool.false_ne_true)] at t
    refine ⟨((((enF s h p all done).set 5 (some (.int (done.length : Int)))).set 6 (some (oD o))).set 7 (some (.str (whyF s (h + done.length) (endF s h p done) o)))), ?_⟩
    rw [e2, forGo_cons (e1 := ((enF s h p all done).set 5 (some (.int (done.length : Int)))).set 6 (some (oD o))) (by simp [enF]), t]
    rfl
  | q :: pre, done, hg, hc, hl => by
    have e1 : done ++ q :: pre = (done ++ [q]) ++ pre := by simp
    rw [e1] at hg hc hl ⊢
    have hg2 : goodF s h p (done ++ [q]) = true := by
      exact goodF_pre _ _ _ _ hg
    have c : canF s (h + done.length) (endF s h p done) q = true := by
      rw [goodF_snoc, Bool.and_eq_true] at hg2
      exact hg2.2
    have e2 : enumD done.length (((q :: pre) ++ o :: post).map oD) = .tup [.int (done.length : Int), oD q] :: enumD (done.length + 1) ((pre ++ o :: post).map oD) := rfl
    have t := flown_turn s h0 h1 h p all done q (by simp at hl; omega)
    rw [if_pos c] at t
    obtain ⟨e, ih⟩ := flown_stop all o post pre (done ++ [q]) hg hc hl
    refine ⟨e, ?_⟩
    rw [e2, forGo_cons (e1 := ((enF s h p all done).set 5 (some (.int (done.length : Int)))).set 6 (some (oD q))) (by simp [enF]), t, forK_nx]
    have e3 : (done ++ [q]).length = done.length + 1 := by simp
    rw [e3] at ih
    rw [← ih]
    congr 1
theorem flown_ok (os : List Od) (hg : goodF s h p os = true) (hl : os.length ≤ 900) : runF 8 (M_flown c0 c1) [skyD s, .int h, tD p, .tup (os.map oD)] = .ok (.lst ((trailF s h p os).map tD)) := by
  have g := flown_good s h0 h1 h p os os [] hg hl
  simp only [List.length_nil, List.nil_append] at g
  have im : imm (tD p) = true := rfl
  rw [runF_eq]
  simp [enF, trailF, stepsF] at g
  simp [M_flown, dFor, im, g, trailF]
theorem flown_out (pre : List Od) (o : Od) (post : List Od) (hg : goodF s h p pre = true) (hc : canF s (h + pre.length) (endF s h p pre) o = false) (hl : pre.length ≤ 900) :
    runF 8 (M_flown c0 c1) [skyD s, .int h, tD p, .tup ((pre ++ o :: post).map oD)] = .exc "Stopped" (stopX pre.length (whyF s (h + pre.length) (endF s h p pre) o)) := by
  obtain ⟨e, g⟩ := flown_stop s h0 h1 h p (pre ++ o :: post) o post pre [] hg hc hl
  simp only [List.length_nil, List.nil_append] at g
  have im : imm (tD p) = true := rfl
  rw [runF_eq]
  simp [enF, trailF, stepsF] at g
  simp [M_flown, dFor, im, g]
end
/-! ### what the law makes of an end -/
theorem answer_ok {c0 : DF'} {as ds : List D} (h : c0 as = .ok (.lst ds)) (h4 : as.length = 4) : runF 6 (M_law_answer_2 c0) as = .ok (.lst ds) := by
  obtain ⟨a, b, c, d, rfl⟩ : ∃ a b c d, as = [a, b, c, d] := by
    match as, h4 with
    | [a, b, c, d], _ => exact ⟨a, b, c, d, rfl⟩
  rw [runF_eq]
  simp [M_law_answer_2, h]
theorem answer_out {c0 : DF'} {as : List D} {n : Nat} {w : Str} (h : c0 as = .exc "Stopped" (stopX n w)) (h4 : as.length = 4) : runF 6 (M_law_answer_2 c0) as = .ok (.tup [.int (n : Int), .str w]) := by
  obtain ⟨a, b, c, d, rfl⟩ : ∃ a b c d, as = [a, b, c, d] := by
    match as, h4 with
    | [a, b, c, d], _ => exact ⟨a, b, c, d, rfl⟩
  have pk : (pickF (stopX n w) [("at" : Str), ("why" : Str)]).bind (mkF true) = some (.tup [.int (n : Int), .str w]) := by
    have : (2 : Nat) ≤ sizeLine := by decide
    have n1 : ("at" : Str) ≠ "why" := by decide
    simp [pickF, mkF, this, n1]
  rw [runF_eq]
  simp [M_law_answer_2, h, tryO_exc, pk]
end Lw

/-! Sp18: what is still possible. -/
namespace Lw
open PySem PySem.Spec PyProof.Rows L2 Dl
theorem lookD_add {α : Type} [DecidableEq α] {e : α → D} (he : ∀ a b, keyEq (e a) (e b) = decide (a = b)) (w : D) (x : α) : ∀ L : List α, lookD (L.map e) (L.map fun _ => w) (e x) = if x ∈ L then some w else none
  | [] => rfl
  | a :: L => by
    show (if keyEq (e a) (e x) then some w else lookD (L.map e) (L.map fun _ => w) (e x)) = _
    rw [he, lookD_add he w x L]
    by_cases h : a = x
    · subst h
      simp
    · simp [h, Ne.symm h]
theorem gIn_add {α : Type} [DecidableEq α] {e : α → D} (he : ∀ a b, keyEq (e a) (e b) = decide (a = b)) (w : D) (x : α) (hk : keyFits true (e x) = true) (L : List α) : gIn (e x) (.dic true (L.map e) (L.map fun _ => w)) = some (.bl (decide (x ∈ L))) := by
  show inDic (e x) true (L.map e) (L.map fun _ => w) = _
  unfold inDic
  rw [if_pos hk, lookD_add he]
  by_cases h : x ∈ L <;> simp [h]
theorem gNotIn_of {x y : D} {b : Bool} (h : gIn x y = some (.bl b)) : gNotIn x y = some (.bl (!b)) := by
  unfold gNotIn
  rw [h]
theorem gIn_row (q : St) (r : List St) : gIn (tD q) (.lst (r.map tD)) = some (.bl (decide (q ∈ r))) := by
  have e : dec (tD q ∈ r.map tD) = decide (q ∈ r) := by
    unfold dec
    refine decide_eq_decide.mpr ⟨fun h => ?_, fun h => List.mem_map.mpr ⟨q, h, rfl⟩⟩
    obtain ⟨p, hp, e⟩ := List.mem_map.mp h
    have : p = q := by
      obtain ⟨a, b, c, d, f⟩ := p
      obtain ⟨a', b', c', d', f'⟩ := q
      simp [tD] at e
      simp [e]
    rw [← this]
    exact hp
  rw [gIn_E 1 2 rfl (by
    show (r.map tD).all (okE 1) = true
    rw [List.all_map, List.all_eq_true]
    exact fun _ _ => rfl) (by decide) (by decide), e]
theorem putD_at (l : List D) (n : Nat) (w : D) (h : n < l.length) : putD (.lst l) (.int (n : Int)) w = some (.lst (l.set n w)) := by
  have : ixN l.length (n : Int) = some n := by
    unfold ixN
    rw [if_pos (by omega), if_pos (by omega)]
    simp
  show (ixN l.length (n : Int)).map (fun n => D.lst (l.set n w)) = _
  rw [this]
  rfl
theorem next_ok2 {c0 c1 : DF'} (s : Sky) (h0 : ∀ h p o, c0 [skyD s, .int h, tD p, oD o] = .ok (tD (ledF s h p o))) (h1 : ∀ h p o, c1 [skyD s, .int h, tD p, oD o] = .ok (.str (whyF s h p o))) (h : Int) (p : St) (o : Od) (c : canF s h p o = true) : runF 5 (M_next_state_2 c0 c1) [skyD s, .int h, tD p, oD o] = .ok (tD (ledF s h p o)) := by
  rw [runF_eq]
  simp [M_next_state_2, h0, h1, gNe_why, c]
  simp [tD]
/-! ### the law's own next states -/
theorem law_next_ok {c0 c1 : DF'} (s : Sky) (h0 : ∀ h p o, 0 ≤ p.2.2.1 → c0 [skyD s, .int h, tD p, oD o] = .ok (.str (whyF s h p o))) (h1 : ∀ h p o, 0 ≤ p.2.2.1 + o.dz → c1 [skyD s, .int h, tD p, oD o] = .ok (tD (ledF s h p o))) (h : Int) (l : List St) (hp0 : ∀ p ∈ l, 0 ≤ p.2.2.1) (hz : l.length ≤ 100000) :
    runF 6 (M_law_next c0 c1) [skyD s, .int h, .lst (l.map tD)] = .ok (.lst ((behindF s h l).map tD)) := by
  have lfm := flat_len s h
  have s3 : (3 : Nat) ≤ sizeLine := by decide
  obtain ⟨env', e1, e2⟩ := forGo_inv (gd := gdName 4) (body := M_law_next_l2 c0 c1) (ks := [4, 5]) (enc := tD)
    (fun pre env => env = [some (skyD s), some (.int h), some (.lst (l.map tD)), some (.dic true (((pre.flatMap (fromF s h)).foldl addL []).map tD) (((pre.flatMap (fromF s h)).foldl addL []).map fun _ => .bl true)), none, none]) l
    (env := [some (skyD s), some (.int h), some (.lst (l.map tD)), some (.dic true [] []), none, none]) rfl fun pre p post env hi ev => by
      subst ev
      have hpl := pre_lt hi
      have hm := lfm pre
      have pz := hp0 p (pre_mem hi)
      obtain ⟨env', e1, e2⟩ := forGo_inv (gd := gdName 5) (body := M_law_next_l1 c0 c1) (ks := [5]) (enc := oD)
        (fun pr env => env = [some (skyD s), some (.int h), some (.lst (l.map tD)), some (.dic true ((((pre.flatMap (fromF s h)) ++ (pr.filter (canF s h p)).map (ledF s h p)).foldl addL []).map tD) ((((pre.flatMap (fromF s h)) ++ (pr.filter (canF s h p)).map (ledF s h p)).foldl addL []).map fun _ => .bl true)), some (tD p), none]) Od.all
        (env := [some (skyD s), some (.int h), some (.lst (l.map tD)), some (.dic true (((pre.flatMap (fromF s h)).foldl addL []).map tD) (((pre.flatMap (fromF s h)).foldl addL []).map fun _ => .bl true)), some (tD p), none]) (by simp) fun pr o po env hi2 ev => by
          subst ev
          have hpr : (pr.filter (canF s h p)).length ≤ 3 := by
            have := pre_lt hi2
            have h3 : (pr.filter (canF s h p)).length ≤ pr.length := List.length_filter_le _ _
            have h4 : Od.all.length = 3 := rfl
            omega
          have hl : (((pre.flatMap (fromF s h)) ++ (pr.filter (canF s h p)).map (ledF s h p)).foldl addL []).length ≤ 1000000 := by
            have := len_addAll (xs := (pre.flatMap (fromF s h)) ++ (pr.filter (canF s h p)).map (ledF s h p)) (L := [])
            simp only [List.length_append, List.length_map, List.length_nil] at this
            omega
          have w := h0 h p o pz
          have gw := gEq_why s h p o
          by_cases co : canF s h p o = true
          · have put := putD_add keyEq_t (((pre.flatMap (fromF s h)) ++ (pr.filter (canF s h p)).map (ledF s h p)).foldl addL []) (ledF s h p o) (.bl true) (keyFits_iD (tL _)) (lt_size hl)
            refine ⟨_, rfl, [some (skyD s), some (.int h), some (.lst (l.map tD)), some (.dic true ((addL (((pre.flatMap (fromF s h)) ++ (pr.filter (canF s h p)).map (ledF s h p)).foldl addL []) (ledF s h p o)).map tD) ((addL (((pre.flatMap (fromF s h)) ++ (pr.filter (canF s h p)).map (ledF s h p)).foldl addL []) (ledF s h p o)).map fun _ => .bl true)), some (tD p), some (oD o)], .inl ?_, ?_⟩
            · generalize ((pre.flatMap (fromF s h)) ++ (pr.filter (canF s h p)).map (ledF s h p)).foldl addL [] = acc at put
              have ld := h1 h p o (can_up co pz)
              simp [M_law_next_l1, w, gw, co, ld, put, -dPut_eq]
            · rw [List.filter_append, List.map_append, ← List.append_assoc, List.foldl_append]
              simp [co]
          · refine ⟨_, rfl, _, .inl (by simp [M_law_next_l1, w, gw, co]; rfl), ?_⟩
            rw [List.filter_append]
            simp [co]
      subst e2
      refine ⟨_, rfl, [some (skyD s), some (.int h), some (.lst (l.map tD)), some (.dic true ((((pre.flatMap (fromF s h)) ++ (Od.all.filter (canF s h p)).map (ledF s h p)).foldl addL []).map tD) ((((pre.flatMap (fromF s h)) ++ (Od.all.filter (canF s h p)).map (ledF s h p)).foldl addL []).map fun _ => .bl true)), some (tD p), none], .inl ?_, ?_⟩
      · simp only [M_law_next_l2, dSeq_eq, List.set_cons_succ, List.set_cons_zero]
        have src : ∀ e3 e5, (dItems (dTup (dCons (dC (.str ("up" : Str))) (dCons (dC (.str ("level" : Str))) (dCons (dC (.str ("down" : Str))) dNil))))) [some (skyD s), some (.int h), some (.lst (l.map tD)), e3, some (tD p), e5] = .ok (Od.all.map oD) := fun e3 e5 => by simp [Od.all, oS, s3]
        rw [dFor_ok (src _ _), e1]
        simp
      · rw [List.flatMap_append, List.flatMap_cons, List.flatMap_nil, List.append_nil]
        simp [fromF]
  subst e2
  have hl : ((l.flatMap (fromF s h)).foldl addL []).length ≤ 1000000 := by
    have := len_addAll (xs := l.flatMap (fromF s h)) (L := [])
    have := lfm l
    simp only [List.length_nil] at *
    omega
  have srt : sortedO (.lst (((l.flatMap (fromF s h)).foldl addL []).map tD)) = some (.lst ((behindF s h l).map tD)) := sorted_F tL tL_len hl
  rw [runF_eq]
  simp [M_law_next, dFor, e1, srt]
/-! ### the states that fit -/
def fitL (ss : List Si) (h : Int) (l : List St) : List St := l.filter fun p => fitF ss h p.1 p.2.1 p.2.2.1
theorem fitting_ok {c0 : DF'} (ss : List Si) (hc : ∀ (h : Int) (s : St), c0 [.lst (ss.map siD), .int h, tD s] = .ok (.bl (fitF ss h s.1 s.2.1 s.2.2.1))) (h : Int) (l : List St) (hz : l.length ≤ 1000000) (ne : 0 < (fitL ss h l).length) :
    runF 5 (M_fitting_2 c0) [.lst (ss.map siD), .int h, .lst (l.map tD)] = .ok (.lst ((fitL ss h l).map tD)) := by
  have c : dComp (dItems (dVar 2)) (gdName 4) (dCall c0 (dCons (dVar 0) (dCons (dVar 1) (dCons (dVar 4) dNil)))) (dImm (dVar 4)) [4] [some (.lst (ss.map siD)), some (.int h), some (.lst (l.map tD)), none, none] = .ok (.lst ((fitL ss h l).map tD)) :=
    dComp_filter (h := tD) (enc := tD) (fun p : St => fitF ss h p.1 p.2.1 p.2.2.1) l (by simp) hz fun p _ => ⟨_, rfl, by simp [hc], fun _ => by
      have im : imm (tD p) = true := rfl
      simp [im]⟩
  generalize fitL ss h l = r at c ne
  have z : ¬ ((r.length : Int) = 0) := by omega
  have z2 : ¬ (r = []) := fun e => by rw [e] at ne; cases ne
  rw [runF_eq]
  simp [M_fitting_2, c, z, z2]
/-! ### those from which it goes on -/
noncomputable def goesF (s : Sky) (h : Int) (later : List St) (p : St) : Bool := ((Od.all.filter (canF s h p)).map fun o => decide (ledF s h p o ∈ later)).any id
noncomputable def goingF (s : Sky) (h : Int) (l later : List St) : List St := l.filter (goesF s h later)
theorem goesF_iff (s : Sky) (h : Int) (later : List St) (p : St) : goesF s h later p = true ↔ ∃ q ∈ later, q ∈ fromF s h p := by
  unfold goesF fromF
  rw [List.any_eq_true]
  constructor
  · rintro ⟨b, hb, e⟩
    obtain ⟨o, ho, rfl⟩ := List.mem_map.mp hb
    exact ⟨_, of_decide_eq_true e, List.mem_map.mpr ⟨o, ho, rfl⟩⟩
  · rintro ⟨q, hq, hf⟩
    obtain ⟨o, ho, rfl⟩ := List.mem_map.mp hf
    exact ⟨_, List.mem_map.mpr ⟨o, ho, rfl⟩, decide_eq_true hq⟩
theorem going_ok {c0 c1 : DF'} (s : Sky) (h0 : ∀ h p, c0 [skyD s, .int h, tD p] = .ok (.lst ((Od.all.filter (canF s h p)).map oD))) (h1 : ∀ h p o, canF s h p o = true → c1 [skyD s, .int h, tD p, oD o] = .ok (tD (ledF s h p o))) (h : Int) (l later : List St) (hz : l.length ≤ 100000) (hz2 : later.length ≤ 100000) :
    runF 8 (M_going_on c0 c1) [skyD s, .int h, .lst (l.map tD), .lst (later.map tD)] = .ok (.lst ((goingF s h l later).map tD)) := by
  obtain ⟨env', e1, rfl⟩ := forGo_inv (gd := gdName 5) (body := M_going_on_l2 c0 c1) (ks := [5]) (enc := tD)
    (fun pre env => env = [some (skyD s), some (.int h), some (.lst (l.map tD)), some (.lst (later.map tD)), some (.dic true ((pre.foldl addL []).map tD) ((pre.foldl addL []).map fun _ => .bl true)), none, none, none]) later
    (env := [some (skyD s), some (.int h), some (.lst (l.map tD)), some (.lst (later.map tD)), some (.dic true [] []), none, none, none]) rfl fun pre p post env hi ev => by
      subst ev
      have hl : (pre.foldl addL []).length ≤ 1000000 := by
        have h1 := len_addAll (xs := pre) (L := [])
        have h2 := pre_lt hi
        simp only [List.length_nil] at h1
        omega
      have put := putD_add keyEq_t (pre.foldl addL []) p (.bl true) (keyFits_iD (tL _)) (lt_size hl)
      refine ⟨_, rfl, [some (skyD s), some (.int h), some (.lst (l.map tD)), some (.lst (later.map tD)), some (.dic true ((addL (pre.foldl addL []) p).map tD) ((addL (pre.foldl addL []) p).map fun _ => .bl true)), some (tD p), none, none], .inl ?_, ?_⟩
      · generalize pre.foldl addL [] = acc at put
        simp [M_going_on_l2, put]
      · rw [List.foldl_append]
        simp
  obtain ⟨env', e2, rfl⟩ := forGo_inv (gd := gdName 5) (body := M_going_on_l1 c0 c1) (ks := [5]) (enc := tD)
    (fun pre env => env = [some (skyD s), some (.int h), some (.lst (l.map tD)), some (.lst (later.map tD)), some (.dic true ((later.foldl addL []).map tD) ((later.foldl addL []).map fun _ => .bl true)), none, some (.lst ((goingF s h pre later).map tD)), none]) l
    (env := [some (skyD s), some (.int h), some (.lst (l.map tD)), some (.lst (later.map tD)), some (.dic true ((later.foldl addL []).map tD) ((later.foldl addL []).map fun _ => .bl true)), none, some (.lst []), none]) rfl fun pre p post env hi ev => by
      subst ev
      have hl : (goingF s h pre later).length < sizeLine := lt_size (by
        have h1 : (goingF s h pre later).length ≤ pre.length := List.length_filter_le _ _
        have h2 := pre_lt hi
        omega)
      have im : imm (tD p) = true := rfl
      have c : ∀ e6, dComp (dItems (dCall c0 (dCons (dVar 0) (dCons (dVar 1) (dCons (dVar 5) dNil))))) (gdName 7) (dC (.bl true)) (dBin gIn (dCall c1 (dCons (dVar 0) (dCons (dVar 1) (dCons (dVar 5) (dCons (dVar 7) dNil))))) (dVar 4)) [7]
          [some (skyD s), some (.int h), some (.lst (l.map tD)), some (.lst (later.map tD)), some (.dic true ((later.foldl addL []).map tD) ((later.foldl addL []).map fun _ => .bl true)), some (tD p), e6, none] = .ok (.lst (((Od.all.filter (canF s h p)).map fun o => decide (ledF s h p o ∈ later)).map D.bl)) := fun e6 => by
        rw [dComp_map (h := fun o => D.bl (decide (ledF s h p o ∈ later))) (enc := oD) (Od.all.filter (canF s h p)) (by simp [h0]) (Nat.le_trans (List.length_filter_le _ _) (by decide)), List.map_map]
        · rfl
        · intro o ho
          have g := gIn_add keyEq_t (.bl true) (ledF s h p o) (keyFits_iD (tL _)) (later.foldl addL [])
          have m : (ledF s h p o ∈ later.foldl addL []) ↔ ledF s h p o ∈ later := by rw [mem_addAll]; simp
          have g : gIn (tD (ledF s h p o)) (.dic true ((later.foldl addL []).map tD) ((later.foldl addL []).map fun _ => .bl true)) = some (.bl (decide (ledF s h p o ∈ later))) := by
            rw [g]
            congr 2
            exact decide_eq_decide.mpr m
          refine ⟨_, rfl, rfl, ?_⟩
          have h1' := h1 h p o (List.mem_filter.mp ho).2
          simp [h1', g]
      have ga : gAny [.lst (((Od.all.filter (canF s h p)).map fun o => decide (ledF s h p o ∈ later)).map D.bl)] = some (.bl (goesF s h later p)) := gAny_map
      by_cases g : goesF s h later p = true
      · refine ⟨_, rfl, [some (skyD s), some (.int h), some (.lst (l.map tD)), some (.lst (later.map tD)), some (.dic true ((later.foldl addL []).map tD) ((later.foldl addL []).map fun _ => .bl true)), some (tD p), some (.lst ((goingF s h pre later).map tD ++ [tD p])), none], .inl ?_, ?_⟩
        · rw [g] at ga
          simp [M_going_on_l1, c, ga, im, hl, -List.map_map, -gAny_map]
        · simp [goingF, List.filter_append, g]
      · have g : goesF s h later p = false := by simpa using g
        refine ⟨_, rfl, [some (skyD s), some (.int h), some (.lst (l.map tD)), some (.lst (later.map tD)), some (.dic true ((later.foldl addL []).map tD) ((later.foldl addL []).map fun _ => .bl true)), some (tD p), some (.lst ((goingF s h pre later).map tD)), none], .inl ?_, ?_⟩
        · rw [g] at ga
          simp [M_going_on_l1, c, ga, -List.map_map, -gAny_map]
        · simp [goingF, List.filter_append, g]
  rw [runF_eq]
  simp [M_going_on, dFor, e1, e2]
/-! ### the whole -/
structure PathOk (s : Sky) (h : Int) (ss : List Si) (path : List St) : Prop where
  step : ∀ (k : Nat) p q, path[k]? = some p → path[k + 1]? = some q → q ∈ fromF s (h + k) p
  fit : ∀ (k : Nat) p, path[k]? = some p → fitF ss (h + k) p.1 p.2.1 p.2.2.1 = true
def GoodR (h : Int) (ss : List Si) (path : List St) (R : List (List St)) : Prop := ∀ (k : Nat) r q, R[k]? = some r → path[k]? = some q → q ∈ r ∧ (∀ x ∈ r, fitF ss (h + k) x.1 x.2.1 x.2.2.1 = true) ∧ r.length ≤ 3 ^ k
theorem possible_ok {c0 c1 c2 : DF'} (s : Sky) (ss : List Si) (h0 : ∀ (h : Int) (l later : List St), l.length ≤ 100000 → later.length ≤ 100000 → c0 [skyD s, .int h, .lst (l.map tD), .lst (later.map tD)] = .ok (.lst ((goingF s h l later).map tD)))
    (h1 : ∀ (h : Int) (l : List St), l.length ≤ 100000 → c1 [skyD s, .int h, .lst (l.map tD)] = .ok (.lst ((behindF s h l).map tD)))
    (h2 : ∀ (h : Int) (l : List St), l.length ≤ 1000000 → 0 < (fitL ss h l).length → c2 [.lst (ss.map siD), .int h, .lst (l.map tD)] = .ok (.lst ((fitL ss h l).map tD)))
    (h : Int) (hh : 0 ≤ h ∧ h ≤ 1000) (path : List St) (n : Nat) (hp : path.length = n + 1) (hn : n ≤ 8) (p : St) (p0 : path[0]? = some p) (P : PathOk s h ss path) :
    ∃ R, R.length = n + 1 ∧ GoodR h ss path R ∧ runF 7 (M_possible c0 c1 c2) [skyD s, .int h, tD p, .int (h + n), .lst (ss.map siD)] = .ok (.lst (R.map rowD)) := by
  have fit0 : fitL ss h [p] = [p] := by
    have := P.fit 0 p p0
    simp at this
    simp [fitL, this]
  have f0 := h2 h [p] (by simp) (by rw [fit0]; simp)
  rw [fit0] at f0
  obtain ⟨env', e1, R1, rfl, l1, g1⟩ := forGo_inv (gd := gdName 6) (body := M_possible_l2 c0 c1 c2) (ks := [6]) (enc := fun (i : Nat) => D.int (h + (i : Int)))
    (fun pre env => ∃ R : List (List St), env = [some (skyD s), some (.int h), some (tD p), some (.int (h + n)), some (.lst (ss.map siD)), some (.lst (R.map rowD)), none] ∧ R.length = pre.length + 1 ∧ GoodR h ss path R) (List.range n)
    (env := [some (skyD s), some (.int h), some (tD p), some (.int (h + n)), some (.lst (ss.map siD)), some (.lst [rowD [p]]), none])
    ⟨[[p]], rfl, rfl, fun k r q hr hq => by
      cases k with
      | succ k => simp at hr
      | zero =>
        simp at hr
        subst hr
        rw [p0] at hq
        cases hq
        have := P.fit 0 p p0
        exact ⟨by simp, fun x hx => by rw [List.mem_singleton.mp hx]; exact this, by simp⟩⟩ fun pre k post env hi ⟨R, ev, hl, hg⟩ => by
      subst ev
      obtain ⟨rfl, hk⟩ := pre_range hi
      obtain ⟨r, er⟩ : ∃ r, R[pre.length]? = some r := ⟨R[pre.length]'(by omega), List.getElem?_eq_getElem (by omega)⟩
      obtain ⟨q0, eq0⟩ : ∃ q, path[pre.length]? = some q := ⟨path[pre.length]'(by omega), List.getElem?_eq_getElem (by omega)⟩
      obtain ⟨q1, eq1⟩ : ∃ q, path[pre.length + 1]? = some q := ⟨path[pre.length + 1]'(by omega), List.getElem?_eq_getElem (by omega)⟩
      obtain ⟨m0, m1, m2⟩ := hg _ _ _ er eq0
      have pw := pow3 (n := pre.length) (by omega)
      have last : atI (R.map rowD) (-1) = some (rowD r) := by
        rw [atI_lastL, List.getLast?_map, List.getLast?_eq_getElem?, hl]
        show (R[pre.length]?).map rowD = _
        rw [er]
        rfl
      have b1 := h1 (h + pre.length) r (by omega)
      have bl := behindF_len s (h + pre.length) r
      have mq : q1 ∈ fitL ss (h + pre.length + 1) (behindF s (h + pre.length) r) := by
        refine List.mem_filter.mpr ⟨(behindF_mem _ _ _ _).mpr ⟨q0, m0, P.step _ _ _ eq0 eq1⟩, ?_⟩
        have := P.fit _ _ eq1
        rw [show h + ((pre.length + 1 : Nat) : Int) = h + pre.length + 1 by omega] at this
        exact this
      have b2 := h2 (h + pre.length + 1) (behindF s (h + pre.length) r) (by omega) (List.length_pos_of_mem mq)
      have z : R.length < sizeLine := lt_size (by omega)
      refine ⟨_, rfl, [some (skyD s), some (.int h), some (tD p), some (.int (h + n)), some (.lst (ss.map siD)), some (.lst ((R ++ [fitL ss (h + pre.length + 1) (behindF s (h + pre.length) r)]).map rowD)), some (.int (h + (pre.length : Int)))], .inl ?_, R ++ [fitL ss (h + pre.length + 1) (behindF s (h + pre.length) r)], by simp, by simp [hl], ?_⟩
      · simp [M_possible_l2, last, rowD, b1, b2, z]
      · intro k r' q hr hq
        by_cases c : k < R.length
        · rw [List.getElem?_append_left c] at hr
          exact hg k r' q hr hq
        · rw [List.getElem?_append_right (by omega)] at hr
          have kk : k = pre.length + 1 := by
            have h3 := (List.getElem?_eq_some_iff.mp hr).1
            simp at h3
            omega
          subst kk
          rw [hl] at hr
          simp at hr
          subst hr
          rw [eq1] at hq
          cases hq
          refine ⟨mq, fun x hx => ?_, ?_⟩
          · have := (List.mem_filter.mp hx).2
            rw [show h + ((pre.length + 1 : Nat) : Int) = h + pre.length + 1 by omega]
            exact this
          · have h3 : (fitL ss (h + pre.length + 1) (behindF s (h + pre.length) r)).length ≤ (behindF s (h + pre.length) r).length := List.length_filter_le _ _
            rw [Nat.pow_succ]
            omega
  rw [List.length_range] at l1
  obtain ⟨env', e2, R2, rfl, l2, g2⟩ := forGo_inv (gd := gdName 6) (body := M_possible_l1 c0 c1 c2) (ks := [6]) (enc := fun (i : Nat) => D.int ((n : Int) - 1 - (i : Int)))
    (fun pre env => ∃ R : List (List St), env = [some (skyD s), some (.int h), some (tD p), some (.int (h + n)), some (.lst (ss.map siD)), some (.lst (R.map rowD)), none] ∧ R.length = n + 1 ∧ GoodR h ss path R) (List.range n)
    (env := [some (skyD s), some (.int h), some (tD p), some (.int (h + n)), some (.lst (ss.map siD)), some (.lst (R1.map rowD)), none]) ⟨R1, rfl, l1, g1⟩ fun pre k post env hi ⟨R, ev, hl, hg⟩ => by
      subst ev
      obtain ⟨rfl, hk⟩ := pre_range hi
      obtain ⟨m, hm, em⟩ : ∃ m : Nat, m < n ∧ (n : Int) - 1 - (pre.length : Int) = (m : Int) := ⟨n - 1 - pre.length, by omega, by omega⟩
      obtain ⟨r, er⟩ : ∃ r, R[m]? = some r := ⟨R[m]'(by omega), List.getElem?_eq_getElem (by omega)⟩
      obtain ⟨r1, er1⟩ : ∃ r, R[m + 1]? = some r := ⟨R[m + 1]'(by omega), List.getElem?_eq_getElem (by omega)⟩
      obtain ⟨q0, eq0⟩ : ∃ q, path[m]? = some q := ⟨path[m]'(by omega), List.getElem?_eq_getElem (by omega)⟩
      obtain ⟨q1, eq1⟩ : ∃ q, path[m + 1]? = some q := ⟨path[m + 1]'(by omega), List.getElem?_eq_getElem (by omega)⟩
      obtain ⟨m0, m1, m2⟩ := hg _ _ _ er eq0
      obtain ⟨n0, n1, n2⟩ := hg _ _ _ er1 eq1
      have pw := pow3 (n := m) (by omega)
      have pw1 := pow3 (n := m + 1) (by omega)
      have a0 : atI (R.map rowD) (m : Int) = some (rowD r) := by rw [atI_natL, List.getElem?_map, er]; rfl
      have a1 : atI (R.map rowD) ((m : Int) + 1) = some (rowD r1) := by rw [show (m : Int) + 1 = ((m + 1 : Nat) : Int) by omega, atI_natL, List.getElem?_map, er1]; rfl
      have g := h0 (h + m) r r1 (by omega) (by omega)
      have put := putD_at (R.map rowD) m (rowD (goingF s (h + m) r r1)) (by rw [List.length_map]; omega)
      rw [← List.map_set] at put
      refine ⟨_, rfl, [some (skyD s), some (.int h), some (tD p), some (.int (h + n)), some (.lst (ss.map siD)), some (.lst ((R.set m (goingF s (h + m) r r1)).map rowD)), some (.int ((n : Int) - 1 - (pre.length : Int)))], .inl ?_, R.set m (goingF s (h + m) r r1), by simp, by simp [hl], ?_⟩
      · simp only [em]
        simp only [rowD] at a0 a1 put
        simp [M_possible_l1, a0, a1, g, put, -List.map_set, -List.getElem?_map]
      · intro k r' q hr hq
        by_cases c : k = m
        · subst c
          rw [List.getElem?_set_self (by omega)] at hr
          cases hr
          rw [eq0] at hq
          cases hq
          refine ⟨List.mem_filter.mpr ⟨m0, (goesF_iff _ _ _ _).mpr ⟨q1, n0, P.step _ _ _ eq0 eq1⟩⟩, fun x hx => m1 x (List.mem_filter.mp hx).1, Nat.le_trans (List.length_filter_le _ _) m2⟩
        · rw [List.getElem?_set_ne (Ne.symm c)] at hr
          exact hg k r' q hr hq
  refine ⟨R2, l2, g2, ?_⟩
  have im : imm (tD p) = true := rfl
  have lm : lim62 h = true := by
    have := lim62_nat (n := h.toNat) (by omega)
    rw [show ((h.toNat : Nat) : Int) = h by omega] at this
    exact this
  have lm2 : lim62 (h + n) = true := by
    have := lim62_nat (n := (h + n).toNat) (by omega)
    rw [show (((h + n).toNat : Nat) : Int) = h + n by omega] at this
    exact this
  have rg : ∀ e5 e6, dRange2 (dVar 1) (dVar 3) [some (skyD s), some (.int h), some (tD p), some (.int (h + n)), some (.lst (ss.map siD)), e5, e6] = .ok ((List.range n).map fun (i : Nat) => D.int (h + (i : Int))) := fun e5 e6 => by
    show (if lim62 h && lim62 (h + n) then RG.ok (rangeD h 1 (h + n - h).toNat) else .bad) = _
    rw [lm, lm2, if_pos (show (true && true) = true from rfl), show (h + (n : Int) - h).toNat = n by omega]
    simp [rangeD]
  have rr : dRevR (dBin gSubI (dCallO gLen (dCons (dVar 5) dNil)) (dC (.int (1)))) [some (skyD s), some (.int h), some (tD p), some (.int (h + n)), some (.lst (ss.map siD)), some (.lst (R1.map rowD)), none] = .ok ((List.range n).map fun (i : Nat) => D.int ((n : Int) - 1 - (i : Int))) :=
    dRevR_ok (n := n) (by
      simp [l1]) (by omega)
  rw [runF_eq]
  simp only [rowD, List.map_cons, List.map_nil] at e1 f0 e2 rr
  simp [M_possible, dFor, f0, rg, rr, e1, e2, im, -List.map_map]
end Lw

/-! Sp19: a path that can be flown. -/
namespace Lw
open PySem PySem.Spec PyProof.Rows L2 Dl
structure PathF (s : Sky) (h : Int) (p : St) (path : List St) : Prop where
  head : path[0]? = some p
  step : ∀ (k : Nat) a b, path[k]? = some a → path[k + 1]? = some b → b ∈ fromF s (h + k) a
  z : ∀ a ∈ path, 0 ≤ a.2.2.1
theorem PathF.one {s : Sky} {h : Int} {p : St} (hz : 0 ≤ p.2.2.1) : PathF s h p [p] := ⟨rfl, fun k a b ha hb => by simp at hb, fun a ha => by rw [List.mem_singleton.mp ha]; exact hz⟩
theorem PathF.take {s : Sky} {h : Int} {p : St} {path : List St} (P : PathF s h p path) (m : Nat) : PathF s h p (path.take (m + 1)) := by
  have t : ∀ (k : Nat) a, (path.take (m + 1))[k]? = some a → path[k]? = some a := fun k a ha => by
    rw [List.getElem?_take] at ha
    split at ha
    · exact ha
    · cases ha
  refine ⟨?_, fun k a b ha hb => P.step k a b (t _ _ ha) (t _ _ hb), fun a ha => P.z a (List.mem_of_mem_take ha)⟩
  rw [List.getElem?_take, if_pos (by omega)]
  exact P.head
theorem fromF_z {s : Sky} {h : Int} {p q : St} (hq : q ∈ fromF s h p) (hz : 0 ≤ p.2.2.1) : 0 ≤ q.2.2.1 := by
  obtain ⟨o, ho, rfl⟩ := List.mem_map.mp hq
  exact led_z (can_up (List.mem_filter.mp ho).2 hz)
theorem PathF.snoc {s : Sky} {h : Int} {p a b : St} {path : List St} {n : Nat} (P : PathF s h p path) (hl : path.length = n + 1) (ha : path[n]? = some a) (hb : b ∈ fromF s (h + n) a) : PathF s h p (path ++ [b]) := by
  refine ⟨?_, fun k x y hx hy => ?_, fun x hx => ?_⟩
  · rw [List.getElem?_append_left (by omega)]; exact P.head
  · by_cases c : k + 1 < path.length
    · rw [List.getElem?_append_left c] at hy
      rw [List.getElem?_append_left (by omega)] at hx
      exact P.step k x y hx hy
    · have kk : k = n := by
        have h3 := (List.getElem?_eq_some_iff.mp hy).1
        simp at h3
        omega
      subst kk
      rw [List.getElem?_append_left (by omega), ha] at hx
      cases hx
      rw [← hl, List.getElem?_append_right (by omega)] at hy
      simp at hy
      rw [← hy]
      exact hb
  · rcases List.mem_append.mp hx with hx | hx
    · exact P.z x hx
    · rw [List.mem_singleton.mp hx]
      exact fromF_z hb (P.z a (List.mem_of_getElem? ha))
theorem law_true_ok {c0 : DF'} (s : Sky) (h0 : ∀ (h : Int) (l : List St), (∀ p ∈ l, 0 ≤ p.2.2.1) → l.length ≤ 100000 → c0 [skyD s, .int h, .lst (l.map tD)] = .ok (.lst ((behindF s h l).map tD)))
    (h : Int) (hh : 0 ≤ h ∧ h ≤ 24) (p : St) (hz : 0 ≤ p.2.2.1) {d : List Int} (hd : Dr 10 d) : ∃ path, PathF s h p path ∧ path.length ≤ 9 ∧ runF 7 (M_law_true c0) [skyD s, .int h, tD p, .lst (d.map D.int)] = .ok (.lst (path.map tD)) := by
  obtain ⟨x0, x00, x01, e0⟩ := dr_get hd (i := 0) (by omega) (by omega)
  obtain ⟨m, hm, em⟩ : ∃ m : Nat, m ≤ 8 ∧ minI (x0 % 9) (24 - h) = (m : Int) := by
    unfold minI
    split
    · exact ⟨(24 - h).toNat, by omega, by omega⟩
    · exact ⟨(x0 % 9).toNat, by omega, by omega⟩
  have out := forGo_exit (gd := gdName 5) (body := M_law_true_l1 c0) (ks := [5, 6]) (enc := fun (i : Nat) => D.int (i : Int))
    (fun pre env => ∃ path : List St, PathF s h p path ∧ path.length = pre.length + 1 ∧ env = [some (skyD s), some (.int h), some (tD p), some (.lst (d.map D.int)), some (.lst (path.map tD)), none, none])
    (fun o => ∃ path : List St, PathF s h p path ∧ path.length ≤ 9 ∧ o = .rt (.lst (path.map tD))) (List.range m)
    (env := [some (skyD s), some (.int h), some (tD p), some (.lst (d.map D.int)), some (.lst [tD p]), none, none]) ⟨[p], .one hz, rfl, rfl⟩ fun pre k post env hi ⟨path, P, hl, ev⟩ => by
      subst ev
      obtain ⟨rfl, hk⟩ := pre_range hi
      obtain ⟨v, v0, v1, evv⟩ := dr_get hd (i := 1 + (pre.length : Int)) (by omega) (by omega)
      obtain ⟨q, eq⟩ : ∃ q, path[pre.length]? = some q := ⟨path[pre.length]'(by omega), List.getElem?_eq_getElem (by omega)⟩
      have last : atI (path.map tD) (-1) = some (tD q) := by
        rw [atI_lastL, List.getLast?_map, List.getLast?_eq_getElem?, hl]
        show (path[pre.length]?).map tD = _
        rw [eq]
        rfl
      have b := h0 (h + pre.length) [q] (fun x hx => by rw [List.mem_singleton.mp hx]; exact P.z q (List.mem_of_getElem? eq)) (by simp)
      simp only [List.map_cons, List.map_nil] at b
      have im : imm (tD q) = true := rfl
      have z : path.length < sizeLine := lt_size (by omega)
      have mem : ∀ x, x ∈ behindF s (h + pre.length) [q] → x ∈ fromF s (h + pre.length) q := fun x hx => by
        obtain ⟨p', hp', hx'⟩ := (behindF_mem _ _ _ _).mp hx
        rw [List.mem_singleton.mp hp'] at hx'
        exact hx'
      generalize behindF s (h + pre.length) [q] = r at b mem
      refine ⟨_, rfl, ?_⟩
      by_cases c : 0 < r.length
      · have mm : gModI (.int v) (.int (r.length : Int)) = some (.int (v % (r.length : Int))) := gModI_pos (by omega)
        obtain ⟨x, hx, ex⟩ := atI_map tD r (i := v % (r.length : Int)) (Int.emod_nonneg _ (by omega)) (Int.emod_lt_of_pos _ (by omega))
        have imx : imm (tD x) = true := rfl
        have c' : ¬ ((r.length : Int) = 0) := by omega
        have c'' : ¬ (r = []) := fun e => by rw [e] at c; cases c
        refine .inl ⟨[some (skyD s), some (.int h), some (tD p), some (.lst (d.map D.int)), some (.lst ((path ++ [x]).map tD)), some (.int (pre.length : Int)), some (.lst (r.map tD))], .inl ?_, path ++ [x], P.snoc hl eq (mem x hx), by simp [hl], rfl⟩
        simp [M_law_true_l1, last, im, b, c, c', c'', evv, mm, ex, imx, z]
      · have c3 : r = [] := List.eq_nil_of_length_eq_zero (by omega)
        subst c3
        exact .inr (.inl ⟨.lst (path.map tD), by simp [M_law_true_l1, last, im, b], path, P, by omega, rfl⟩)
  have im : imm (tD p) = true := rfl
  simp only [atI_lit, atI_zero] at e0
  rw [runF_eq]
  rcases out with ⟨path, P, hl, e1⟩ | ⟨env', e1, path, P, hl, rfl⟩
  · exact ⟨path, P, hl, by simp [M_law_true, e0, em, im, rng_nat (show m < 2 ^ 62 by omega), dFor, e1, -List.getElem?_map]⟩
  · rw [List.length_range] at hl
    exact ⟨path, P, by omega, by simp [M_law_true, e0, em, im, rng_nat (show m < 2 ^ 62 by omega), dFor, e1, -List.getElem?_map]⟩
end Lw

/-! Sp20: what is possible, as a law of its own: the ways that fit. -/
namespace Lw
open PySem PySem.Spec PyProof.Rows L2 Dl
noncomputable def fwF (s : Sky) (h : Int) (p : St) (ss : List Si) : Nat → List St
  | 0 => fitL ss h [p]
  | k + 1 => fitL ss (h + k + 1) (behindF s (h + k) (fwF s h p ss k))
noncomputable def bkF (s : Sky) (h : Int) (p : St) (ss : List Si) (n : Nat) : Nat → List St
  | 0 => fwF s h p ss n
  | j + 1 => goingF s (h + ((n - (j + 1) : Nat) : Int)) (fwF s h p ss (n - (j + 1))) (bkF s h p ss n j)
noncomputable def rowsF (s : Sky) (h : Int) (p : St) (ss : List Si) (n : Nat) : List (List St) := (List.range (n + 1)).map fun k => bkF s h p ss n (n - k)
theorem fwF_len (s : Sky) (h : Int) (p : St) (ss : List Si) : ∀ k, (fwF s h p ss k).length ≤ 3 ^ k
  | 0 => Nat.le_trans (List.length_filter_le _ _) (by simp)
  | k + 1 => by
    have h1 : (fwF s h p ss (k + 1)).length ≤ (behindF s (h + k) (fwF s h p ss k)).length := List.length_filter_le _ _
    have h2 := behindF_len s (h + k) (fwF s h p ss k)
    have h3 := fwF_len s h p ss k
    rw [Nat.pow_succ]
    omega
theorem fwF_small (s : Sky) (h : Int) (p : St) (ss : List Si) {k : Nat} (hk : k ≤ 8) : (fwF s h p ss k).length ≤ 6561 := Nat.le_trans (fwF_len s h p ss k) (pow3 hk)
theorem bkF_small (s : Sky) (h : Int) (p : St) (ss : List Si) {n : Nat} (hn : n ≤ 8) : ∀ j, (bkF s h p ss n j).length ≤ 6561
  | 0 => fwF_small s h p ss hn
  | j + 1 => Nat.le_trans (List.length_filter_le _ _) (fwF_small s h p ss (by omega))
theorem rowsF_len (s : Sky) (h : Int) (p : St) (ss : List Si) (n : Nat) : (rowsF s h p ss n).length = n + 1 := by simp [rowsF]
/-! ### sorted -/
theorem fwF_sorted (s : Sky) (h : Int) (p : St) (ss : List Si) : ∀ k, (fwF s h p ss k).Pairwise (leF tL) ∧ (fwF s h p ss k).Nodup
  | 0 => ⟨List.Pairwise.filter _ (by simp), List.Pairwise.filter _ (by simp)⟩
  | k + 1 => ⟨(behindF_sorted s (h + k) (fwF s h p ss k)).1.filter _, (behindF_sorted s (h + k) (fwF s h p ss k)).2.filter _⟩
theorem bkF_sorted (s : Sky) (h : Int) (p : St) (ss : List Si) (n : Nat) : ∀ j, (bkF s h p ss n j).Pairwise (leF tL) ∧ (bkF s h p ss n j).Nodup
  | 0 => fwF_sorted s h p ss n
  | j + 1 => ⟨(fwF_sorted s h p ss _).1.filter _, (fwF_sorted s h p ss _).2.filter _⟩
/-! ### the ways -/
structure Way (s : Sky) (h : Int) (p : St) (ss : List Si) (n : Nat) (f : Nat → St) : Prop where
  at0 : f 0 = p
  step : ∀ k, k < n → f (k + 1) ∈ fromF s (h + k) (f k)
  fit : ∀ k, k ≤ n → fitF ss (h + k) (f k).1 (f k).2.1 (f k).2.2.1 = true
theorem Way.pre {s : Sky} {h : Int} {p : St} {ss : List Si} {n k : Nat} {f : Nat → St} (w : Way s h p ss n f) (hk : k ≤ n) : Way s h p ss k f := ⟨w.at0, fun i hi => w.step i (by omega), fun i hi => w.fit i (by omega)⟩
theorem fw_mem (s : Sky) (h : Int) (p : St) (ss : List Si) : ∀ (k : Nat) (q : St), q ∈ fwF s h p ss k ↔ ∃ f, Way s h p ss k f ∧ f k = q
  | 0, q => by
    show q ∈ fitL ss h [p] ↔ _
    unfold fitL
    rw [List.mem_filter, List.mem_singleton]
    constructor
    · rintro ⟨rfl, hf⟩
      exact ⟨fun _ => q, ⟨rfl, fun k hk => absurd hk (Nat.not_lt_zero _), fun k hk => by
        obtain rfl : k = 0 := by omega
        simpa using hf⟩, rfl⟩
    · rintro ⟨f, w, rfl⟩
      refine ⟨w.at0, ?_⟩
      have := w.fit 0 (Nat.le_refl _)
      simpa using this
  | k + 1, q => by
    show q ∈ fitL ss (h + k + 1) (behindF s (h + k) (fwF s h p ss k)) ↔ _
    unfold fitL
    rw [List.mem_filter, behindF_mem]
    have e1 : h + ((k + 1 : Nat) : Int) = h + k + 1 := by omega
    constructor
    · rintro ⟨⟨q0, hq0, hf⟩, hfit⟩
      obtain ⟨f, w, rfl⟩ := (fw_mem s h p ss k q0).mp hq0
      refine ⟨fun i => if i ≤ k then f i else q, ⟨?_, fun i hi => ?_, fun i hi => ?_⟩, ?_⟩
      · simp only [Nat.zero_le, if_true]; exact w.at0
      · by_cases c : i < k
        · simp only [show i ≤ k by omega, show i + 1 ≤ k by omega, if_true]; exact w.step i c
        · obtain rfl : i = k := by omega
          simp only [Nat.le_refl, show ¬ i + 1 ≤ i by omega, if_true, if_false]; exact hf
      · by_cases c : i ≤ k
        · simp only [c, if_true]; exact w.fit i c
        · obtain rfl : i = k + 1 := by omega
          simp only [c, if_false]; rw [e1]; exact hfit
      · simp only [show ¬ k + 1 ≤ k by omega, if_false]
    · rintro ⟨f, w, rfl⟩
      refine ⟨⟨f k, (fw_mem s h p ss k _).mpr ⟨f, w.pre (by omega), rfl⟩, w.step k (by omega)⟩, ?_⟩
      have := w.fit (k + 1) (Nat.le_refl _)
      rw [e1] at this
      exact this
theorem bk_mem (s : Sky) (h : Int) (p : St) (ss : List Si) (n : Nat) : ∀ (j : Nat) (q : St), j ≤ n → (q ∈ bkF s h p ss n j ↔ ∃ f, Way s h p ss n f ∧ f (n - j) = q)
  | 0, q, _ => fw_mem s h p ss n q
  | j + 1, q, hj => by
    show q ∈ goingF s (h + ((n - (j + 1) : Nat) : Int)) (fwF s h p ss (n - (j + 1))) (bkF s h p ss n j) ↔ _
    unfold goingF
    rw [List.mem_filter, goesF_iff]
    obtain ⟨k, hk⟩ : ∃ k, n - (j + 1) = k := ⟨_, rfl⟩
    have hk1 : n - j = k + 1 := by omega
    rw [hk]
    constructor
    · rintro ⟨m0, q1, m1, m2⟩
      obtain ⟨f1, w1, rfl⟩ := (fw_mem s h p ss k q).mp m0
      obtain ⟨f2, w2, rfl⟩ := (bk_mem s h p ss n j q1 (by omega)).mp m1
      rw [hk1] at m2
      refine ⟨fun i => if i ≤ k then f1 i else f2 i, ⟨?_, fun i hi => ?_, fun i hi => ?_⟩, ?_⟩
      · simp only [Nat.zero_le, if_true]; exact w1.at0
      · by_cases c : i < k
        · simp only [show i ≤ k by omega, show i + 1 ≤ k by omega, if_true]; exact w1.step i c
        · by_cases c2 : i = k
          · subst c2
            simp only [Nat.le_refl, show ¬ i + 1 ≤ i by omega, if_true, if_false]; exact m2
          · simp only [show ¬ i ≤ k by omega, show ¬ i + 1 ≤ k by omega, if_false]; exact w2.step i hi
      · by_cases c : i ≤ k
        · simp only [c, if_true]; exact w1.fit i c
        · simp only [c, if_false]; exact w2.fit i hi
      · simp only [Nat.le_refl, if_true]
    · rintro ⟨f, w, rfl⟩
      refine ⟨(fw_mem s h p ss k _).mpr ⟨f, w.pre (by omega), rfl⟩, f (k + 1), (bk_mem s h p ss n j _ (by omega)).mpr ⟨f, w, by rw [hk1]⟩, w.step k (by omega)⟩
theorem no_way {s : Sky} {h : Int} {p : St} {ss : List Si} {n m : Nat} (hm : m ≤ n) (e : fwF s h p ss m = []) (f : Nat → St) : ¬ Way s h p ss n f := fun w => by
  have := (fw_mem s h p ss m (f m)).mpr ⟨f, w.pre hm, rfl⟩
  rw [e] at this
  cases this
/-! ### refused -/
theorem fitting_bad {c0 : DF'} (ss : List Si) (hc : ∀ (h : Int) (s : St), c0 [.lst (ss.map siD), .int h, tD s] = .ok (.bl (fitF ss h s.1 s.2.1 s.2.2.1))) (h : Int) (h0 : 0 ≤ h) (h1 : h < 1000) (l : List St) (hz : l.length ≤ 1000000) (ne : fitL ss h l = []) :
    runF 5 (M_fitting c0) [.lst (ss.map siD), .int h, .lst (l.map tD)] = .exc "NothingFits" [("hour", .int h)] := by
  have c : dComp (dItems (dVar 2)) (gdName 4) (dCall c0 (dCons (dVar 0) (dCons (dVar 1) (dCons (dVar 4) dNil)))) (dImm (dVar 4)) [4] [some (.lst (ss.map siD)), some (.int h), some (.lst (l.map tD)), none, none] = .ok (.lst ((fitL ss h l).map tD)) :=
    dComp_filter (h := tD) (enc := tD) (fun p : St => fitF ss h p.1 p.2.1 p.2.2.1) l (by simp) hz fun p _ => ⟨_, rfl, by simp [hc], fun _ => by
      have im : imm (tD p) = true := rfl
      simp [im]⟩
  rw [ne] at c
  have sm := smallD_int h0 h1
  rw [runF_eq]
  simp only [List.map_nil] at c
  simp [M_fitting, c, sm]
theorem fitting_good {c0 : DF'} (ss : List Si) (hc : ∀ (h : Int) (s : St), c0 [.lst (ss.map siD), .int h, tD s] = .ok (.bl (fitF ss h s.1 s.2.1 s.2.2.1))) (h : Int) (l : List St) (hz : l.length ≤ 1000000) (ne : fitL ss h l ≠ []) :
    runF 5 (M_fitting c0) [.lst (ss.map siD), .int h, .lst (l.map tD)] = .ok (.lst ((fitL ss h l).map tD)) := by
  have c : dComp (dItems (dVar 2)) (gdName 4) (dCall c0 (dCons (dVar 0) (dCons (dVar 1) (dCons (dVar 4) dNil)))) (dImm (dVar 4)) [4] [some (.lst (ss.map siD)), some (.int h), some (.lst (l.map tD)), none, none] = .ok (.lst ((fitL ss h l).map tD)) :=
    dComp_filter (h := tD) (enc := tD) (fun p : St => fitF ss h p.1 p.2.1 p.2.2.1) l (by simp) hz fun p _ => ⟨_, rfl, by simp [hc], fun _ => by
      have im : imm (tD p) = true := rfl
      simp [im]⟩
  generalize fitL ss h l = r at c ne
  have z : ¬ ((r.length : Int) = 0) := fun e => ne (List.eq_nil_of_length_eq_zero (by omega))
  rw [runF_eq]
  simp [M_fitting, c, z, ne]
def Refused (s : Sky) (h : Int) (p : St) (ss : List Si) (n m : Nat) : Prop := m ≤ n ∧ fwF s h p ss m = [] ∧ ∀ k, k < m → fwF s h p ss k ≠ []
theorem range_at {α : Type} (f : Nat → α) {n k : Nat} (h : k < n) : ((List.range n).map f)[k]? = some (f k) := by
  rw [List.getElem?_map, List.getElem?_range h]
  rfl
theorem possible_all {c0 c1 c2 : DF'} (s : Sky) (ss : List Si) (h0 : ∀ (h : Int) (l later : List St), l.length ≤ 100000 → later.length ≤ 100000 → c0 [skyD s, .int h, .lst (l.map tD), .lst (later.map tD)] = .ok (.lst ((goingF s h l later).map tD)))
    (h1 : ∀ (h : Int) (l : List St), l.length ≤ 100000 → c1 [skyD s, .int h, .lst (l.map tD)] = .ok (.lst ((behindF s h l).map tD)))
    (h2 : ∀ (h : Int) (l : List St), l.length ≤ 1000000 → fitL ss h l ≠ [] → c2 [.lst (ss.map siD), .int h, .lst (l.map tD)] = .ok (.lst ((fitL ss h l).map tD)))
    (h3 : ∀ (h : Int) (l : List St), 0 ≤ h → h < 1000 → l.length ≤ 1000000 → fitL ss h l = [] → c2 [.lst (ss.map siD), .int h, .lst (l.map tD)] = .exc "NothingFits" [("hour", .int h)])
    (h : Int) (hh : 0 ≤ h ∧ h ≤ 100) (n : Nat) (hn : n ≤ 8) (p : St) :
    ((∀ k, k ≤ n → fwF s h p ss k ≠ []) ∧ runF 7 (M_possible c0 c1 c2) [skyD s, .int h, tD p, .int (h + n), .lst (ss.map siD)] = .ok (.lst ((rowsF s h p ss n).map rowD))) ∨
    ∃ m, Refused s h p ss n m ∧ runF 7 (M_possible c0 c1 c2) [skyD s, .int h, tD p, .int (h + n), .lst (ss.map siD)] = .exc "NothingFits" [("hour", .int (h + m))] := by
  have im : imm (tD p) = true := rfl
  have lm : lim62 h = true := by
    have := lim62_nat (n := h.toNat) (by omega)
    rw [show ((h.toNat : Nat) : Int) = h by omega] at this
    exact this
  have lm2 : lim62 (h + n) = true := by
    have := lim62_nat (n := (h + n).toNat) (by omega)
    rw [show (((h + n).toNat : Nat) : Int) = h + n by omega] at this
    exact this
  have rg : ∀ e5 e6, dRange2 (dVar 1) (dVar 3) [some (skyD s), some (.int h), some (tD p), some (.int (h + n)), some (.lst (ss.map siD)), e5, e6] = .ok ((List.range n).map fun (i : Nat) => D.int (h + (i : Int))) := fun e5 e6 => by
    show (if lim62 h && lim62 (h + n) then RG.ok (rangeD h 1 (h + n - h).toNat) else .bad) = _
    rw [lm, lm2, if_pos (show (true && true) = true from rfl), show (h + (n : Int) - h).toNat = n by omega]
    simp [rangeD]
  by_cases f00 : fitL ss h [p] = []
  · refine .inr ⟨0, ⟨by omega, f00, fun k hk => absurd hk (Nat.not_lt_zero _)⟩, ?_⟩
    have f0 := h3 h [p] (by omega) (by omega) (by simp) f00
    simp only [List.map_cons, List.map_nil] at f0
    rw [runF_eq]
    simp [M_possible, f0, im]
  have f0 := h2 h [p] (by simp) f00
  simp only [List.map_cons, List.map_nil] at f0
  have out := forGo_exit (gd := gdName 6) (body := M_possible_l2 c0 c1 c2) (ks := [6]) (enc := fun (i : Nat) => D.int (h + (i : Int)))
    (fun pre env => (∀ k, k ≤ pre.length → fwF s h p ss k ≠ []) ∧ env = [some (skyD s), some (.int h), some (tD p), some (.int (h + n)), some (.lst (ss.map siD)), some (.lst ((List.range (pre.length + 1)).map fun k => rowD (fwF s h p ss k))), none])
    (fun o => ∃ m e, Refused s h p ss n m ∧ o = .exc "NothingFits" [("hour", .int (h + m))] e) (List.range n)
    (env := [some (skyD s), some (.int h), some (tD p), some (.int (h + n)), some (.lst (ss.map siD)), some (.lst [rowD (fitL ss h [p])]), none])
    ⟨fun k hk => by
      obtain rfl : k = 0 := by simpa using hk
      exact f00, rfl⟩ fun pre k post env hi ⟨ne, ev⟩ => by
      subst ev
      obtain ⟨rfl, hk⟩ := pre_range hi
      have pw := fwF_small s h p ss (k := pre.length) (by omega)
      have last : atI ((List.range (pre.length + 1)).map fun k => rowD (fwF s h p ss k)) (-1) = some (rowD (fwF s h p ss pre.length)) := by
        rw [atI_lastL, List.getLast?_eq_getElem?, List.length_map, List.length_range]
        exact range_at _ (by omega)
      have b1 := h1 (h + pre.length) (fwF s h p ss pre.length) (by omega)
      have bl := behindF_len s (h + pre.length) (fwF s h p ss pre.length)
      refine ⟨_, rfl, ?_⟩
      by_cases c : fitL ss (h + pre.length + 1) (behindF s (h + pre.length) (fwF s h p ss pre.length)) = []
      · have b2 := h3 (h + pre.length + 1) (behindF s (h + pre.length) (fwF s h p ss pre.length)) (by omega) (by omega) (by omega) c
        refine .inr (.inr (.inr ⟨"NothingFits", [("hour", .int (h + pre.length + 1))], [some (skyD s), some (.int h), some (tD p), some (.int (h + n)), some (.lst (ss.map siD)), some (.lst ((List.range (pre.length + 1)).map fun k => rowD (fwF s h p ss k))), some (.int (h + (pre.length : Int)))], ?_, pre.length + 1, _, ⟨by omega, c, fun k hk => ne k (by omega)⟩, by rw [show h + ((pre.length + 1 : Nat) : Int) = h + pre.length + 1 by omega]⟩))
        simp only [rowD] at last
        simp [M_possible_l2, last, b1, b2, rowD, -List.map_map, -List.range_succ]
      · have b2 := h2 (h + pre.length + 1) (behindF s (h + pre.length) (fwF s h p ss pre.length)) (by omega) c
        have z : ((List.range (pre.length + 1)).map fun k => rowD (fwF s h p ss k)).length < sizeLine := lt_size (by simp; omega)
        refine .inl ⟨[some (skyD s), some (.int h), some (tD p), some (.int (h + n)), some (.lst (ss.map siD)), some (.lst (((List.range (pre.length + 1)).map fun k => rowD (fwF s h p ss k)) ++ [rowD (fwF s h p ss (pre.length + 1))])), some (.int (h + (pre.length : Int)))], .inl ?_, fun k hk => ?_, ?_⟩
        · have e : fwF s h p ss (pre.length + 1) = fitL ss (h + pre.length + 1) (behindF s (h + pre.length) (fwF s h p ss pre.length)) := rfl
          rw [e]
          generalize ((List.range (pre.length + 1)).map fun k => rowD (fwF s h p ss k)) = R at last z
          simp only [rowD] at last
          simp [M_possible_l2, last, b1, b2, z, rowD]
        · by_cases k1 : k ≤ pre.length
          · exact ne k k1
          · obtain rfl : k = pre.length + 1 := by simp at hk; omega
            exact c
        · rw [List.length_append]
          show _ = [_, _, _, _, _, some (D.lst ((List.range (pre.length + 1 + 1)).map fun k => rowD (fwF s h p ss k))), none]
          rw [List.range_succ (n := pre.length + 1), List.map_append]
          rfl
  rcases out with ⟨m, e, rf, e1⟩ | ⟨env', e1, ne, rfl⟩
  · refine .inr ⟨m, rf, ?_⟩
    rw [runF_eq]
    simp only [rowD] at e1
    simp [M_possible, dFor, f0, rg, e1, im, -List.map_map]
  · rw [List.length_range] at ne e1
    refine .inl ⟨ne, ?_⟩
    let G : Nat → List (List St) := fun i => (List.range (n + 1)).map fun k => if n ≤ k + i then bkF s h p ss n (n - k) else fwF s h p ss k
    have G0 : (List.range (n + 1)).map (fun k => rowD (fwF s h p ss k)) = (G 0).map rowD := by
      show _ = ((List.range (n + 1)).map _).map rowD
      rw [List.map_map]
      refine List.map_congr_left fun k hk => ?_
      have hk := List.mem_range.mp hk
      show rowD (fwF s h p ss k) = rowD (if n ≤ k + 0 then bkF s h p ss n (n - k) else fwF s h p ss k)
      by_cases c : n ≤ k + 0
      · obtain rfl : k = n := by omega
        rw [if_pos c, Nat.sub_self]
        rfl
      · rw [if_neg c]
    have Gn : G n = rowsF s h p ss n := List.map_congr_left fun k hk => if_pos (by omega)
    obtain ⟨env', e2, rfl⟩ := forGo_inv (gd := gdName 6) (body := M_possible_l1 c0 c1 c2) (ks := [6]) (enc := fun (i : Nat) => D.int ((n : Int) - 1 - (i : Int)))
      (fun pre env => env = [some (skyD s), some (.int h), some (tD p), some (.int (h + n)), some (.lst (ss.map siD)), some (.lst ((G pre.length).map rowD)), none]) (List.range n)
      (env := [some (skyD s), some (.int h), some (tD p), some (.int (h + n)), some (.lst (ss.map siD)), some (.lst ((List.range (n + 1)).map fun k => rowD (fwF s h p ss k))), none]) (by rw [G0]; rfl) fun pre k post env hi ev => by
        subst ev
        obtain ⟨rfl, hk⟩ := pre_range hi
        obtain ⟨m, hm, em⟩ : ∃ m : Nat, m + 1 + pre.length = n ∧ (n : Int) - 1 - (pre.length : Int) = (m : Int) := ⟨n - 1 - pre.length, by omega, by omega⟩
        have g0 : (G pre.length)[m]? = some (fwF s h p ss m) := (range_at _ (by omega)).trans (by rw [if_neg (by omega)])
        have g1 : (G pre.length)[m + 1]? = some (bkF s h p ss n pre.length) := (range_at _ (by omega)).trans (by rw [if_pos (by omega), show n - (m + 1) = pre.length by omega])
        have a0 : atI ((G pre.length).map rowD) (m : Int) = some (rowD (fwF s h p ss m)) := by rw [atI_natL, List.getElem?_map, g0]; rfl
        have a1 : atI ((G pre.length).map rowD) ((m : Int) + 1) = some (rowD (bkF s h p ss n pre.length)) := by rw [show (m : Int) + 1 = ((m + 1 : Nat) : Int) by omega, atI_natL, List.getElem?_map, g1]; rfl
        have s0 := fwF_small s h p ss (k := m) (by omega)
        have s1 := bkF_small s h p ss hn pre.length
        have g := h0 (h + m) (fwF s h p ss m) (bkF s h p ss n pre.length) (by omega) (by omega)
        have put := putD_at ((G pre.length).map rowD) m (rowD (goingF s (h + m) (fwF s h p ss m) (bkF s h p ss n pre.length))) (by simp [G]; omega)
        rw [← List.map_set] at put
        have eG : (G pre.length).set m (goingF s (h + m) (fwF s h p ss m) (bkF s h p ss n pre.length)) = G (pre.length + 1) := by
          have eb : goingF s (h + m) (fwF s h p ss m) (bkF s h p ss n pre.length) = bkF s h p ss n (pre.length + 1) := by
            show _ = goingF s (h + ((n - (pre.length + 1) : Nat) : Int)) (fwF s h p ss (n - (pre.length + 1))) (bkF s h p ss n pre.length)
            rw [show n - (pre.length + 1) = m by omega]
          rw [eb]
          refine List.ext_getElem? fun k => ?_
          by_cases kn : k < n + 1
          · rw [show (G (pre.length + 1))[k]? = some (if n ≤ k + (pre.length + 1) then bkF s h p ss n (n - k) else fwF s h p ss k) from range_at _ kn]
            by_cases c : k = m
            · subst c
              rw [List.getElem?_set_self (by simp [G]; omega), if_pos (by omega), show n - k = pre.length + 1 by omega]
            · rw [List.getElem?_set_ne (Ne.symm c), show (G pre.length)[k]? = some (if n ≤ k + pre.length then bkF s h p ss n (n - k) else fwF s h p ss k) from range_at _ kn]
              by_cases c2 : n ≤ k + pre.length
              · rw [if_pos c2, if_pos (by omega)]
              · rw [if_neg c2, if_neg (by omega)]
          · rw [List.getElem?_eq_none (by simp [G]; omega), List.getElem?_eq_none (by simp [G]; omega)]
        rw [eG] at put
        refine ⟨_, rfl, [some (skyD s), some (.int h), some (tD p), some (.int (h + n)), some (.lst (ss.map siD)), some (.lst ((G (pre.length + 1)).map rowD)), some (.int ((n : Int) - 1 - (pre.length : Int)))], .inl ?_, by simp⟩
        simp only [em]
        generalize (G pre.length).map rowD = R0 at put a0 a1
        generalize (G (pre.length + 1)).map rowD = R1 at put
        simp only [rowD] at a0 a1 put
        simp [M_possible_l1, a0, a1, g, put, -List.map_set, -List.getElem?_map]
    rw [List.length_range, Gn] at e2
    have rr : dRevR (dBin gSubI (dCallO gLen (dCons (dVar 5) dNil)) (dC (.int (1)))) [some (skyD s), some (.int h), some (tD p), some (.int (h + n)), some (.lst (ss.map siD)), some (.lst ((List.range (n + 1)).map fun k => rowD (fwF s h p ss k))), none] = .ok ((List.range n).map fun (i : Nat) => D.int ((n : Int) - 1 - (i : Int))) :=
      dRevR_ok (n := n) (by simp) (by omega)
    rw [runF_eq]
    generalize ((List.range (n + 1)).map fun k => rowD (fwF s h p ss k)) = R0 at e1 e2 rr
    generalize (rowsF s h p ss n).map rowD = R1 at e2
    simp only [rowD] at e1
    simp [M_possible, dFor, f0, rg, rr, e1, e2, im, -List.map_map]
/-! ### what the law makes of it -/
noncomputable def ansV (s : Sky) (h : Int) (p : St) (ss : List Si) (n : Nat) : D := match (List.range (n + 1)).find? fun k => (fwF s h p ss k).isEmpty with
  | none => .lst ((rowsF s h p ss n).map rowD)
  | some m => .int (h + m)
theorem ansV_good {s : Sky} {h : Int} {p : St} {ss : List Si} {n : Nat} (g : ∀ k, k ≤ n → fwF s h p ss k ≠ []) : ansV s h p ss n = .lst ((rowsF s h p ss n).map rowD) := by
  unfold ansV
  rw [List.find?_eq_none.mpr fun k hk => by
    have := g k (by have := List.mem_range.mp hk; omega)
    simpa using this]
theorem ansV_bad {s : Sky} {h : Int} {p : St} {ss : List Si} {n m : Nat} (r : Refused s h p ss n m) : ansV s h p ss n = .int (h + m) := by
  unfold ansV
  have : (List.range (n + 1)).find? (fun k => (fwF s h p ss k).isEmpty) = some m := by
    rw [List.find?_eq_some_iff_append]
    refine ⟨by rw [r.2.1]; rfl, List.range m, (List.range (n + 1 - (m + 1))).map (m + 1 + ·), ?_, fun k hk => by
      have := r.2.2 k (List.mem_range.mp hk)
      simpa using this⟩
    rw [show n + 1 = m + 1 + (n + 1 - (m + 1)) by have := r.1; omega, List.range_add, List.range_succ]
    simp
  rw [this]
theorem ansV_congr {s : Sky} {h : Int} {p : St} {ss ss' : List Si} (n : Nat) (e : ∀ h x y z, fitF ss h x y z = fitF ss' h x y z) : ansV s h p ss n = ansV s h p ss' n := by
  have ef : ∀ h l, fitL ss h l = fitL ss' h l := fun h l => by
    unfold fitL
    congr 1
    funext p
    exact e _ _ _ _
  have e1 : ∀ k, fwF s h p ss k = fwF s h p ss' k := fun k => by
    induction k with
    | zero => exact ef _ _
    | succ k ih => show fitL ss _ _ = fitL ss' _ _; rw [ih, ef]
  have e2 : ∀ j, bkF s h p ss n j = bkF s h p ss' n j := fun j => by
    induction j with
    | zero => exact e1 n
    | succ j ih => show goingF _ _ _ _ = goingF _ _ _ _; rw [ih, e1]
  have e3 : rowsF s h p ss n = rowsF s h p ss' n := List.map_congr_left fun k _ => e2 _
  unfold ansV
  rw [e3]
  have : (fun k => (fwF s h p ss k).isEmpty) = fun k => (fwF s h p ss' k).isEmpty := funext fun k => by rw [e1]
  rw [this]
theorem answer3_ok {c0 : DF'} {as ds : List D} (h : c0 as = .ok (.lst ds)) (h5 : as.length = 5) : runF 7 (M_law_answer_3 c0) as = .ok (.lst ds) := by
  obtain ⟨a, b, c, d, e, rfl⟩ : ∃ a b c d e, as = [a, b, c, d, e] := by
    match as, h5 with
    | [a, b, c, d, e], _ => exact ⟨a, b, c, d, e, rfl⟩
  rw [runF_eq]
  simp [M_law_answer_3, h]
theorem answer3_out {c0 : DF'} {as : List D} {i : Int} (h : c0 as = .exc "NothingFits" [("hour", .int i)]) (h5 : as.length = 5) : runF 7 (M_law_answer_3 c0) as = .ok (.int i) := by
  obtain ⟨a, b, c, d, e, rfl⟩ : ∃ a b c d e, as = [a, b, c, d, e] := by
    match as, h5 with
    | [a, b, c, d, e], _ => exact ⟨a, b, c, d, e, rfl⟩
  have pk : (pickF [("hour", D.int i)] [("hour" : Str)]).bind (mkF false) = some (.int i) := by
    simp [pickF, mkF]
  rw [runF_eq]
  simp [M_law_answer_3, h, tryO_exc, pk]
end Lw

/-! Sp21: layers of states, and sightings, as a law draws them. -/
namespace Lw
open PySem PySem.Spec PyProof.Rows L2 Dl
theorem statesF_z {s : Sky} {h : Int} {p : St} (hz : 0 ≤ p.2.2.1) : ∀ (n : Nat), ∀ q ∈ statesF s h p n, 0 ≤ q.2.2.1
  | 0, q, hq => by rw [show q = p from List.mem_singleton.mp hq]; exact hz
  | n + 1, q, hq => by
    obtain ⟨q0, h0, h1⟩ := (behindF_mem s (h + n) (statesF s h p n) q).mp hq
    exact fromF_z h1 (statesF_z hz n q0 h0)
theorem layers_ok {c0 : DF'} (s : Sky) (h0 : ∀ (h : Int) (l : List St), (∀ p ∈ l, 0 ≤ p.2.2.1) → l.length ≤ 100000 → c0 [skyD s, .int h, .lst (l.map tD)] = .ok (.lst ((behindF s h l).map tD))) (h : Int) (p : St) (hz : 0 ≤ p.2.2.1) (n : Nat) (hn : n ≤ 8) :
    runF 6 (M_law_layers c0) [skyD s, .int h, tD p, .int (n : Int)] = .ok (.lst (((List.range (n + 1)).map (statesF s h p)).map fun l => .lst (l.map tD))) := by
  obtain ⟨env', e1, rfl⟩ := forGo_inv (gd := gdName 5) (body := M_law_layers_l1 c0) (ks := [5]) (enc := fun (i : Nat) => D.int (i : Int))
    (fun pre env => env = [some (skyD s), some (.int h), some (tD p), some (.int (n : Int)), some (.lst (((List.range (pre.length + 1)).map (statesF s h p)).map fun l => .lst (l.map tD))), none]) (List.range n)
    (env := [some (skyD s), some (.int h), some (tD p), some (.int (n : Int)), some (.lst [.lst [tD p]]), none]) rfl fun pre k post env hi ev => by
      subst ev
      obtain ⟨rfl, hk⟩ := pre_range hi
      have hl := Nat.le_trans (statesF_len s h p pre.length) (pow3 (by omega))
      have b := h0 (h + pre.length) (statesF s h p pre.length) (statesF_z hz _) (by omega)
      have last : atI (((List.range (pre.length + 1)).map (statesF s h p)).map fun l => D.lst (l.map tD)) (-1) = some (.lst ((statesF s h p pre.length).map tD)) := by
        rw [List.map_map, atI_lastL, List.getLast?_eq_getElem?, List.length_map, List.length_range]
        exact range_at _ (by omega)
      have z : (((List.range (pre.length + 1)).map (statesF s h p)).map fun l => D.lst (l.map tD)).length < sizeLine := lt_size (by simp; omega)
      refine ⟨_, rfl, [some (skyD s), some (.int h), some (tD p), some (.int (n : Int)), some (.lst ((((List.range (pre.length + 1)).map (statesF s h p)).map fun l => .lst (l.map tD)) ++ [.lst ((statesF s h p (pre.length + 1)).map tD)])), some (.int (pre.length : Int))], .inl ?_, ?_⟩
      · have e : statesF s h p (pre.length + 1) = behindF s (h + pre.length) (statesF s h p pre.length) := rfl
        rw [e]
        generalize (((List.range (pre.length + 1)).map (statesF s h p)).map fun l => D.lst (l.map tD)) = R at last z
        simp [M_law_layers_l1, last, b, z]
      · rw [List.length_append]
        show _ = [_, _, _, _, some (D.lst (((List.range (pre.length + 1 + 1)).map (statesF s h p)).map fun l => .lst (l.map tD))), _]
        rw [List.range_succ (n := pre.length + 1), List.map_append, List.map_append]
        rfl
  rw [List.length_range] at e1
  have im : imm (tD p) = true := rfl
  rw [runF_eq]
  simp [M_law_layers, dFor, rng_nat (show n < 2 ^ 62 by omega), e1, im, -List.map_map]
/-- sightings as they are drawn, as many as the first number says -/
theorem sights_gen {c0 : DF'} {d : List Int} {n : Nat} (hd : Dr n d) {x0 : Int} (e0 : atI (d.map D.int) 0 = some (.int x0)) (x00 : 0 ≤ x0) (hn : 1 + 10 * (x0 % 6) ≤ n) {x y : Int} (hc : ∀ (d0 d1 d2 d3 d4 d5 : Int) (r : List Int), c0 [.lst ((d0 :: d1 :: d2 :: d3 :: d4 :: d5 :: r).map D.int), .tup [.int x, .int y]] = .ok (boxN x y d0 d1 d2 d3 d4 d5))
    (h : Int) (layers : List (List St)) (m : Nat) (hm : layers.length = m + 1) (hz : ∀ l ∈ layers, ∀ s ∈ l, 0 ≤ s.2.2.1) :
    ∃ ss : List Si, ss.length = (x0 % 6).toNat ∧ (∀ t ∈ ss, h ≤ t.w ∧ t.w ≤ h + m) ∧ runF 12 (M_law_sights c0) [.lst (d.map D.int), .int h, .int (m : Int), .lst (layers.map fun l => .lst (l.map tD)), .tup [.int x, .int y]] = .ok (.lst (ss.map siD)) := by
  have hr : (x0 % 6).toNat ≤ 5 := by omega
  obtain ⟨env', h1, ss, rfl, h2, h3⟩ := forGo_inv (gd := gdName 6) (body := M_law_sights_l1 c0) (ks := [6, 7, 8, 9, 10, 11]) (enc := fun (i : Nat) => D.int (i : Int))
    (fun pre env => ∃ ss : List Si, env = [some (.lst (d.map D.int)), some (.int h), some (.int (m : Int)), some (.lst (layers.map fun l => .lst (l.map tD))), some (.tup [.int x, .int y]), some (.lst (ss.map siD)), none, none, none, none, none, none] ∧ ss.length = pre.length ∧ ∀ t ∈ ss, h ≤ t.w ∧ t.w ≤ h + m) (List.range (x0 % 6).toNat)
    (env := [some (.lst (d.map D.int)), some (.int h), some (.int (m : Int)), some (.lst (layers.map fun l => .lst (l.map tD))), some (.tup [.int x, .int y]), some (.lst []), none, none, none, none, none, none]) ⟨[], rfl, by simp, by simp⟩ fun pre k post env hi ⟨ss, ev, h2, h3⟩ => by
      subst ev
      obtain ⟨rfl, hk⟩ := pre_range hi
      obtain ⟨d', hd', ed⟩ := dr_cutI hd (i := 1 + 10 * (pre.length : Int)) (j := 11 + 10 * (pre.length : Int)) (1 + 10 * pre.length) (11 + 10 * pre.length) (by omega) (by omega) (by omega) (by omega)
      rw [show 11 + 10 * pre.length - (1 + 10 * pre.length) = 10 by omega] at hd'
      obtain ⟨d0, d1, d2, d3, d4, d5, d6, d7, d8, d9, rfl, _, _, _, _, _, _, _, _, _, _⟩ := dr10 hd'
      have eb := hc d1 d2 d3 d4 d5 d6 []
      have cut : cutD [D.int d0, D.int d1, D.int d2, D.int d3, D.int d4, D.int d5, D.int d6, D.int d7, D.int d8, D.int d9] (some 1) (some 7) = [D.int d1, D.int d2, D.int d3, D.int d4, D.int d5, D.int d6] := rfl
      simp at eb
      have hz0 : ss.length < sizeLine := lt_size (by omega)
      have mm : gModI (.int d0) (.int ((m : Int) + 1)) = some (.int (d0 % ((m : Int) + 1))) := gModI_pos (by omega)
      have q1 := Int.emod_nonneg d0 (b := (m : Int) + 1) (by omega)
      have q2 := Int.emod_lt_of_pos d0 (b := (m : Int) + 1) (by omega)
      obtain ⟨l, hl, el⟩ := atI_map (fun l => D.lst (l.map tD)) layers (i := d0 % ((m : Int) + 1)) q1 (by omega)
      have app : ∀ t : Si, t.w = h + d0 % ((m : Int) + 1) → (ss ++ [t]).length = (pre ++ [pre.length]).length ∧ ∀ t' ∈ ss ++ [t], h ≤ t'.w ∧ t'.w ≤ h + m := fun t ht => ⟨by simp; omega, fun t' h' => by
        rcases List.mem_append.mp h' with h' | h'
        · exact h3 t' h'
        · rw [List.mem_singleton.mp h', ht]; omega⟩
      refine ⟨_, rfl, ?_⟩
      by_cases c1 : 0 < l.length
      · by_cases c2 : 0 < d7 % 4
        · obtain ⟨s, hs, es⟩ := atI_map tD l (i := d8 % (l.length : Int)) (Int.emod_nonneg _ (by omega)) (Int.emod_lt_of_pos _ (by omega))
          have es : atI (l.map tD) (d8 % (l.length : Int)) = some (.tup [.int s.1, .int s.2.1, .int s.2.2.1, .int s.2.2.2.1, .int s.2.2.2.2]) := es
          have m8 : gModI (.int d8) (.int (l.length : Int)) = some (.int (d8 % (l.length : Int))) := gModI_pos (by omega)
          have sz := hz l hl s hs
          have mz : gModI (.int d3) (.int (s.2.2.1 + 1)) = some (.int (d3 % (s.2.2.1 + 1))) := gModI_pos (by omega)
          refine ⟨_, .inl (by simp [M_law_sights_l1, ed, mm, el, c1, c2, m8, es, mz, cut, eb, boxN, box6, hz0]; rfl), ss ++ [⟨h + d0 % ((m : Int) + 1), s.1 - d7 / 4 % 3, s.2.1 - d1 % 3, s.1 + d2 % 3, s.2.1 + d7 / 4 % 3, d3 % (s.2.2.1 + 1), 5, decide (0 < d9 % 3)⟩], by simp [siD], app _ rfl⟩
        · refine ⟨_, .inl (by simp [M_law_sights_l1, ed, mm, el, c1, c2, cut, eb, boxN, box6, hz0]; rfl), ss ++ [⟨h + d0 % ((m : Int) + 1), x + d1 % 9 - 4, y + d2 % 9 - 4, x + d1 % 9 - 4 + d3 % 4, y + d2 % 9 - 4 + d4 % 4, d5 % 6, d5 % 6 + d6 % (6 - d5 % 6), decide (0 < d9 % 3)⟩], by simp [siD], app _ rfl⟩
      · refine ⟨_, .inl (by simp [M_law_sights_l1, ed, mm, el, c1, cut, eb, boxN, box6, hz0]; rfl), ss ++ [⟨h + d0 % ((m : Int) + 1), x + d1 % 9 - 4, y + d2 % 9 - 4, x + d1 % 9 - 4 + d3 % 4, y + d2 % 9 - 4 + d4 % 4, d5 % 6, d5 % 6 + d6 % (6 - d5 % 6), decide (0 < d9 % 3)⟩], by simp [siD], app _ rfl⟩
  refine ⟨ss, by simpa using h2, h3, ?_⟩
  have rg : rng (x0 % 6) = .ok ((List.range (x0 % 6).toNat).map fun (i : Nat) => D.int (i : Int)) := rng_ok (by omega) (by omega)
  simp only [atI_lit, atI_zero] at e0
  rw [runF_eq]
  simp [M_law_sights, dFor, e0, rg, h1, -List.getElem?_map]
end Lw

/-! Sp22: the states that none at their place and height beats. -/
namespace Lw
open PySem PySem.Spec PyProof.Rows L2 Dl
def spot (s : St) : Sp := (s.1, s.2.1, s.2.2.1)
def pairF (s : St) : Pr := (s.2.2.2.1, s.2.2.2.2)
theorem st_ext {a b : St} (h1 : spot a = spot b) (h2 : pairF a = pairF b) : a = b := by
  obtain ⟨a1, a2, a3, a4, a5⟩ := a
  obtain ⟨b1, b2, b3, b4, b5⟩ := b
  simp [spot] at h1
  simp [pairF] at h2
  simp [h1, h2]
def spL (p : Sp) : List Int := [p.1, p.2.1, p.2.2]
theorem spL_inj (a b : Sp) (h : spL a = spL b) : a = b := by
  obtain ⟨a1, a2, a3⟩ := a
  obtain ⟨b1, b2, b3⟩ := b
  simp [spL] at h
  simp [h]
theorem keyEq_sp (a b : Sp) : keyEq (spD a) (spD b) = decide (a = b) := by
  show keyEq (iD (spL a)) (iD (spL b)) = _
  rw [keyEq_iD]
  exact decide_eq_decide.mpr ⟨spL_inj a b, fun h => by rw [h]⟩
theorem keyFits_sp (a : Sp) : keyFits true (spD a) = true := keyFits_iD (spL a)
theorem idx_map {α : Type} [DecidableEq α] {e : α → D} (he : ∀ a b, keyEq (e a) (e b) = decide (a = b)) (x : α) : ∀ L : List α, (x ∉ L → idxD (L.map e) (e x) = none) ∧ (x ∈ L → ∃ j, idxD (L.map e) (e x) = some j ∧ L[j]? = some x)
  | [] => ⟨fun _ => rfl, fun h => by cases h⟩
  | y :: L => by
    have ih := idx_map he x L
    have u : idxD ((y :: L).map e) (e x) = if keyEq (e y) (e x) then some 0 else (idxD (L.map e) (e x)).map (· + 1) := rfl
    rw [u, he]
    by_cases h : y = x
    · subst h
      exact ⟨fun n => absurd (by simp) n, fun _ => ⟨0, by simp, rfl⟩⟩
    · rw [if_neg (by simpa using h)]
      refine ⟨fun n => ?_, fun m => ?_⟩
      · rw [ih.1 fun z => n (List.mem_cons_of_mem _ z)]
        rfl
      · obtain ⟨j, e1, e2⟩ := ih.2 ((List.mem_cons.mp m).resolve_left fun z => h z.symm)
        exact ⟨j + 1, by rw [e1]; rfl, e2⟩
theorem lookD_map {α : Type} [DecidableEq α] {e : α → D} (he : ∀ a b, keyEq (e a) (e b) = decide (a = b)) (g : α → D) (x : α) : ∀ L : List α, x ∈ L → lookD (L.map e) (L.map g) (e x) = some (g x)
  | [], h => by cases h
  | y :: L, h => by
    show (if keyEq (e y) (e x) then some (g y) else lookD (L.map e) (L.map g) (e x)) = _
    rw [he]
    by_cases c : y = x
    · subst c; simp
    · rw [if_neg (by simpa using c)]
      exact lookD_map he g x L ((List.mem_cons.mp h).resolve_left fun z => c z.symm)
def grpF (l : List St) (k : Sp) : List Pr := (l.filter fun s => decide (spot s = k)).map pairF
def keysF (l : List St) : List Sp := (l.map spot).foldl addL []
def grpD (l : List St) (k : Sp) : D := .lst ((grpF l k).map pqD)
theorem keysF_mem (l : List St) (k : Sp) : k ∈ keysF l ↔ ∃ s ∈ l, spot s = k := by
  unfold keysF
  rw [mem_addAll]
  simp
theorem keysF_nodup (l : List St) : (keysF l).Nodup := nodup_addAll (by simp)
theorem keysF_snoc (l : List St) (s : St) : keysF (l ++ [s]) = addL (keysF l) (spot s) := by
  unfold keysF
  rw [List.map_append, List.foldl_append]
  rfl
theorem keysF_len (l : List St) : (keysF l).length ≤ l.length := by
  have := len_addAll (xs := l.map spot) (L := ([] : List Sp))
  simpa [keysF] using this
theorem grpF_len (l : List St) (k : Sp) : (grpF l k).length ≤ l.length := by
  unfold grpF
  rw [List.length_map]
  exact List.length_filter_le _ _
theorem grpF_new (l : List St) (k : Sp) (h : k ∉ keysF l) : grpF l k = [] := by
  unfold grpF
  rw [List.filter_eq_nil_iff.mpr fun s hs e => h ((keysF_mem l k).mpr ⟨s, hs, of_decide_eq_true e⟩)]
  rfl
theorem grp_set (l : List St) (s : St) (keys : List Sp) (nd : keys.Nodup) (j : Nat) (hj : keys[j]? = some (spot s)) : (keys.map (grpD l)).set j (.lst ((grpF l (spot s)).map pqD ++ [pqD (pairF s)])) = keys.map (grpD (l ++ [s])) := by
  refine List.ext_getElem? fun i => ?_
  rw [List.getElem?_map]
  by_cases c : i = j
  · subst c
    have hl := (List.getElem?_eq_some_iff.mp hj).1
    rw [List.getElem?_set_self (by simpa using hl), hj]
    simp [grpD, grpF, List.filter_append]
  · rw [List.getElem?_set_ne (Ne.symm c), List.getElem?_map]
    cases e : keys[i]? with
    | none => rfl
    | some k =>
      have ne : spot s ≠ k := fun y => c (nodup_at nd (by rw [e, ← y]) hj)
      simp [grpD, grpF, List.filter_append, ne]
def enU (l pre : List St) (r : List (Option D)) : DEnv := some (.lst (l.map tD)) :: some (.dic true ((keysF pre).map spD) ((keysF pre).map (grpD pre))) :: r
theorem unb_turn {c0 : DF'} (l pre : List St) (s : St) (hl : pre.length ≤ 100000) : M_unbeaten_l3 c0 (enU l pre [some (.int s.1), some (.int s.2.1), some (.int s.2.2.1), some (.int s.2.2.2.1), some (.int s.2.2.2.2), none, none]) = .nx (enU l (pre ++ [s]) [some (.int s.1), some (.int s.2.1), some (.int s.2.2.1), some (.int s.2.2.2.1), some (.int s.2.2.2.2), some (spD (spot s)), none]) := by
  have kf : keyFits true (.tup [.int s.1, .int s.2.1, .int s.2.2.1]) = true := keyFits_sp (spot s)
  have gl := grpF_len pre (spot s)
  have kl := keysF_len pre
  have z : (grpF pre (spot s)).length < sizeLine := lt_size (by omega)
  have zk : (keysF pre).length < sizeLine := lt_size (by omega)
  have im : imm (.tup [.int s.2.2.2.1, .int s.2.2.2.2]) = true := rfl
  have s3 : (3 : Nat) ≤ sizeLine := by decide
  have s2 : (2 : Nat) ≤ sizeLine := by decide
  have sp : spD (spot s) = .tup [.int s.1, .int s.2.1, .int s.2.2.1] := rfl
  obtain ⟨i1, i2⟩ := idx_map keyEq_sp (spot s) (keysF pre)
  by_cases m : spot s ∈ keysF pre
  · obtain ⟨j, e1, e2⟩ := i2 m
    have st := grp_set pre s (keysF pre) (keysF_nodup pre) j e2
    have ej : ((keysF pre).map (grpD pre))[j]? = some (.lst ((grpF pre (spot s)).map pqD)) := by rw [List.getElem?_map, e2]; rfl
    have ek : keysF (pre ++ [s]) = keysF pre := by rw [keysF_snoc]; unfold addL; rw [if_pos m]
    unfold enU
    rw [ek, ← st]
    generalize (keysF pre).map (grpD pre) = ws at ej
    generalize hks : (keysF pre).map spD = ks at e1
    rw [sp] at e1 ⊢
    simp [M_unbeaten_l3, dNotInD, dAppD, kf, e1, ej, im, z, s2, s3, pqD, pairF]
  · have e0 := i1 m
    have ek : keysF (pre ++ [s]) = keysF pre ++ [spot s] := by rw [keysF_snoc]; unfold addL; rw [if_neg m]
    obtain ⟨_, i3⟩ := idx_map keyEq_sp (spot s) (keysF pre ++ [spot s])
    obtain ⟨j, e1, e2⟩ := i3 (by simp)
    have nd : (keysF pre ++ [spot s]).Nodup := by rw [← ek]; exact keysF_nodup _
    have st := grp_set pre s (keysF pre ++ [spot s]) nd j e2
    have gn := grpF_new pre (spot s) m
    have ew : (keysF pre ++ [spot s]).map (grpD pre) = (keysF pre).map (grpD pre) ++ [.lst []] := by simp [grpD, gn]
    have ej : ((keysF pre ++ [spot s]).map (grpD pre))[j]? = some (.lst []) := by rw [List.getElem?_map, e2]; simp [grpD, gn]
    rw [gn] at st
    rw [ew] at st ej
    have ekk : (keysF pre ++ [spot s]).map spD = (keysF pre).map spD ++ [spD (spot s)] := by simp
    rw [ekk] at e1
    unfold enU
    rw [ek, ekk, ← st]
    generalize (keysF pre).map (grpD pre) = ws at ej
    have zk' : ((keysF pre).map spD).length < sizeLine := by rw [List.length_map]; exact zk
    generalize (keysF pre).map spD = ks at e0 e1 zk'
    rw [sp] at e0 e1 ⊢
    have z0 : (0 : Nat) < sizeLine := by decide
    simp [M_unbeaten_l3, dNotInD, dPutN, dAppD, kf, e0, e1, ej, im, z0, zk', s2, s3, pqD, pairF]
/-- what is left, by place -/
def mkS (k : Sp) (p : Pr) : St := (k.1, k.2.1, k.2.2, p.1, p.2)
def leftF (l : List St) (ks : List Sp) : List St := ks.flatMap fun k => (frontF (grpF l k)).map (mkS k)
def unbF (l : List St) : List St := srtF tL (leftF l (keysF l))
theorem unb_in {c0 : DF'} (l : List St) (r : List (Option D)) (k : Sp) : ∀ (ps : List Pr) (acc : List St), acc.length + ps.length ≤ 1000000 →
    forGo (gdTup 2 (gdCons (gdName 5) (gdCons (gdName 6) gdNil))) (M_unbeaten_l1 c0) [5, 6] (ps.map pqD) (enU l l [some (.int k.1), some (.int k.2.1), some (.int k.2.2), none, none, none, some (.lst (acc.map tD))]) = .nx (enU l l [some (.int k.1), some (.int k.2.1), some (.int k.2.2), none, none, none, some (.lst ((acc ++ ps.map (mkS k)).map tD))])
  | [], acc, _ => by simp
  | p :: ps, acc, h => by
    rw [List.length_cons] at h
    have ih := unb_in (c0 := c0) l r k ps (acc ++ [mkS k p]) (by simp; omega)
    have z : acc.length < sizeLine := lt_size (by omega)
    have s5 : (5 : Nat) ≤ sizeLine := by decide
    have im : imm (.tup [.int k.1, .int k.2.1, .int k.2.2, .int p.1, .int p.2]) = true := rfl
    rw [List.map_cons, forGo_cons (e1 := enU l l [some (.int k.1), some (.int k.2.1), some (.int k.2.2), some (.int p.1), some (.int p.2), none, some (.lst (acc.map tD))]) (by simp [enU, pqD])]
    have b : M_unbeaten_l1 c0 (enU l l [some (.int k.1), some (.int k.2.1), some (.int k.2.2), some (.int p.1), some (.int p.2), none, some (.lst (acc.map tD))]) = .nx (enU l l [some (.int k.1), some (.int k.2.1), some (.int k.2.2), some (.int p.1), some (.int p.2), none, some (.lst ((acc ++ [mkS k p]).map tD))]) := by
      simp [M_unbeaten_l1, enU, z, s5, im, mkS, tD]
    rw [b, forK_nx]
    rw [show acc ++ (p :: ps).map (mkS k) = (acc ++ [mkS k p]) ++ ps.map (mkS k) by simp]
    exact ih
theorem front_len (l : List Pr) : (frontF l).length ≤ l.length := by
  unfold frontF
  rw [List.length_reverse]
  refine Nat.le_trans (frontGo_len _ _) ?_
  rw [List.length_reverse, (srtF_perm prL l).length_eq]
  exact Nat.le_refl _
theorem unb_out {c0 : DF'} (h0 : ∀ ps : List Pr, ps.length ≤ 100000 → c0 [.lst (ps.map pqD)] = .ok (.lst ((frontF ps).map pqD))) (l : List St) (hl : l.length ≤ 100000) : ∀ (ks : List Sp) (acc : List St), (∀ k ∈ ks, k ∈ keysF l) → acc.length + (leftF l ks).length ≤ 1000000 →
    forGo (gdTup 3 (gdCons (gdName 2) (gdCons (gdName 3) (gdCons (gdName 4) gdNil)))) (M_unbeaten_l2 c0) [2, 3, 4, 5, 6] (ks.map spD) (enU l l [none, none, none, none, none, none, some (.lst (acc.map tD))]) = .nx (enU l l [none, none, none, none, none, none, some (.lst ((acc ++ leftF l ks).map tD))])
  | [], acc, _, _ => by simp [leftF]
  | k :: ks, acc, hk, h => by
    have el : (leftF l (k :: ks)).length = (frontF (grpF l k)).length + (leftF l ks).length := by simp [leftF]
    have gl := grpF_len l k
    have fl := front_len (grpF l k)
    have ih := unb_out (c0 := c0) h0 l hl ks (acc ++ (frontF (grpF l k)).map (mkS k)) (fun k' h' => hk k' (List.mem_cons_of_mem _ h')) (by simp; omega)
    have in_ := unb_in (c0 := c0) l [] k (frontF (grpF l k)) acc (by omega)
    have lk := lookD_map keyEq_sp (grpD l) k (keysF l) (hk k (by simp))
    have kf : keyFits true (.tup [.int k.1, .int k.2.1, .int k.2.2]) = true := keyFits_sp k
    have f := h0 (grpF l k) (by omega)
    have s3 : (3 : Nat) ≤ sizeLine := by decide
    rw [List.map_cons, forGo_cons (e1 := enU l l [some (.int k.1), some (.int k.2.1), some (.int k.2.2), none, none, none, some (.lst (acc.map tD))]) (by simp [enU, spD])]
    have b : M_unbeaten_l2 c0 (enU l l [some (.int k.1), some (.int k.2.1), some (.int k.2.2), none, none, none, some (.lst (acc.map tD))]) = .nx (enU l l [some (.int k.1), some (.int k.2.1), some (.int k.2.2), none, none, none, some (.lst ((acc ++ (frontF (grpF l k)).map (mkS k)).map tD))]) := by
      have lk' : gIx (.dic true ((keysF l).map spD) ((keysF l).map (grpD l))) (.tup [.int k.1, .int k.2.1, .int k.2.2]) = some (.lst ((grpF l k).map pqD)) := by
        show (if keyFits true (.tup [.int k.1, .int k.2.1, .int k.2.2]) then lookD _ _ _ else none) = _
        rw [if_pos kf]
        exact lk
      unfold enU at in_ ⊢
      simp [M_unbeaten_l2, dFor, lk', f, in_, s3]
    rw [b, forK_nx]
    rw [show acc ++ leftF l (k :: ks) = (acc ++ (frontF (grpF l k)).map (mkS k)) ++ leftF l ks by simp [leftF]]
    rw [← ih]
    congr 1
theorem split_len {α : Type} (p : α → Bool) : ∀ l : List α, (l.filter p).length + (l.filter fun x => !p x).length = l.length
  | [] => rfl
  | x :: l => by
    have := split_len p l
    by_cases h : p x = true
    · simp [h]
      omega
    · simp [h]
      omega
theorem grp_sum : ∀ (ks : List Sp), ks.Nodup → ∀ l : List St, (ks.flatMap (grpF l)).length ≤ l.length
  | [], _, l => by simp
  | k :: ks, nd, l => by
    obtain ⟨n1, n2⟩ := List.nodup_cons.mp nd
    have ih := grp_sum ks n2 (l.filter fun s => !decide (spot s = k))
    have e : ks.flatMap (grpF l) = ks.flatMap (grpF (l.filter fun s => !decide (spot s = k))) := by
      have : ∀ k' ∈ ks, grpF l k' = grpF (l.filter fun s => !decide (spot s = k)) k' := fun k' hk' => by
        have ne : k' ≠ k := fun z => n1 (z ▸ hk')
        unfold grpF
        rw [List.filter_filter]
        congr 2
        funext s
        by_cases c : spot s = k'
        · simp [c, ne]
        · simp [c]
      rw [List.flatMap_def, List.flatMap_def, List.map_congr_left this]
    have sp := split_len (fun s : St => decide (spot s = k)) l
    have gk : (grpF l k).length = (l.filter fun s => decide (spot s = k)).length := List.length_map _
    rw [List.flatMap_cons, List.length_append, e, gk]
    omega
theorem left_len (l : List St) : (leftF l (keysF l)).length ≤ l.length := by
  have h : ∀ ks : List Sp, (leftF l ks).length ≤ (ks.flatMap (grpF l)).length := fun ks => by
    induction ks with
    | nil => exact Nat.le_refl _
    | cons k ks ih =>
      have e1 : (leftF l (k :: ks)).length = (frontF (grpF l k)).length + (leftF l ks).length := by simp [leftF]
      have fl := front_len (grpF l k)
      rw [e1, List.flatMap_cons, List.length_append]
      omega
  exact Nat.le_trans (h _) (grp_sum _ (keysF_nodup l) l)
theorem unbeaten_ok {c0 : DF'} (h0 : ∀ ps : List Pr, ps.length ≤ 100000 → c0 [.lst (ps.map pqD)] = .ok (.lst ((frontF ps).map pqD))) (l : List St) (hl : l.length ≤ 100000) : runF 9 (M_unbeaten c0) [.lst (l.map tD)] = .ok (.lst ((unbF l).map tD)) := by
  obtain ⟨env', e1, rfl⟩ := forGo_inv (gd := gdTup 5 (gdCons (gdName 2) (gdCons (gdName 3) (gdCons (gdName 4) (gdCons (gdName 5) (gdCons (gdName 6) gdNil)))))) (body := M_unbeaten_l3 c0) (ks := [2, 3, 4, 5, 6, 7]) (enc := tD)
    (fun pre env => env = enU l pre [none, none, none, none, none, none, none]) l (env := enU l [] [none, none, none, none, none, none, none]) rfl fun pre s post env hi ev => by
      subst ev
      have hpl := pre_lt hi
      exact ⟨enU l pre [some (.int s.1), some (.int s.2.1), some (.int s.2.2.1), some (.int s.2.2.2.1), some (.int s.2.2.2.2), none, none], by simp [enU, tD], _, .inl (unb_turn l pre s (by omega)), by simp [enU]⟩
  have ll := left_len l
  have hz : (leftF l (keysF l)).length ≤ 1000000 := by omega
  have e2 := unb_out (c0 := c0) h0 l hl (keysF l) [] (fun k hk => hk) (by simpa using hz)
  simp only [List.nil_append, List.map_nil] at e2
  have srt : sortedO (.lst ((leftF l (keysF l)).map tD)) = some (.lst ((unbF l).map tD)) := sorted_F tL tL_len hz
  rw [runF_eq]
  simp only [enU, show keysF [] = [] from rfl, List.map_nil] at e1 e2
  simp [M_unbeaten, dFor, e1, dForK, e2, srt]
theorem unbF_len (l : List St) : (unbF l).length ≤ l.length := by
  unfold unbF
  rw [(srtF_perm tL _).length_eq]
  exact left_len l
/-! ### what is left -/
theorem grpF_mem (l : List St) (k : Sp) (p : Pr) : p ∈ grpF l k ↔ mkS k p ∈ l := by
  unfold grpF
  rw [List.mem_map]
  constructor
  · rintro ⟨s, hs, rfl⟩
    obtain ⟨h1, h2⟩ := List.mem_filter.mp hs
    have h2 := of_decide_eq_true h2
    rw [show mkS k (pairF s) = s from st_ext h2.symm rfl]
    exact h1
  · intro h
    exact ⟨_, List.mem_filter.mpr ⟨h, decide_eq_true rfl⟩, rfl⟩
theorem unbF_mem {l : List St} (h0 : ∀ s ∈ l, 0 ≤ s.2.2.2.2) (q : St) : q ∈ unbF l ↔ q ∈ l ∧ ∀ r ∈ l, spot r = spot q → ¬ beat (pairF r) (pairF q) := by
  unfold unbF
  rw [(srtF_perm tL _).mem_iff]
  unfold leftF
  rw [List.mem_flatMap]
  have hg : ∀ k, ∀ p ∈ grpF l k, 0 ≤ p.2 := fun k p hp => h0 _ ((grpF_mem l k p).mp hp)
  constructor
  · rintro ⟨k, _, hq⟩
    obtain ⟨p, hp, rfl⟩ := List.mem_map.mp hq
    obtain ⟨h1, h2⟩ := (frontF_mem (hg k) p).mp hp
    refine ⟨(grpF_mem l k p).mp h1, fun r hr e => h2 _ ((grpF_mem l k (pairF r)).mpr ?_)⟩
    rw [show mkS k (pairF r) = r from st_ext e.symm rfl]
    exact hr
  · rintro ⟨h1, h2⟩
    refine ⟨spot q, (keysF_mem l _).mpr ⟨q, h1, rfl⟩, List.mem_map.mpr ⟨pairF q, (frontF_mem (hg _) _).mpr ⟨(grpF_mem l _ _).mpr h1, fun p hp => ?_⟩, rfl⟩⟩
    exact h2 _ ((grpF_mem l _ p).mp hp) rfl
theorem exists_max {α : Type} (f : α → Int) : ∀ l : List α, l ≠ [] → ∃ x ∈ l, ∀ y ∈ l, f y ≤ f x
  | [], h => absurd rfl h
  | [x], _ => ⟨x, by simp, fun y hy => by rw [List.mem_singleton.mp hy]; exact Int.le_refl _⟩
  | x :: z :: l, _ => by
    obtain ⟨m, hm, h⟩ := exists_max f (z :: l) (by simp)
    by_cases c : f m ≤ f x
    · refine ⟨x, by simp, fun y hy => ?_⟩
      rcases List.mem_cons.mp hy with rfl | hy
      · exact Int.le_refl _
      · exact Int.le_trans (h y hy) c
    · refine ⟨m, List.mem_cons_of_mem _ hm, fun y hy => ?_⟩
      rcases List.mem_cons.mp hy with rfl | hy
      · omega
      · exact h y hy
/-- at the same place, with no more -/
def leS (a b : St) : Prop := spot a = spot b ∧ a.2.2.2.1 ≤ b.2.2.2.1 ∧ a.2.2.2.2 ≤ b.2.2.2.2
theorem leS_refl (a : St) : leS a a := ⟨rfl, Int.le_refl _, Int.le_refl _⟩
theorem leS_trans {a b c : St} (h1 : leS a b) (h2 : leS b c) : leS a c := ⟨h1.1.trans h2.1, Int.le_trans h1.2.1 h2.2.1, Int.le_trans h1.2.2 h2.2.2⟩
theorem unbF_top {l : List St} (h0 : ∀ s ∈ l, 0 ≤ s.2.2.2.2) (q : St) (hq : q ∈ l) : ∃ r ∈ unbF l, leS q r := by
  have dd : ∀ r : St, decide (spot q = spot r ∧ q.2.2.2.1 ≤ r.2.2.2.1 ∧ q.2.2.2.2 ≤ r.2.2.2.2) = true ↔ leS q r := fun r => decide_eq_true_iff
  obtain ⟨x, hx, hm⟩ := exists_max (fun s : St => s.2.2.2.1 + s.2.2.2.2) (l.filter fun r => decide (spot q = spot r ∧ q.2.2.2.1 ≤ r.2.2.2.1 ∧ q.2.2.2.2 ≤ r.2.2.2.2)) (fun e => by
    have : q ∈ l.filter fun r => decide (spot q = spot r ∧ q.2.2.2.1 ≤ r.2.2.2.1 ∧ q.2.2.2.2 ≤ r.2.2.2.2) := List.mem_filter.mpr ⟨hq, (dd q).mpr (leS_refl q)⟩
    rw [e] at this
    cases this)
  obtain ⟨hx1, hx2⟩ := List.mem_filter.mp hx
  have hx2 := (dd x).mp hx2
  refine ⟨x, (unbF_mem h0 x).mpr ⟨hx1, fun r hr e b => ?_⟩, hx2⟩
  obtain ⟨b1, b2, b3⟩ := b
  have b1 : x.2.2.2.1 ≤ r.2.2.2.1 := b1
  have b2 : x.2.2.2.2 ≤ r.2.2.2.2 := b2
  have hr2 : leS q r := ⟨hx2.1.trans e.symm, Int.le_trans hx2.2.1 b1, Int.le_trans hx2.2.2 b2⟩
  have := hm r (List.mem_filter.mpr ⟨hr, (dd r).mpr hr2⟩)
  have this : r.2.2.2.1 + r.2.2.2.2 ≤ x.2.2.2.1 + x.2.2.2.2 := this
  exact b3 (pr_ext (show r.2.2.2.1 = x.2.2.2.1 by omega) (show r.2.2.2.2 = x.2.2.2.2 by omega))
/-! ### more sacks and puffs: more can be flown -/
theorem led_le {s : Sky} {h : Int} {a b : St} (l : leS a b) (o : Od) : leS (ledF s h a o) (ledF s h b o) := by
  obtain ⟨a1, a2, a3, a4, a5⟩ := a
  obtain ⟨b1, b2, b3, b4, b5⟩ := b
  obtain ⟨e, l1, l2⟩ := l
  simp [spot] at e
  obtain ⟨rfl, rfl, rfl⟩ := e
  simp only at l1 l2
  refine ⟨rfl, ?_, ?_⟩
  · show a4 - _ ≤ b4 - _
    omega
  · show a5 - _ ≤ b5 - _
    omega
theorem held_iff (p : St) (o : Od) : heldF p o = "" ↔ ¬ (o.isUp = true ∧ p.2.2.2.1 = 0) ∧ ¬ (o.isDown = true ∧ p.2.2.2.2 = 0) ∧ ¬ (o.isUp = true ∧ p.2.2.1 = 5) ∧ ¬ (o.isDown = true ∧ p.2.2.1 = 0) := by
  have n1 : ¬ (("sacks" : Str) = "") := by decide +kernel
  have n2 : ¬ (("puffs" : Str) = "") := by decide +kernel
  have n3 : ¬ (("high" : Str) = "") := by decide +kernel
  have n4 : ¬ (("low" : Str) = "") := by decide +kernel
  unfold heldF
  by_cases c1 : o.isUp = true ∧ p.2.2.2.1 = 0
  · rw [if_pos c1]; exact ⟨fun e => absurd e n1, fun e => absurd c1 e.1⟩
  rw [if_neg c1]
  by_cases c2 : o.isDown = true ∧ p.2.2.2.2 = 0
  · rw [if_pos c2]; exact ⟨fun e => absurd e n2, fun e => absurd c2 e.2.1⟩
  rw [if_neg c2]
  by_cases c3 : o.isUp = true ∧ p.2.2.1 = 5
  · rw [if_pos c3]; exact ⟨fun e => absurd e n3, fun e => absurd c3 e.2.2.1⟩
  rw [if_neg c3]
  by_cases c4 : o.isDown = true ∧ p.2.2.1 = 0
  · rw [if_pos c4]; exact ⟨fun e => absurd e n4, fun e => absurd c4 e.2.2.2⟩
  rw [if_neg c4]
  exact ⟨fun _ => ⟨c1, c2, c3, c4⟩, fun _ => rfl⟩
theorem can_held {s : Sky} {h : Int} {p : St} {o : Od} (c : canF s h p o = true) : heldF p o = "" := by
  unfold canF whyF at c
  rw [dec_iff] at c
  by_cases e : heldF p o = ""
  · exact e
  · rw [if_neg e] at c
    exact c
theorem can_le {s : Sky} {h : Int} {a b : St} (l : leS a b) (a0 : 0 ≤ a.2.2.2.1 ∧ 0 ≤ a.2.2.2.2) {o : Od} (c : canF s h a o = true) : canF s h b o = true := by
  have ha := can_held c
  obtain ⟨i1, i2, i3, i4⟩ := (held_iff a o).mp ha
  have lp := led_le (s := s) (h := h) l o
  have e := l.1
  have ez : a.2.2.1 = b.2.2.1 := congrArg (fun t : Sp => t.2.2) e
  have l1 := l.2.1
  have l2 := l.2.2
  have hb : heldF b o = "" := (held_iff b o).mpr ⟨fun z => i1 ⟨z.1, by omega⟩, fun z => i2 ⟨z.1, by omega⟩, fun z => i3 ⟨z.1, by omega⟩, fun z => i4 ⟨z.1, by omega⟩⟩
  have e1 : (ledF s h a o).1 = (ledF s h b o).1 := congrArg (fun t : Sp => t.1) lp.1
  have e2 : (ledF s h a o).2.1 = (ledF s h b o).2.1 := congrArg (fun t : Sp => t.2.1) lp.1
  have e3 : (ledF s h a o).2.2.1 = (ledF s h b o).2.2.1 := congrArg (fun t : Sp => t.2.2) lp.1
  unfold canF whyF at c ⊢
  rw [dec_iff] at c ⊢
  rw [if_pos ha, e1, e2, e3] at c
  rw [if_pos hb]
  exact c
/-- sacks and puffs are no less than none -/
def posS (a : St) : Prop := 0 ≤ a.2.2.2.1 ∧ 0 ≤ a.2.2.2.2
theorem led_pos {s : Sky} {h : Int} {a : St} {o : Od} (p : posS a) (c : canF s h a o = true) : posS (ledF s h a o) := by
  obtain ⟨i1, i2, _, _⟩ := (held_iff a o).mp (can_held c)
  obtain ⟨p1, p2⟩ := p
  refine ⟨?_, ?_⟩
  · show 0 ≤ a.2.2.2.1 - _
    by_cases u : o.isUp = true
    · rw [if_pos u]
      have : a.2.2.2.1 ≠ 0 := fun z => i1 ⟨u, z⟩
      omega
    · rw [if_neg u]; omega
  · show 0 ≤ a.2.2.2.2 - _
    by_cases u : o.isDown = true
    · rw [if_pos u]
      have : a.2.2.2.2 ≠ 0 := fun z => i2 ⟨u, z⟩
      omega
    · rw [if_neg u]; omega
theorem from_pos {s : Sky} {h : Int} {a b : St} (p : posS a) (m : b ∈ fromF s h a) : posS b := by
  obtain ⟨o, ho, rfl⟩ := List.mem_map.mp m
  exact led_pos p (List.mem_filter.mp ho).2
theorem from_le {s : Sky} {h : Int} {a b q : St} (l : leS a b) (p : posS a) (m : q ∈ fromF s h a) : ∃ r ∈ fromF s h b, leS q r := by
  obtain ⟨o, ho, rfl⟩ := List.mem_map.mp m
  obtain ⟨h1, h2⟩ := List.mem_filter.mp ho
  exact ⟨_, List.mem_map.mpr ⟨o, List.mem_filter.mpr ⟨h1, can_le l p h2⟩, rfl⟩, led_le l o⟩
/-! ### the table -/
noncomputable def tableF (s : Sky) (h : Int) (p : St) : Nat → List St
  | 0 => [p]
  | k + 1 => unbF (behindF s (h + k) (tableF s h p k))
theorem tableF_len (s : Sky) (h : Int) (p : St) : ∀ k, (tableF s h p k).length ≤ 3 ^ k
  | 0 => Nat.le_refl _
  | k + 1 => by
    have h1 := unbF_len (behindF s (h + k) (tableF s h p k))
    have h2 := behindF_len s (h + k) (tableF s h p k)
    have h3 := tableF_len s h p k
    show (unbF (behindF s (h + k) (tableF s h p k))).length ≤ 3 ^ (k + 1)
    rw [Nat.pow_succ]
    omega
theorem statesF_pos {s : Sky} {h : Int} {p : St} (hp : posS p) : ∀ (k : Nat), ∀ q ∈ statesF s h p k, posS q
  | 0, q, hq => by rw [show q = p from List.mem_singleton.mp hq]; exact hp
  | k + 1, q, hq => by
    obtain ⟨q0, h0, h1⟩ := (behindF_mem s (h + k) (statesF s h p k) q).mp hq
    exact from_pos (statesF_pos hp k q0 h0) h1
theorem behind_sub {s : Sky} {h : Int} {l m : List St} (sub : ∀ q ∈ l, q ∈ m) : ∀ q ∈ behindF s h l, q ∈ behindF s h m := fun q hq => by
  obtain ⟨q0, h0, h1⟩ := (behindF_mem s h l q).mp hq
  exact (behindF_mem s h m q).mpr ⟨q0, sub q0 h0, h1⟩
theorem table_states {s : Sky} {h : Int} {p : St} (hp : posS p) : ∀ k : Nat, (∀ q ∈ tableF s h p k, q ∈ statesF s h p k) ∧ ∀ q ∈ statesF s h p k, ∃ r ∈ tableF s h p k, leS q r
  | 0 => ⟨fun q hq => hq, fun q hq => ⟨q, hq, leS_refl q⟩⟩
  | k + 1 => by
    obtain ⟨i1, i2⟩ := table_states hp k
    have sub := behind_sub (s := s) (h := h + k) i1
    have h0 : ∀ q ∈ behindF s (h + k) (tableF s h p k), 0 ≤ q.2.2.2.2 := fun q hq => (statesF_pos hp (k + 1) q (sub q hq)).2
    refine ⟨fun q hq => sub q ((unbF_mem h0 q).mp hq).1, fun q hq => ?_⟩
    obtain ⟨q0, m0, m1⟩ := (behindF_mem s (h + k) (statesF s h p k) q).mp hq
    obtain ⟨r0, n0, n1⟩ := i2 q0 m0
    obtain ⟨r1, n2, n3⟩ := from_le n1 (statesF_pos hp k q0 m0) m1
    obtain ⟨r, n4, n5⟩ := unbF_top h0 r1 ((behindF_mem s (h + k) (tableF s h p k) r1).mpr ⟨r0, n0, n2⟩)
    exact ⟨r, n4, leS_trans n3 n5⟩
theorem table_ok {c0 c1 : DF'} (s : Sky) (h0 : ∀ (h : Int) (l : List St), l.length ≤ 100000 → c0 [skyD s, .int h, .lst (l.map tD)] = .ok (.lst ((behindF s h l).map tD))) (h1 : ∀ l : List St, l.length ≤ 100000 → c1 [.lst (l.map tD)] = .ok (.lst ((unbF l).map tD))) (h : Int) (p : St) (n : Nat) (hn : n ≤ 8) :
    runF 6 (M_table c0 c1) [skyD s, .int h, tD p, .int (n : Int)] = .ok (.lst (((List.range (n + 1)).map (tableF s h p)).map rowD)) := by
  obtain ⟨env', e1, rfl⟩ := forGo_inv (gd := gdName 5) (body := M_table_l1 c0 c1) (ks := [5]) (enc := fun (i : Nat) => D.int (i : Int))
    (fun pre env => env = [some (skyD s), some (.int h), some (tD p), some (.int (n : Int)), some (.lst (((List.range (pre.length + 1)).map (tableF s h p)).map rowD)), none]) (List.range n)
    (env := [some (skyD s), some (.int h), some (tD p), some (.int (n : Int)), some (.lst [.lst [tD p]]), none]) rfl fun pre k post env hi ev => by
      subst ev
      obtain ⟨rfl, hk⟩ := pre_range hi
      have hl := Nat.le_trans (tableF_len s h p pre.length) (pow3 (by omega))
      have bl := behindF_len s (h + pre.length) (tableF s h p pre.length)
      have b := h0 (h + pre.length) (tableF s h p pre.length) (by omega)
      have u := h1 (behindF s (h + pre.length) (tableF s h p pre.length)) (by omega)
      have last : atI (((List.range (pre.length + 1)).map (tableF s h p)).map rowD) (-1) = some (.lst ((tableF s h p pre.length).map tD)) := by
        rw [List.map_map, atI_lastL, List.getLast?_eq_getElem?, List.length_map, List.length_range]
        exact range_at _ (by omega)
      have z : (((List.range (pre.length + 1)).map (tableF s h p)).map rowD).length < sizeLine := lt_size (by simp; omega)
      refine ⟨_, rfl, [some (skyD s), some (.int h), some (tD p), some (.int (n : Int)), some (.lst ((((List.range (pre.length + 1)).map (tableF s h p)).map rowD) ++ [rowD (tableF s h p (pre.length + 1))])), some (.int (pre.length : Int))], .inl ?_, ?_⟩
      · have e : tableF s h p (pre.length + 1) = unbF (behindF s (h + pre.length) (tableF s h p pre.length)) := rfl
        rw [e]
        generalize (((List.range (pre.length + 1)).map (tableF s h p)).map rowD) = R at last z
        simp [M_table_l1, last, b, u, z, rowD]
      · rw [List.length_append]
        show _ = [_, _, _, _, some (D.lst (((List.range (pre.length + 1 + 1)).map (tableF s h p)).map rowD)), _]
        rw [List.range_succ (n := pre.length + 1), List.map_append, List.map_append]
        rfl
  rw [List.length_range] at e1
  have im : imm (tD p) = true := rfl
  rw [runF_eq]
  simp [M_table, dFor, rng_nat (show n < 2 ^ 62 by omega), e1, im, -List.map_map]
end Lw

namespace Lw
open PySem PySem.Spec PyProof.Rows L2 Dl
/-! ### the text of the law: its defs by their places, and their meanings -/
def topS (i : Nat) : Stmt := PySem.Challenge.pw_ballastbook_k36_how_near_one_can_come.main.body.getD i (.Pass ⟨0, 0, 0, 0⟩)
def blts : List Str := ["abs", "all", "bool", "enumerate", "int", "isinstance", "len", "list", "max", "min", "range", "reversed", "sorted", "tuple", "zip"]
def cons : List (Str × D) := [(("TOP" : Str), .int (5)), (("ORDERS" : Str), (.ktp [.str ("up" : Str), .str ("level" : Str), .str ("down" : Str)]))]
abbrev s_law_numbers : Stmt := topS 30
abbrev s_law_base : Stmt := topS 32
abbrev s_law_box : Stmt := topS 33
abbrev s_law_sky : Stmt := topS 34
abbrev s_law_state : Stmt := topS 35
abbrev s_law_case : Stmt := topS 46
abbrev s_law_in : Stmt := topS 38
abbrev s_law_shut : Stmt := topS 39
abbrev s_law_ground : Stmt := topS 37
abbrev s_law_stand : Stmt := topS 40
abbrev s_law_wind : Stmt := topS 36
abbrev s_law_led : Stmt := topS 41
abbrev s_law_why : Stmt := topS 42
abbrev s_law_next : Stmt := topS 43
abbrev s_law_layers : Stmt := topS 44
abbrev s_law_copy : Stmt := topS 45
abbrev s_law_goal : Stmt := topS 47
abbrev s_law_flat : Stmt := topS 48
abbrev s_law_same : Stmt := topS 31
abbrev s_front : Stmt := topS 1
abbrev s_unbeaten : Stmt := topS 24
abbrev s_held_back : Stmt := topS 17
abbrev s_inside : Stmt := topS 4
abbrev s_shut_at : Stmt := topS 8
abbrev s_ground_at : Stmt := topS 6
abbrev s_standing : Stmt := topS 9
abbrev s_wind_at : Stmt := topS 14
abbrev s_led_to : Stmt := topS 18
abbrev s_why_not : Stmt := topS 19
abbrev s_choices : Stmt := topS 21
abbrev s_next_state : Stmt := topS 20
abbrev s_behind : Stmt := topS 23
abbrev s_table : Stmt := topS 25
abbrev s_distance : Stmt := topS 27
abbrev s_nearest : Stmt := topS 28
abbrev s_law : Stmt := topS 49
def subC (s : Stmt) (j : Nat) : Stmt := match s with
  | .ClassDef _ _ _ b _ _ _ _ _ _ _ => b.getD j (.Pass ⟨0, 0, 0, 0⟩)
  | s => s
def xs : List XEnt := []
def defs : List (Str × Stmt) := [(("_law_numbers" : Str), s_law_numbers), (("_law_base" : Str), s_law_base), (("_law_box" : Str), s_law_box), (("_law_sky" : Str), s_law_sky), (("_law_state" : Str), s_law_state), (("_law_case" : Str), s_law_case), (("_law_in" : Str), s_law_in), (("_law_shut" : Str), s_law_shut), (("_law_ground" : Str), s_law_ground), (("_law_stand" : Str), s_law_stand), (("_law_wind" : Str), s_law_wind), (("_law_led" : Str), s_law_led), (("_law_why" : Str), s_law_why), (("_law_next" : Str), s_law_next), (("_law_layers" : Str), s_law_layers), (("_law_copy" : Str), s_law_copy), (("_law_goal" : Str), s_law_goal), (("_law_flat" : Str), s_law_flat), (("_law_same" : Str), s_law_same), (("front" : Str), s_front), (("unbeaten" : Str), s_unbeaten), (("held_back" : Str), s_held_back), (("inside" : Str), s_inside), (("shut_at" : Str), s_shut_at), (("ground_at" : Str), s_ground_at), (("standing" : Str), s_standing), (("wind_at" : Str), s_wind_at), (("led_to" : Str), s_led_to), (("why_not" : Str), s_why_not), (("choices" : Str), s_choices), (("next_state" : Str), s_next_state), (("behind" : Str), s_behind), (("table" : Str), s_table), (("distance" : Str), s_distance), (("nearest" : Str), s_nearest), (("law" : Str), s_law)]
def M_x_law_l1 (c0 : DF') (c1 : DF') (c2 : DF') (c3 : DF') (c4 : DF') (c5 : DF') (c6 : DF') (c7 : DF') : DS := (dSeq (dApp 12 (dImm (dTup (dCons (dBin gAdd (dCallO gAbs (dCons (dBin gSubI (dBin gIx (dVar 14) (dC (.int (0)))) (dVar 10)) dNil)) (dCallO gAbs (dCons (dBin gSubI (dBin gIx (dVar 14) (dC (.int (1)))) (dVar 11)) dNil))) (dCons (dBin gAdd (dVar 3) (dVar 13)) dNil))))) dNext)
def M_x_law_l2 (c0 : DF') (c1 : DF') (c2 : DF') (c3 : DF') (c4 : DF') (c5 : DF') (c6 : DF') (c7 : DF') : DS := (dSeq (dFor (dItems (dBin gIx (dVar 7) (dVar 13))) (gdName 14) (M_x_law_l1 c0 c1 c2 c3 c4 c5 c6 c7) [14]) dNext)
def M_x_law_l3 (c0 : DF') (c1 : DF') (c2 : DF') (c3 : DF') (c4 : DF') (c5 : DF') (c6 : DF') (c7 : DF') : DS := (dSeq (dUnp (gdTup 2 (gdCons (gdName 10) (gdCons (gdName 11) gdNil))) (dCall c3 (dCons (dSl (dVar 1) (dPart (dBin gAdd (dC (.int (136))) (dBin gMulI (dC (.int (4))) (dVar 9)))) (dPart (dBin gAdd (dC (.int (140))) (dBin gMulI (dC (.int (4))) (dVar 9))))) (dCons (dCall c2 (dCons (dVar 7) dNil)) (dCons (dVar 2) dNil))))) (dSeq (dIfS (dBin gEq (dBin gModI (dBin gIx (dVar 1) (dBin gAdd (dC (.int (148))) (dVar 9))) (dC (.int (3)))) (dC (.int (1)))) (dSeq (dSet 10 (dBin gSubI (dBin gAdd (dBin gIx (dVar 2) (dC (.int (0)))) (dBin gModI (dBin gIx (dVar 1) (dBin gAdd (dC (.int (151))) (dVar 9))) (dC (.int (30))))) (dC (.int (15))))) (dSeq (dSet 11 (dBin gSubI (dBin gAdd (dBin gIx (dVar 2) (dC (.int (1)))) (dBin gModI (dBin gIx (dVar 1) (dBin gAdd (dC (.int (154))) (dVar 9))) (dC (.int (30))))) (dC (.int (15))))) dNext)) dNext) (dSeq (dSet 12 (dLst dNil)) (dSeq (dFor (dRange1 (dBin gAdd (dVar 4) (dC (.int (1))))) (gdName 13) (M_x_law_l2 c0 c1 c2 c3 c4 c5 c6 c7) [13, 14]) (dSeq (dIfS (dNot (dCall c1 (dCons (dCall c0 (dCons (dVar 8) (dCons (dVar 3) (dCons (dVar 6) (dCons (dVar 4) (dCons (dVar 10) (dCons (dVar 11) dNil))))))) (dCons (dCallO gMinA (dCons (dVar 12) dNil)) dNil)))) (dSeq (dRet (dImm (dC (.bl false)))) dNext) dNext) (dSeq (dIfS (dBin gNe (dVar 8) (dVar 5)) (dSeq (dRet (dImm (dC (.bl false)))) dNext) dNext) dNext))))))
def M_x_law (c0 : DF') (c1 : DF') (c2 : DF') (c3 : DF') (c4 : DF') (c5 : DF') (c6 : DF') (c7 : DF') : DS := (dSeq (dSet 1 (dCall c7 (dCons (dVar 0) (dCons (dC (.int (160))) dNil)))) (dSeq (dUnp (gdTup 5 (gdCons (gdName 2) (gdCons (gdName 3) (gdCons (gdName 4) (gdCons (gdName 5) (gdCons (gdName 6) gdNil)))))) (dCall c6 (dCons (dVar 1) dNil))) (dSeq (dSet 7 (dCall c5 (dCons (dVar 5) (dCons (dVar 3) (dCons (dVar 6) (dCons (dVar 4) dNil)))))) (dSeq (dSet 8 (dCall c4 (dCons (dVar 5) dNil))) (dSeq (dFor (dRange1 (dC (.int (3)))) (gdName 9) (M_x_law_l3 c0 c1 c2 c3 c4 c5 c6 c7) [9, 10, 11, 12, 13, 14]) (dSeq (dRet (dImm (dC (.bl true)))) dNext))))))
section
variable {P : Program} {w : World} {K : PySem.W.Frag} {mg : Str → Option Value} {base : Heap}
def d_law_numbers : DefC := { name := ("_law_numbers" : Str), N := ["_law_script", "_law_many", "_law_row", "_law_seed", "_law_cell", "_law_rest", "_law_k"], ps := ["_law_script", "_law_many"], md := [⟨false, false, 0⟩, ⟨false, false, 0⟩, ⟨true, true, 0⟩, ⟨false, false, 0⟩, ⟨false, false, 0⟩, ⟨false, false, 0⟩, ⟨false, false, 0⟩], fr := true, kl := fun l => (([(135, [4, 5, 6]), (140, [6]), (144, [6])] : List (Nat × List Nat)).lookup l).getD [], pl := fun l => ([] : List Nat).contains l, dt := true, exs := [] }
theorem bq_law_numbers : BindsEq s_law_numbers d_law_numbers.name d_law_numbers.ps := fun _ _ _ _ _ _ us hl => match us, hl with | [_, _], _ => rfl
theorem hq_law_numbers : headOk d_law_numbers s_law_numbers = true := by kernel_rfl
def r_law_numbers := readDef 24 12 d_law_numbers s_law_numbers 0 blts [] cons
theorem k_law_numbers : r_law_numbers.isSome = true := by kernel_rfl
def b_law_numbers := r_law_numbers.get k_law_numbers
def e_law_numbers : FEnt := d_law_numbers.ent b_law_numbers.f
theorem q_law_numbers : e_law_numbers.den = runF 7 (M_law_numbers) := by kernel_rfl
theorem h_law_numbers (T : Mods defs blts cons xs K mg base) : HasF P w K mg base 1 e_law_numbers := has_of T (i := 0) rfl bq_law_numbers hq_law_numbers (fns_nil) (exs_nil) b_law_numbers
def d_law_base : DefC := { name := ("_law_base" : Str), N := ["_law_d"], ps := ["_law_d"], md := [⟨false, false, 0⟩], fr := true, kl := fun l => (([] : List (Nat × List Nat)).lookup l).getD [], pl := fun l => ([] : List Nat).contains l, dt := true, exs := [] }
theorem bq_law_base : BindsEq s_law_base d_law_base.name d_law_base.ps := fun _ _ _ _ _ _ us hl => match us, hl with | [_], _ => rfl
theorem hq_law_base : headOk d_law_base s_law_base = true := by kernel_rfl
def r_law_base := readDef 24 12 d_law_base s_law_base 0 blts [] cons
theorem k_law_base : r_law_base.isSome = true := by kernel_rfl
def b_law_base := r_law_base.get k_law_base
def e_law_base : FEnt := d_law_base.ent b_law_base.f
theorem q_law_base : e_law_base.den = runF 1 (M_law_base) := by kernel_rfl
theorem h_law_base (T : Mods defs blts cons xs K mg base) : HasF P w K mg base 1 e_law_base := has_of T (i := 1) rfl bq_law_base hq_law_base (fns_nil) (exs_nil) b_law_base
def d_law_box : DefC := { name := ("_law_box" : Str), N := ["_law_d", "_law_base_here", "_law_x", "_law_y", "_law_low"], ps := ["_law_d", "_law_base_here"], md := [⟨false, false, 0⟩, ⟨false, false, 0⟩, ⟨false, false, 0⟩, ⟨false, false, 0⟩, ⟨false, false, 0⟩], fr := true, kl := fun l => (([] : List (Nat × List Nat)).lookup l).getD [], pl := fun l => ([] : List Nat).contains l, dt := true, exs := [] }
theorem bq_law_box : BindsEq s_law_box d_law_box.name d_law_box.ps := fun _ _ _ _ _ _ us hl => match us, hl with | [_, _], _ => rfl
theorem hq_law_box : headOk d_law_box s_law_box = true := by kernel_rfl
def r_law_box := readDef 24 12 d_law_box s_law_box 0 blts [] cons
theorem k_law_box : r_law_box.isSome = true := by kernel_rfl
def b_law_box := r_law_box.get k_law_box
def e_law_box : FEnt := d_law_box.ent b_law_box.f
theorem q_law_box : e_law_box.den = runF 5 (M_law_box) := by kernel_rfl
theorem h_law_box (T : Mods defs blts cons xs K mg base) : HasF P w K mg base 1 e_law_box := has_of T (i := 2) rfl bq_law_box hq_law_box (fns_nil) (exs_nil) b_law_box
def d_law_sky : DefC := { name := ("_law_sky" : Str), N := ["_law_d", "_law_base_here", "_law_hour", "_law_hills", "_law_j", "_law_cool", "_law_one", "_law_winds", "_law_w", "_law_first", "_law_shuts", "_law_s", "_law_level"], ps := ["_law_d", "_law_base_here", "_law_hour"], md := [⟨false, false, 0⟩, ⟨false, false, 0⟩, ⟨false, false, 0⟩, ⟨true, true, 0⟩, ⟨false, false, 0⟩, ⟨true, true, 0⟩, ⟨false, false, 0⟩, ⟨true, true, 0⟩, ⟨false, false, 0⟩, ⟨false, false, 0⟩, ⟨true, true, 0⟩, ⟨false, false, 0⟩, ⟨false, false, 0⟩], fr := true, kl := fun l => (([(172, [4]), (175, [4, 6]), (182, [4, 8, 9]), (187, [4, 11, 9])] : List (Nat × List Nat)).lookup l).getD [], pl := fun l => ([] : List Nat).contains l, dt := true, exs := [] }
theorem bq_law_sky : BindsEq s_law_sky d_law_sky.name d_law_sky.ps := fun _ _ _ _ _ _ us hl => match us, hl with | [_, _, _], _ => rfl
theorem hq_law_sky : headOk d_law_sky s_law_sky = true := by kernel_rfl
def r_law_sky := readDef 24 12 d_law_sky s_law_sky 1 blts [e_law_box] cons
theorem k_law_sky : r_law_sky.isSome = true := by kernel_rfl
def b_law_sky := r_law_sky.get k_law_sky
def e_law_sky : FEnt := d_law_sky.ent b_law_sky.f
theorem q_law_sky : e_law_sky.den = runF 13 (M_law_sky e_law_box.den) := by kernel_rfl
theorem h_law_sky (T : Mods defs blts cons xs K mg base) : HasF P w K mg base 2 e_law_sky := has_of T (i := 3) rfl bq_law_sky hq_law_sky (fns_cons (h_law_box T) (by decide) (fns_nil)) (exs_nil) b_law_sky
def d_law_state : DefC := { name := ("_law_state" : Str), N := ["_law_d", "_law_base_here", "_law_most", "_law_x", "_law_y"], ps := ["_law_d", "_law_base_here", "_law_most"], md := [⟨false, false, 0⟩, ⟨false, false, 0⟩, ⟨false, false, 0⟩, ⟨false, false, 0⟩, ⟨false, false, 0⟩], fr := true, kl := fun l => (([] : List (Nat × List Nat)).lookup l).getD [], pl := fun l => ([] : List Nat).contains l, dt := true, exs := [] }
theorem bq_law_state : BindsEq s_law_state d_law_state.name d_law_state.ps := fun _ _ _ _ _ _ us hl => match us, hl with | [_, _, _], _ => rfl
theorem hq_law_state : headOk d_law_state s_law_state = true := by kernel_rfl
def r_law_state := readDef 24 12 d_law_state s_law_state 0 blts [] cons
theorem k_law_state : r_law_state.isSome = true := by kernel_rfl
def b_law_state := r_law_state.get k_law_state
def e_law_state : FEnt := d_law_state.ent b_law_state.f
theorem q_law_state : e_law_state.den = runF 5 (M_law_state) := by kernel_rfl
theorem h_law_state (T : Mods defs blts cons xs K mg base) : HasF P w K mg base 1 e_law_state := has_of T (i := 4) rfl bq_law_state hq_law_state (fns_nil) (exs_nil) b_law_state
def d_law_case : DefC := { name := ("_law_case" : Str), N := ["_law_numbers_here", "_law_base_here", "_law_many", "_law_left", "_law_hour", "_law_sky_here", "_law_state_here"], ps := ["_law_numbers_here"], md := [⟨false, false, 0⟩, ⟨false, true, 0⟩, ⟨false, false, 0⟩, ⟨false, false, 0⟩, ⟨false, false, 0⟩, ⟨false, true, 0⟩, ⟨false, false, 0⟩], fr := true, kl := fun l => (([] : List (Nat × List Nat)).lookup l).getD [], pl := fun l => ([] : List Nat).contains l, dt := true, exs := [] }
theorem bq_law_case : BindsEq s_law_case d_law_case.name d_law_case.ps := fun _ _ _ _ _ _ us hl => match us, hl with | [_], _ => rfl
theorem hq_law_case : headOk d_law_case s_law_case = true := by kernel_rfl
def r_law_case := readDef 24 12 d_law_case s_law_case 2 blts [e_law_base, e_law_sky, e_law_state] cons
theorem k_law_case : r_law_case.isSome = true := by kernel_rfl
def b_law_case := r_law_case.get k_law_case
def e_law_case : FEnt := d_law_case.ent b_law_case.f
theorem q_law_case : e_law_case.den = runF 7 (M_law_case e_law_state.den e_law_sky.den e_law_base.den) := by kernel_rfl
theorem h_law_case (T : Mods defs blts cons xs K mg base) : HasF P w K mg base 3 e_law_case := has_of T (i := 5) rfl bq_law_case hq_law_case (fns_cons (h_law_base T) (by decide) (fns_cons (h_law_sky T) (by decide) (fns_cons (h_law_state T) (by decide) (fns_nil)))) (exs_nil) b_law_case
def d_law_in : DefC := { name := ("_law_in" : Str), N := ["_law_box_here", "_law_x", "_law_y", "_law_z"], ps := ["_law_box_here", "_law_x", "_law_y", "_law_z"], md := [⟨false, false, 0⟩, ⟨false, false, 0⟩, ⟨false, false, 0⟩, ⟨false, false, 0⟩], fr := true, kl := fun l => (([] : List (Nat × List Nat)).lookup l).getD [], pl := fun l => ([204] : List Nat).contains l, dt := true, exs := [] }
theorem bq_law_in : BindsEq s_law_in d_law_in.name d_law_in.ps := fun _ _ _ _ _ _ us hl => match us, hl with | [_, _, _, _], _ => rfl
theorem hq_law_in : headOk d_law_in s_law_in = true := by kernel_rfl
def r_law_in := readDef 24 12 d_law_in s_law_in 0 blts [] cons
theorem k_law_in : r_law_in.isSome = true := by kernel_rfl
def b_law_in := r_law_in.get k_law_in
def e_law_in : FEnt := d_law_in.ent b_law_in.f
theorem q_law_in : e_law_in.den = runF 4 (M_law_in) := by kernel_rfl
theorem h_law_in (T : Mods defs blts cons xs K mg base) : HasF P w K mg base 1 e_law_in := has_of T (i := 6) rfl bq_law_in hq_law_in (fns_nil) (exs_nil) b_law_in
def d_law_shut : DefC := { name := ("_law_shut" : Str), N := ["_law_shuts", "_law_hour", "_law_x", "_law_y", "_law_z", "_law_one"], ps := ["_law_shuts", "_law_hour", "_law_x", "_law_y", "_law_z"], md := [⟨false, false, 0⟩, ⟨false, false, 0⟩, ⟨false, false, 0⟩, ⟨false, false, 0⟩, ⟨false, false, 0⟩, ⟨false, false, 0⟩], fr := true, kl := fun l => (([] : List (Nat × List Nat)).lookup l).getD [], pl := fun l => ([206] : List Nat).contains l, dt := true, exs := [] }
theorem bq_law_shut : BindsEq s_law_shut d_law_shut.name d_law_shut.ps := fun _ _ _ _ _ _ us hl => match us, hl with | [_, _, _, _, _], _ => rfl
theorem hq_law_shut : headOk d_law_shut s_law_shut = true := by kernel_rfl
def r_law_shut := readDef 24 12 d_law_shut s_law_shut 1 blts [e_law_in] cons
theorem k_law_shut : r_law_shut.isSome = true := by kernel_rfl
def b_law_shut := r_law_shut.get k_law_shut
def e_law_shut : FEnt := d_law_shut.ent b_law_shut.f
theorem q_law_shut : e_law_shut.den = runF 6 (M_law_shut e_law_in.den) := by kernel_rfl
theorem h_law_shut (T : Mods defs blts cons xs K mg base) : HasF P w K mg base 2 e_law_shut := has_of T (i := 7) rfl bq_law_shut hq_law_shut (fns_cons (h_law_in T) (by decide) (fns_nil)) (exs_nil) b_law_shut
def d_law_ground : DefC := { name := ("_law_ground" : Str), N := ["_law_hills", "_law_x", "_law_y", "_law_a", "_law_b", "_law_top"], ps := ["_law_hills", "_law_x", "_law_y"], md := [⟨false, false, 0⟩, ⟨false, false, 0⟩, ⟨false, false, 0⟩, ⟨false, false, 0⟩, ⟨false, false, 0⟩, ⟨false, false, 0⟩], fr := true, kl := fun l => (([] : List (Nat × List Nat)).lookup l).getD [], pl := fun l => ([202] : List Nat).contains l, dt := true, exs := [] }
theorem bq_law_ground : BindsEq s_law_ground d_law_ground.name d_law_ground.ps := fun _ _ _ _ _ _ us hl => match us, hl with | [_, _, _], _ => rfl
theorem hq_law_ground : headOk d_law_ground s_law_ground = true := by kernel_rfl
def r_law_ground := readDef 24 12 d_law_ground s_law_ground 0 blts [] cons
theorem k_law_ground : r_law_ground.isSome = true := by kernel_rfl
def b_law_ground := r_law_ground.get k_law_ground
def e_law_ground : FEnt := d_law_ground.ent b_law_ground.f
theorem q_law_ground : e_law_ground.den = runF 6 (M_law_ground) := by kernel_rfl
theorem h_law_ground (T : Mods defs blts cons xs K mg base) : HasF P w K mg base 1 e_law_ground := has_of T (i := 8) rfl bq_law_ground hq_law_ground (fns_nil) (exs_nil) b_law_ground
def d_law_stand : DefC := { name := ("_law_stand" : Str), N := ["_law_sky_here", "_law_hour", "_law_state_here"], ps := ["_law_sky_here", "_law_hour", "_law_state_here"], md := [⟨false, false, 0⟩, ⟨false, false, 0⟩, ⟨false, false, 0⟩], fr := true, kl := fun l => (([] : List (Nat × List Nat)).lookup l).getD [], pl := fun l => ([209, 211, 212] : List Nat).contains l, dt := true, exs := [] }
theorem bq_law_stand : BindsEq s_law_stand d_law_stand.name d_law_stand.ps := fun _ _ _ _ _ _ us hl => match us, hl with | [_, _, _], _ => rfl
theorem hq_law_stand : headOk d_law_stand s_law_stand = true := by kernel_rfl
def r_law_stand := readDef 24 12 d_law_stand s_law_stand 2 blts [e_law_shut, e_law_ground] cons
theorem k_law_stand : r_law_stand.isSome = true := by kernel_rfl
def b_law_stand := r_law_stand.get k_law_stand
def e_law_stand : FEnt := d_law_stand.ent b_law_stand.f
theorem q_law_stand : e_law_stand.den = runF 3 (M_law_stand e_law_shut.den e_law_ground.den) := by kernel_rfl
theorem h_law_stand (T : Mods defs blts cons xs K mg base) : HasF P w K mg base 3 e_law_stand := has_of T (i := 9) rfl bq_law_stand hq_law_stand (fns_cons (h_law_shut T) (by decide) (fns_cons (h_law_ground T) (by decide) (fns_nil))) (exs_nil) b_law_stand
def d_law_wind : DefC := { name := ("_law_wind" : Str), N := ["_law_winds", "_law_hour", "_law_height", "_law_some", "_law_k"], ps := ["_law_winds", "_law_hour", "_law_height"], md := [⟨false, false, 0⟩, ⟨false, false, 0⟩, ⟨false, false, 0⟩, ⟨false, false, 0⟩, ⟨false, false, 0⟩], fr := true, kl := fun l => (([] : List (Nat × List Nat)).lookup l).getD [], pl := fun l => ([200] : List Nat).contains l, dt := true, exs := [] }
theorem bq_law_wind : BindsEq s_law_wind d_law_wind.name d_law_wind.ps := fun _ _ _ _ _ _ us hl => match us, hl with | [_, _, _], _ => rfl
theorem hq_law_wind : headOk d_law_wind s_law_wind = true := by kernel_rfl
def r_law_wind := readDef 24 12 d_law_wind s_law_wind 0 blts [] cons
theorem k_law_wind : r_law_wind.isSome = true := by kernel_rfl
def b_law_wind := r_law_wind.get k_law_wind
def e_law_wind : FEnt := d_law_wind.ent b_law_wind.f
theorem q_law_wind : e_law_wind.den = runF 5 (M_law_wind) := by kernel_rfl
theorem h_law_wind (T : Mods defs blts cons xs K mg base) : HasF P w K mg base 1 e_law_wind := has_of T (i := 10) rfl bq_law_wind hq_law_wind (fns_nil) (exs_nil) b_law_wind
def d_law_led : DefC := { name := ("_law_led" : Str), N := ["_law_sky_here", "_law_hour", "_law_state_here", "_law_order", "_law_x", "_law_y", "_law_z", "_law_sacks", "_law_puffs", "_law_step", "_law_dx", "_law_dy"], ps := ["_law_sky_here", "_law_hour", "_law_state_here", "_law_order"], md := [⟨false, false, 0⟩, ⟨false, false, 0⟩, ⟨false, false, 0⟩, ⟨false, false, 0⟩, ⟨false, false, 0⟩, ⟨false, false, 0⟩, ⟨false, false, 0⟩, ⟨false, false, 0⟩, ⟨false, false, 0⟩, ⟨false, false, 0⟩, ⟨false, false, 0⟩, ⟨false, false, 0⟩], fr := true, kl := fun l => (([] : List (Nat × List Nat)).lookup l).getD [], pl := fun l => ([] : List Nat).contains l, dt := true, exs := [] }
theorem bq_law_led : BindsEq s_law_led d_law_led.name d_law_led.ps := fun _ _ _ _ _ _ us hl => match us, hl with | [_, _, _, _], _ => rfl
theorem hq_law_led : headOk d_law_led s_law_led = true := by kernel_rfl
def r_law_led := readDef 24 12 d_law_led s_law_led 1 blts [e_law_wind] cons
theorem k_law_led : r_law_led.isSome = true := by kernel_rfl
def b_law_led := r_law_led.get k_law_led
def e_law_led : FEnt := d_law_led.ent b_law_led.f
theorem q_law_led : e_law_led.den = runF 12 (M_law_led e_law_wind.den) := by kernel_rfl
theorem h_law_led (T : Mods defs blts cons xs K mg base) : HasF P w K mg base 2 e_law_led := has_of T (i := 11) rfl bq_law_led hq_law_led (fns_cons (h_law_wind T) (by decide) (fns_nil)) (exs_nil) b_law_led
def d_law_why : DefC := { name := ("_law_why" : Str), N := ["_law_sky_here", "_law_hour", "_law_state_here", "_law_order"], ps := ["_law_sky_here", "_law_hour", "_law_state_here", "_law_order"], md := [⟨false, false, 0⟩, ⟨false, false, 0⟩, ⟨false, false, 0⟩, ⟨false, false, 0⟩], fr := true, kl := fun l => (([] : List (Nat × List Nat)).lookup l).getD [], pl := fun l => ([223, 225, 227, 229, 230] : List Nat).contains l, dt := true, exs := [] }
theorem bq_law_why : BindsEq s_law_why d_law_why.name d_law_why.ps := fun _ _ _ _ _ _ us hl => match us, hl with | [_, _, _, _], _ => rfl
theorem hq_law_why : headOk d_law_why s_law_why = true := by kernel_rfl
def r_law_why := readDef 24 12 d_law_why s_law_why 3 blts [e_law_stand, e_law_led] cons
theorem k_law_why : r_law_why.isSome = true := by kernel_rfl
def b_law_why := r_law_why.get k_law_why
def e_law_why : FEnt := d_law_why.ent b_law_why.f
theorem q_law_why : e_law_why.den = runF 4 (M_law_why e_law_led.den e_law_stand.den) := by kernel_rfl
theorem h_law_why (T : Mods defs blts cons xs K mg base) : HasF P w K mg base 4 e_law_why := has_of T (i := 12) rfl bq_law_why hq_law_why (fns_cons (h_law_stand T) (by decide) (fns_cons (h_law_led T) (by decide) (fns_nil))) (exs_nil) b_law_why
def d_law_next : DefC := { name := ("_law_next" : Str), N := ["_law_sky_here", "_law_hour", "_law_some", "_law_found", "_law_one", "_law_order"], ps := ["_law_sky_here", "_law_hour", "_law_some"], md := [⟨false, false, 0⟩, ⟨false, false, 0⟩, ⟨false, false, 0⟩, ⟨true, true, 0⟩, ⟨false, false, 0⟩, ⟨false, false, 0⟩], fr := true, kl := fun l => (([(233, [4, 5]), (234, [5])] : List (Nat × List Nat)).lookup l).getD [], pl := fun l => ([] : List Nat).contains l, dt := true, exs := [] }
theorem bq_law_next : BindsEq s_law_next d_law_next.name d_law_next.ps := fun _ _ _ _ _ _ us hl => match us, hl with | [_, _, _], _ => rfl
theorem hq_law_next : headOk d_law_next s_law_next = true := by kernel_rfl
def r_law_next := readDef 24 12 d_law_next s_law_next 4 blts [e_law_why, e_law_led] cons
theorem k_law_next : r_law_next.isSome = true := by kernel_rfl
def b_law_next := r_law_next.get k_law_next
def e_law_next : FEnt := d_law_next.ent b_law_next.f
theorem q_law_next : e_law_next.den = runF 6 (M_law_next e_law_why.den e_law_led.den) := by kernel_rfl
theorem h_law_next (T : Mods defs blts cons xs K mg base) : HasF P w K mg base 5 e_law_next := has_of T (i := 13) rfl bq_law_next hq_law_next (fns_cons (h_law_why T) (by decide) (fns_cons (h_law_led T) (by decide) (fns_nil))) (exs_nil) b_law_next
def d_law_layers : DefC := { name := ("_law_layers" : Str), N := ["_law_sky_here", "_law_hour", "_law_state_here", "_law_many", "_law_rows", "_law_at"], ps := ["_law_sky_here", "_law_hour", "_law_state_here", "_law_many"], md := [⟨false, false, 0⟩, ⟨false, false, 0⟩, ⟨false, false, 0⟩, ⟨false, false, 0⟩, ⟨true, true, 0⟩, ⟨false, false, 0⟩], fr := true, kl := fun l => (([(240, [5])] : List (Nat × List Nat)).lookup l).getD [], pl := fun l => ([] : List Nat).contains l, dt := true, exs := [] }
theorem bq_law_layers : BindsEq s_law_layers d_law_layers.name d_law_layers.ps := fun _ _ _ _ _ _ us hl => match us, hl with | [_, _, _, _], _ => rfl
theorem hq_law_layers : headOk d_law_layers s_law_layers = true := by kernel_rfl
def r_law_layers := readDef 24 12 d_law_layers s_law_layers 5 blts [e_law_next] cons
theorem k_law_layers : r_law_layers.isSome = true := by kernel_rfl
def b_law_layers := r_law_layers.get k_law_layers
def e_law_layers : FEnt := d_law_layers.ent b_law_layers.f
theorem q_law_layers : e_law_layers.den = runF 6 (M_law_layers e_law_next.den) := by kernel_rfl
theorem h_law_layers (T : Mods defs blts cons xs K mg base) : HasF P w K mg base 6 e_law_layers := has_of T (i := 14) rfl bq_law_layers hq_law_layers (fns_cons (h_law_next T) (by decide) (fns_nil)) (exs_nil) b_law_layers
def d_law_copy : DefC := { name := ("_law_copy" : Str), N := ["_law_sky_here"], ps := ["_law_sky_here"], md := [⟨false, false, 0⟩], fr := true, kl := fun l => (([] : List (Nat × List Nat)).lookup l).getD [], pl := fun l => ([] : List Nat).contains l, dt := true, exs := [] }
theorem bq_law_copy : BindsEq s_law_copy d_law_copy.name d_law_copy.ps := fun _ _ _ _ _ _ us hl => match us, hl with | [_], _ => rfl
theorem hq_law_copy : headOk d_law_copy s_law_copy = true := by kernel_rfl
def r_law_copy := readDef 24 12 d_law_copy s_law_copy 0 blts [] cons
theorem k_law_copy : r_law_copy.isSome = true := by kernel_rfl
def b_law_copy := r_law_copy.get k_law_copy
def e_law_copy : FEnt := d_law_copy.ent b_law_copy.f
theorem q_law_copy : e_law_copy.den = runF 1 (M_law_copy) := by kernel_rfl
theorem h_law_copy (T : Mods defs blts cons xs K mg base) : HasF P w K mg base 1 e_law_copy := has_of T (i := 15) rfl bq_law_copy hq_law_copy (fns_nil) (exs_nil) b_law_copy
def d_law_goal : DefC := { name := ("_law_goal" : Str), N := ["_law_d", "_law_reached", "_law_base_here", "_law_one"], ps := ["_law_d", "_law_reached", "_law_base_here"], md := [⟨false, false, 0⟩, ⟨false, false, 0⟩, ⟨false, false, 0⟩, ⟨false, false, 0⟩], fr := true, kl := fun l => (([] : List (Nat × List Nat)).lookup l).getD [], pl := fun l => ([] : List Nat).contains l, dt := true, exs := [] }
theorem bq_law_goal : BindsEq s_law_goal d_law_goal.name d_law_goal.ps := fun _ _ _ _ _ _ us hl => match us, hl with | [_, _, _], _ => rfl
theorem hq_law_goal : headOk d_law_goal s_law_goal = true := by kernel_rfl
def r_law_goal := readDef 24 12 d_law_goal s_law_goal 0 blts [] cons
theorem k_law_goal : r_law_goal.isSome = true := by kernel_rfl
def b_law_goal := r_law_goal.get k_law_goal
def e_law_goal : FEnt := d_law_goal.ent b_law_goal.f
theorem q_law_goal : e_law_goal.den = runF 4 (M_law_goal) := by kernel_rfl
theorem h_law_goal (T : Mods defs blts cons xs K mg base) : HasF P w K mg base 1 e_law_goal := has_of T (i := 16) rfl bq_law_goal hq_law_goal (fns_nil) (exs_nil) b_law_goal
def d_law_flat : DefC := { name := ("_law_flat" : Str), N := ["_law_rows", "_law_found", "_law_row"], ps := ["_law_rows"], md := [⟨false, false, 0⟩, ⟨true, true, 0⟩, ⟨false, false, 0⟩], fr := true, kl := fun l => (([(268, [2])] : List (Nat × List Nat)).lookup l).getD [], pl := fun l => ([] : List Nat).contains l, dt := true, exs := [] }
theorem bq_law_flat : BindsEq s_law_flat d_law_flat.name d_law_flat.ps := fun _ _ _ _ _ _ us hl => match us, hl with | [_], _ => rfl
theorem hq_law_flat : headOk d_law_flat s_law_flat = true := by kernel_rfl
def r_law_flat := readDef 24 12 d_law_flat s_law_flat 0 blts [] cons
theorem k_law_flat : r_law_flat.isSome = true := by kernel_rfl
def b_law_flat := r_law_flat.get k_law_flat
def e_law_flat : FEnt := d_law_flat.ent b_law_flat.f
theorem q_law_flat : e_law_flat.den = runF 3 (M_law_flat) := by kernel_rfl
theorem h_law_flat (T : Mods defs blts cons xs K mg base) : HasF P w K mg base 1 e_law_flat := has_of T (i := 17) rfl bq_law_flat hq_law_flat (fns_nil) (exs_nil) b_law_flat
def d_law_same : DefC := { name := ("_law_same" : Str), N := ["_law_found", "_law_due", "_law_one", "_law_other"], ps := ["_law_found", "_law_due"], md := [⟨false, false, 0⟩, ⟨false, false, 0⟩, ⟨false, false, 0⟩, ⟨false, false, 0⟩], fr := true, kl := fun l => (([] : List (Nat × List Nat)).lookup l).getD [], pl := fun l => ([152, 153, 155, 157, 158] : List Nat).contains l, dt := true, exs := [] }
theorem bq_law_same : BindsEq s_law_same d_law_same.name d_law_same.ps := fun _ _ _ _ _ _ us hl => match us, hl with | [_, _], _ => rfl
theorem hq_law_same : headOk d_law_same s_law_same = true := by kernel_rfl
def r_law_same (k : Nat) (g : DF') := readDef 24 12 d_law_same s_law_same k blts [⟨("_law_same" : Str), 2, true, g⟩] cons
theorem k_law_same (k : Nat) (g : DF') : (r_law_same k g).isSome = true := by kernel_rfl
def b_law_same (k : Nat) (g : DF') := (r_law_same k g).get (k_law_same k g)
def g_law_same : Nat → DF'
  | 0 => fun _ => .bad
  | n + 1 => runF 4 (b_law_same (0 + n) (g_law_same n)).f
def e_law_same (n : Nat) : FEnt := ⟨("_law_same" : Str), 2, true, g_law_same n⟩
theorem q_law_same (n : Nat) : g_law_same (n + 1) = runF 4 (M_law_same (g_law_same n)) := by kernel_rfl
theorem h_law_same' (T : Mods defs blts cons xs K mg base) : ∀ n, HasF P w K mg base (0 + n) (e_law_same n)
  | 0 => has_none T (i := 18) rfl bq_law_same _
  | n + 1 => by
    have ih := h_law_same' T n
    exact has_of T (i := 18) rfl bq_law_same hq_law_same (fns_cons ih (Nat.le_refl _) (fns_nil)) (exs_nil) (b_law_same (0 + n) (g_law_same n))
theorem h_law_same (T : Mods defs blts cons xs K mg base) : HasF P w K mg base 4 (e_law_same 4) := h_law_same' T 4
def d_front : DefC := { name := ("front" : Str), N := ["pairs", "found", "most", "sacks", "puffs"], ps := ["pairs"], md := [⟨false, false, 0⟩, ⟨true, true, 0⟩, ⟨false, false, 0⟩, ⟨false, false, 0⟩, ⟨false, false, 0⟩], fr := true, kl := fun l => (([(5, [3, 4])] : List (Nat × List Nat)).lookup l).getD [], pl := fun l => ([] : List Nat).contains l, dt := true, exs := [] }
theorem bq_front : BindsEq s_front d_front.name d_front.ps := fun _ _ _ _ _ _ us hl => match us, hl with | [_], _ => rfl
theorem hq_front : headOk d_front s_front = true := by kernel_rfl
def r_front := readDef 24 12 d_front s_front 0 blts [] cons
theorem k_front : r_front.isSome = true := by kernel_rfl
def b_front := r_front.get k_front
def e_front : FEnt := d_front.ent b_front.f
theorem q_front : e_front.den = runF 5 (M_front) := by kernel_rfl
theorem h_front (T : Mods defs blts cons xs K mg base) : HasF P w K mg base 1 e_front := has_of T (i := 19) rfl bq_front hq_front (fns_nil) (exs_nil) b_front
def d_unbeaten : DefC := { name := ("unbeaten" : Str), N := ["some", "left", "x", "y", "height", "sacks", "puffs", "spot", "found"], ps := ["some"], md := [⟨false, false, 0⟩, ⟨false, false, 2⟩, ⟨false, false, 0⟩, ⟨false, false, 0⟩, ⟨false, false, 0⟩, ⟨false, false, 0⟩, ⟨false, false, 0⟩, ⟨false, false, 0⟩, ⟨true, true, 0⟩], fr := true, kl := fun l => (([(105, [2, 3, 4, 5, 6, 7]), (111, [2, 3, 4, 5, 6]), (112, [5, 6])] : List (Nat × List Nat)).lookup l).getD [], pl := fun l => ([111] : List Nat).contains l, dt := true, exs := [] }
theorem bq_unbeaten : BindsEq s_unbeaten d_unbeaten.name d_unbeaten.ps := fun _ _ _ _ _ _ us hl => match us, hl with | [_], _ => rfl
theorem hq_unbeaten : headOk d_unbeaten s_unbeaten = true := by kernel_rfl
def r_unbeaten := readDef 24 12 d_unbeaten s_unbeaten 1 blts [e_front] cons
theorem k_unbeaten : r_unbeaten.isSome = true := by kernel_rfl
def b_unbeaten := r_unbeaten.get k_unbeaten
def e_unbeaten : FEnt := d_unbeaten.ent b_unbeaten.f
theorem q_unbeaten : e_unbeaten.den = runF 9 (M_unbeaten e_front.den) := by kernel_rfl
theorem h_unbeaten (T : Mods defs blts cons xs K mg base) : HasF P w K mg base 2 e_unbeaten := has_of T (i := 20) rfl bq_unbeaten hq_unbeaten (fns_cons (h_front T) (by decide) (fns_nil)) (exs_nil) b_unbeaten
def d_held_back : DefC := { name := ("held_back" : Str), N := ["state", "order"], ps := ["state", "order"], md := [⟨false, false, 0⟩, ⟨false, false, 0⟩], fr := true, kl := fun l => (([] : List (Nat × List Nat)).lookup l).getD [], pl := fun l => ([63, 65, 67, 69, 70] : List Nat).contains l, dt := true, exs := [] }
theorem bq_held_back : BindsEq s_held_back d_held_back.name d_held_back.ps := fun _ _ _ _ _ _ us hl => match us, hl with | [_, _], _ => rfl
theorem hq_held_back : headOk d_held_back s_held_back = true := by kernel_rfl
def r_held_back := readDef 24 12 d_held_back s_held_back 0 blts [] cons
theorem k_held_back : r_held_back.isSome = true := by kernel_rfl
def b_held_back := r_held_back.get k_held_back
def e_held_back : FEnt := d_held_back.ent b_held_back.f
theorem q_held_back : e_held_back.den = runF 2 (M_held_back) := by kernel_rfl
theorem h_held_back (T : Mods defs blts cons xs K mg base) : HasF P w K mg base 1 e_held_back := has_of T (i := 21) rfl bq_held_back hq_held_back (fns_nil) (exs_nil) b_held_back
def d_inside : DefC := { name := ("inside" : Str), N := ["box", "x", "y", "height", "x1", "y1", "x2", "y2", "low", "high"], ps := ["box", "x", "y", "height"], md := [⟨false, false, 0⟩, ⟨false, false, 0⟩, ⟨false, false, 0⟩, ⟨false, false, 0⟩, ⟨false, false, 0⟩, ⟨false, false, 0⟩, ⟨false, false, 0⟩, ⟨false, false, 0⟩, ⟨false, false, 0⟩, ⟨false, false, 0⟩], fr := true, kl := fun l => (([] : List (Nat × List Nat)).lookup l).getD [], pl := fun l => ([15, 17, 18] : List Nat).contains l, dt := true, exs := [] }
theorem bq_inside : BindsEq s_inside d_inside.name d_inside.ps := fun _ _ _ _ _ _ us hl => match us, hl with | [_, _, _, _], _ => rfl
theorem hq_inside : headOk d_inside s_inside = true := by kernel_rfl
def r_inside := readDef 24 12 d_inside s_inside 0 blts [] cons
theorem k_inside : r_inside.isSome = true := by kernel_rfl
def b_inside := r_inside.get k_inside
def e_inside : FEnt := d_inside.ent b_inside.f
theorem q_inside : e_inside.den = runF 10 (M_inside) := by kernel_rfl
theorem h_inside (T : Mods defs blts cons xs K mg base) : HasF P w K mg base 1 e_inside := has_of T (i := 22) rfl bq_inside hq_inside (fns_nil) (exs_nil) b_inside
def d_shut_at : DefC := { name := ("shut_at" : Str), N := ["shuts", "hour", "x", "y", "height", "x1", "y1", "x2", "y2", "low", "high", "first", "last"], ps := ["shuts", "hour", "x", "y", "height"], md := [⟨false, false, 0⟩, ⟨false, false, 0⟩, ⟨false, false, 0⟩, ⟨false, false, 0⟩, ⟨false, false, 0⟩, ⟨false, false, 0⟩, ⟨false, false, 0⟩, ⟨false, false, 0⟩, ⟨false, false, 0⟩, ⟨false, false, 0⟩, ⟨false, false, 0⟩, ⟨false, false, 0⟩, ⟨false, false, 0⟩], fr := true, kl := fun l => (([(28, [5, 6, 7, 8, 9, 10, 11, 12])] : List (Nat × List Nat)).lookup l).getD [], pl := fun l => ([30, 31] : List Nat).contains l, dt := true, exs := [] }
theorem bq_shut_at : BindsEq s_shut_at d_shut_at.name d_shut_at.ps := fun _ _ _ _ _ _ us hl => match us, hl with | [_, _, _, _, _], _ => rfl
theorem hq_shut_at : headOk d_shut_at s_shut_at = true := by kernel_rfl
def r_shut_at := readDef 24 12 d_shut_at s_shut_at 1 blts [e_inside] cons
theorem k_shut_at : r_shut_at.isSome = true := by kernel_rfl
def b_shut_at := r_shut_at.get k_shut_at
def e_shut_at : FEnt := d_shut_at.ent b_shut_at.f
theorem q_shut_at : e_shut_at.den = runF 13 (M_shut_at e_inside.den) := by kernel_rfl
theorem h_shut_at (T : Mods defs blts cons xs K mg base) : HasF P w K mg base 2 e_shut_at := has_of T (i := 23) rfl bq_shut_at hq_shut_at (fns_cons (h_inside T) (by decide) (fns_nil)) (exs_nil) b_shut_at
def d_ground_at : DefC := { name := ("ground_at" : Str), N := ["hills", "x", "y", "found", "hill_x", "hill_y", "top"], ps := ["hills", "x", "y"], md := [⟨false, false, 0⟩, ⟨false, false, 0⟩, ⟨false, false, 0⟩, ⟨false, false, 0⟩, ⟨false, false, 0⟩, ⟨false, false, 0⟩, ⟨false, false, 0⟩], fr := true, kl := fun l => (([(22, [4, 5, 6])] : List (Nat × List Nat)).lookup l).getD [], pl := fun l => ([] : List Nat).contains l, dt := true, exs := [] }
theorem bq_ground_at : BindsEq s_ground_at d_ground_at.name d_ground_at.ps := fun _ _ _ _ _ _ us hl => match us, hl with | [_, _, _], _ => rfl
theorem hq_ground_at : headOk d_ground_at s_ground_at = true := by kernel_rfl
def r_ground_at := readDef 24 12 d_ground_at s_ground_at 0 blts [] cons
theorem k_ground_at : r_ground_at.isSome = true := by kernel_rfl
def b_ground_at := r_ground_at.get k_ground_at
def e_ground_at : FEnt := d_ground_at.ent b_ground_at.f
theorem q_ground_at : e_ground_at.den = runF 7 (M_ground_at) := by kernel_rfl
theorem h_ground_at (T : Mods defs blts cons xs K mg base) : HasF P w K mg base 1 e_ground_at := has_of T (i := 24) rfl bq_ground_at hq_ground_at (fns_nil) (exs_nil) b_ground_at
def d_standing : DefC := { name := ("standing" : Str), N := ["sky", "hour", "state", "hills", "cool", "winds", "shuts"], ps := ["sky", "hour", "state"], md := [⟨false, false, 0⟩, ⟨false, false, 0⟩, ⟨false, false, 0⟩, ⟨false, false, 0⟩, ⟨false, false, 0⟩, ⟨false, false, 0⟩, ⟨false, false, 0⟩], fr := true, kl := fun l => (([] : List (Nat × List Nat)).lookup l).getD [], pl := fun l => ([35, 37, 38] : List Nat).contains l, dt := true, exs := [] }
theorem bq_standing : BindsEq s_standing d_standing.name d_standing.ps := fun _ _ _ _ _ _ us hl => match us, hl with | [_, _, _], _ => rfl
theorem hq_standing : headOk d_standing s_standing = true := by kernel_rfl
def r_standing := readDef 24 12 d_standing s_standing 2 blts [e_shut_at, e_ground_at] cons
theorem k_standing : r_standing.isSome = true := by kernel_rfl
def b_standing := r_standing.get k_standing
def e_standing : FEnt := d_standing.ent b_standing.f
theorem q_standing : e_standing.den = runF 7 (M_standing e_shut_at.den e_ground_at.den) := by kernel_rfl
theorem h_standing (T : Mods defs blts cons xs K mg base) : HasF P w K mg base 3 e_standing := has_of T (i := 25) rfl bq_standing hq_standing (fns_cons (h_shut_at T) (by decide) (fns_cons (h_ground_at T) (by decide) (fns_nil))) (exs_nil) b_standing
def d_wind_at : DefC := { name := ("wind_at" : Str), N := ["winds", "hour", "height", "found", "latest", "first", "level", "dx", "dy"], ps := ["winds", "hour", "height"], md := [⟨false, false, 0⟩, ⟨false, false, 0⟩, ⟨false, false, 0⟩, ⟨false, false, 0⟩, ⟨false, false, 0⟩, ⟨false, false, 0⟩, ⟨false, false, 0⟩, ⟨false, false, 0⟩, ⟨false, false, 0⟩], fr := true, kl := fun l => (([(54, [5, 6, 7, 8])] : List (Nat × List Nat)).lookup l).getD [], pl := fun l => ([] : List Nat).contains l, dt := true, exs := [] }
theorem bq_wind_at : BindsEq s_wind_at d_wind_at.name d_wind_at.ps := fun _ _ _ _ _ _ us hl => match us, hl with | [_, _, _], _ => rfl
theorem hq_wind_at : headOk d_wind_at s_wind_at = true := by kernel_rfl
def r_wind_at := readDef 24 12 d_wind_at s_wind_at 0 blts [] cons
theorem k_wind_at : r_wind_at.isSome = true := by kernel_rfl
def b_wind_at := r_wind_at.get k_wind_at
def e_wind_at : FEnt := d_wind_at.ent b_wind_at.f
theorem q_wind_at : e_wind_at.den = runF 9 (M_wind_at) := by kernel_rfl
theorem h_wind_at (T : Mods defs blts cons xs K mg base) : HasF P w K mg base 1 e_wind_at := has_of T (i := 26) rfl bq_wind_at hq_wind_at (fns_nil) (exs_nil) b_wind_at
def d_led_to : DefC := { name := ("led_to" : Str), N := ["sky", "hour", "state", "order", "hills", "cool", "winds", "shuts", "x", "y", "height", "sacks", "puffs", "dx", "dy"], ps := ["sky", "hour", "state", "order"], md := [⟨false, false, 0⟩, ⟨false, false, 0⟩, ⟨false, false, 0⟩, ⟨false, false, 0⟩, ⟨false, false, 0⟩, ⟨false, false, 0⟩, ⟨false, false, 0⟩, ⟨false, false, 0⟩, ⟨false, false, 0⟩, ⟨false, false, 0⟩, ⟨false, false, 0⟩, ⟨false, false, 0⟩, ⟨false, false, 0⟩, ⟨false, false, 0⟩, ⟨false, false, 0⟩], fr := true, kl := fun l => (([] : List (Nat × List Nat)).lookup l).getD [], pl := fun l => ([] : List Nat).contains l, dt := true, exs := [] }
theorem bq_led_to : BindsEq s_led_to d_led_to.name d_led_to.ps := fun _ _ _ _ _ _ us hl => match us, hl with | [_, _, _, _], _ => rfl
theorem hq_led_to : headOk d_led_to s_led_to = true := by kernel_rfl
def r_led_to := readDef 24 12 d_led_to s_led_to 1 blts [e_wind_at] cons
theorem k_led_to : r_led_to.isSome = true := by kernel_rfl
def b_led_to := r_led_to.get k_led_to
def e_led_to : FEnt := d_led_to.ent b_led_to.f
theorem q_led_to : e_led_to.den = runF 15 (M_led_to e_wind_at.den) := by kernel_rfl
theorem h_led_to (T : Mods defs blts cons xs K mg base) : HasF P w K mg base 2 e_led_to := has_of T (i := 27) rfl bq_led_to hq_led_to (fns_cons (h_wind_at T) (by decide) (fns_nil)) (exs_nil) b_led_to
def d_why_not : DefC := { name := ("why_not" : Str), N := ["sky", "hour", "state", "order", "found"], ps := ["sky", "hour", "state", "order"], md := [⟨false, false, 0⟩, ⟨false, false, 0⟩, ⟨false, false, 0⟩, ⟨false, false, 0⟩, ⟨false, true, 0⟩], fr := true, kl := fun l => (([] : List (Nat × List Nat)).lookup l).getD [], pl := fun l => ([88] : List Nat).contains l, dt := true, exs := [] }
theorem bq_why_not : BindsEq s_why_not d_why_not.name d_why_not.ps := fun _ _ _ _ _ _ us hl => match us, hl with | [_, _, _, _], _ => rfl
theorem hq_why_not : headOk d_why_not s_why_not = true := by kernel_rfl
def r_why_not := readDef 24 12 d_why_not s_why_not 3 blts [e_held_back, e_standing, e_led_to] cons
theorem k_why_not : r_why_not.isSome = true := by kernel_rfl
def b_why_not := r_why_not.get k_why_not
def e_why_not : FEnt := d_why_not.ent b_why_not.f
theorem q_why_not : e_why_not.den = runF 5 (M_why_not e_led_to.den e_standing.den e_held_back.den) := by kernel_rfl
theorem h_why_not (T : Mods defs blts cons xs K mg base) : HasF P w K mg base 4 e_why_not := has_of T (i := 28) rfl bq_why_not hq_why_not (fns_cons (h_held_back T) (by decide) (fns_cons (h_standing T) (by decide) (fns_cons (h_led_to T) (by decide) (fns_nil)))) (exs_nil) b_why_not
def d_choices : DefC := { name := ("choices" : Str), N := ["sky", "hour", "state", "order"], ps := ["sky", "hour", "state"], md := [⟨false, false, 0⟩, ⟨false, false, 0⟩, ⟨false, false, 0⟩, ⟨false, false, 0⟩], fr := true, kl := fun l => (([] : List (Nat × List Nat)).lookup l).getD [], pl := fun l => ([] : List Nat).contains l, dt := true, exs := [] }
theorem bq_choices : BindsEq s_choices d_choices.name d_choices.ps := fun _ _ _ _ _ _ us hl => match us, hl with | [_, _, _], _ => rfl
theorem hq_choices : headOk d_choices s_choices = true := by kernel_rfl
def r_choices := readDef 24 12 d_choices s_choices 4 blts [e_why_not] cons
theorem k_choices : r_choices.isSome = true := by kernel_rfl
def b_choices := r_choices.get k_choices
def e_choices : FEnt := d_choices.ent b_choices.f
theorem q_choices : e_choices.den = runF 4 (M_choices e_why_not.den) := by kernel_rfl
theorem h_choices (T : Mods defs blts cons xs K mg base) : HasF P w K mg base 5 e_choices := has_of T (i := 29) rfl bq_choices hq_choices (fns_cons (h_why_not T) (by decide) (fns_nil)) (exs_nil) b_choices
def d_next_state : DefC := { name := ("next_state" : Str), N := ["sky", "hour", "state", "order", "why"], ps := ["sky", "hour", "state", "order"], md := [⟨false, false, 0⟩, ⟨false, false, 0⟩, ⟨false, false, 0⟩, ⟨false, false, 0⟩, ⟨false, false, 0⟩], fr := true, kl := fun l => (([] : List (Nat × List Nat)).lookup l).getD [], pl := fun l => ([93] : List Nat).contains l, dt := true, exs := [] }
theorem bq_next_state : BindsEq s_next_state d_next_state.name d_next_state.ps := fun _ _ _ _ _ _ us hl => match us, hl with | [_, _, _, _], _ => rfl
theorem hq_next_state : headOk d_next_state s_next_state = true := by kernel_rfl
def r_next_state := readDef 24 12 d_next_state s_next_state 4 blts [e_why_not, e_led_to] cons
theorem k_next_state : r_next_state.isSome = true := by kernel_rfl
def b_next_state := r_next_state.get k_next_state
def e_next_state : FEnt := d_next_state.ent b_next_state.f
theorem q_next_state : e_next_state.den = runF 5 (M_next_state_2 e_led_to.den e_why_not.den) := by kernel_rfl
theorem h_next_state (T : Mods defs blts cons xs K mg base) : HasF P w K mg base 5 e_next_state := has_of T (i := 30) rfl bq_next_state hq_next_state (fns_cons (h_why_not T) (by decide) (fns_cons (h_led_to T) (by decide) (fns_nil))) (exs_nil) b_next_state
def d_behind : DefC := { name := ("behind" : Str), N := ["sky", "hour", "some", "found", "state", "order"], ps := ["sky", "hour", "some"], md := [⟨false, false, 0⟩, ⟨false, false, 0⟩, ⟨false, false, 0⟩, ⟨true, true, 0⟩, ⟨false, false, 0⟩, ⟨false, false, 0⟩], fr := true, kl := fun l => (([(99, [4, 5]), (100, [5])] : List (Nat × List Nat)).lookup l).getD [], pl := fun l => ([] : List Nat).contains l, dt := true, exs := [] }
theorem bq_behind : BindsEq s_behind d_behind.name d_behind.ps := fun _ _ _ _ _ _ us hl => match us, hl with | [_, _, _], _ => rfl
theorem hq_behind : headOk d_behind s_behind = true := by kernel_rfl
def r_behind := readDef 24 12 d_behind s_behind 5 blts [e_choices, e_next_state] cons
theorem k_behind : r_behind.isSome = true := by kernel_rfl
def b_behind := r_behind.get k_behind
def e_behind : FEnt := d_behind.ent b_behind.f
theorem q_behind : e_behind.den = runF 6 (M_behind e_choices.den e_next_state.den) := by kernel_rfl
theorem h_behind (T : Mods defs blts cons xs K mg base) : HasF P w K mg base 6 e_behind := has_of T (i := 31) rfl bq_behind hq_behind (fns_cons (h_choices T) (by decide) (fns_cons (h_next_state T) (by decide) (fns_nil))) (exs_nil) b_behind
def d_table : DefC := { name := ("table" : Str), N := ["sky", "hour", "state", "many", "rows", "at"], ps := ["sky", "hour", "state", "many"], md := [⟨false, false, 0⟩, ⟨false, false, 0⟩, ⟨false, false, 0⟩, ⟨false, false, 0⟩, ⟨true, true, 0⟩, ⟨false, false, 0⟩], fr := true, kl := fun l => (([(117, [5])] : List (Nat × List Nat)).lookup l).getD [], pl := fun l => ([] : List Nat).contains l, dt := true, exs := [] }
theorem bq_table : BindsEq s_table d_table.name d_table.ps := fun _ _ _ _ _ _ us hl => match us, hl with | [_, _, _, _], _ => rfl
theorem hq_table : headOk d_table s_table = true := by kernel_rfl
def r_table := readDef 24 12 d_table s_table 6 blts [e_unbeaten, e_behind] cons
theorem k_table : r_table.isSome = true := by kernel_rfl
def b_table := r_table.get k_table
def e_table : FEnt := d_table.ent b_table.f
theorem q_table : e_table.den = runF 6 (M_table e_behind.den e_unbeaten.den) := by kernel_rfl
theorem h_table (T : Mods defs blts cons xs K mg base) : HasF P w K mg base 7 e_table := has_of T (i := 32) rfl bq_table hq_table (fns_cons (h_unbeaten T) (by decide) (fns_cons (h_behind T) (by decide) (fns_nil))) (exs_nil) b_table
def d_distance : DefC := { name := ("distance" : Str), N := ["x", "y", "to_x", "to_y"], ps := ["x", "y", "to_x", "to_y"], md := [⟨false, false, 0⟩, ⟨false, false, 0⟩, ⟨false, false, 0⟩, ⟨false, false, 0⟩], fr := true, kl := fun l => (([] : List (Nat × List Nat)).lookup l).getD [], pl := fun l => ([122] : List Nat).contains l, dt := true, exs := [] }
theorem bq_distance : BindsEq s_distance d_distance.name d_distance.ps := fun _ _ _ _ _ _ us hl => match us, hl with | [_, _, _, _], _ => rfl
theorem hq_distance : headOk d_distance s_distance = true := by kernel_rfl
def r_distance := readDef 24 12 d_distance s_distance 0 blts [] cons
theorem k_distance : r_distance.isSome = true := by kernel_rfl
def b_distance := r_distance.get k_distance
def e_distance : FEnt := d_distance.ent b_distance.f
theorem q_distance : e_distance.den = runF 4 (M_distance) := by kernel_rfl
theorem h_distance (T : Mods defs blts cons xs K mg base) : HasF P w K mg base 1 e_distance := has_of T (i := 33) rfl bq_distance hq_distance (fns_nil) (exs_nil) b_distance
def d_nearest : DefC := { name := ("nearest" : Str), N := ["sky", "hour", "state", "many", "x", "y", "found", "at", "row", "one", "here"], ps := ["sky", "hour", "state", "many", "x", "y"], md := [⟨false, false, 0⟩, ⟨false, false, 0⟩, ⟨false, false, 0⟩, ⟨false, false, 0⟩, ⟨false, false, 0⟩, ⟨false, false, 0⟩, ⟨false, false, 0⟩, ⟨false, false, 0⟩, ⟨false, false, 0⟩, ⟨false, false, 0⟩, ⟨false, false, 0⟩], fr := true, kl := fun l => (([(125, [7, 8, 9, 10]), (126, [9, 10])] : List (Nat × List Nat)).lookup l).getD [], pl := fun l => ([] : List Nat).contains l, dt := true, exs := [] }
theorem bq_nearest : BindsEq s_nearest d_nearest.name d_nearest.ps := fun _ _ _ _ _ _ us hl => match us, hl with | [_, _, _, _, _, _], _ => rfl
theorem hq_nearest : headOk d_nearest s_nearest = true := by kernel_rfl
def r_nearest := readDef 24 12 d_nearest s_nearest 7 blts [e_table, e_distance] cons
theorem k_nearest : r_nearest.isSome = true := by kernel_rfl
def b_nearest := r_nearest.get k_nearest
def e_nearest : FEnt := d_nearest.ent b_nearest.f
theorem q_nearest : e_nearest.den = runF 11 (M_nearest e_table.den e_distance.den) := by kernel_rfl
theorem h_nearest (T : Mods defs blts cons xs K mg base) : HasF P w K mg base 8 e_nearest := has_of T (i := 34) rfl bq_nearest hq_nearest (fns_cons (h_table T) (by decide) (fns_cons (h_distance T) (by decide) (fns_nil))) (exs_nil) b_nearest
def d_law : DefC := { name := ("law" : Str), N := ["_law_script", "_law_numbers_here", "_law_base_here", "_law_hour", "_law_many", "_law_sky_here", "_law_state_here", "_law_layers_here", "_law_handed", "_law_k", "_law_x", "_law_y", "_law_some", "_law_at", "_law_one"], ps := ["_law_script"], md := [⟨false, false, 0⟩, ⟨false, false, 0⟩, ⟨false, false, 0⟩, ⟨false, false, 0⟩, ⟨false, false, 0⟩, ⟨false, false, 0⟩, ⟨false, false, 0⟩, ⟨false, false, 0⟩, ⟨false, false, 0⟩, ⟨false, false, 0⟩, ⟨false, false, 0⟩, ⟨false, false, 0⟩, ⟨true, true, 0⟩, ⟨false, false, 0⟩, ⟨false, false, 0⟩], fr := true, kl := fun l => (([(276, [9, 10, 11, 12, 13, 14]), (282, [13, 14]), (283, [14])] : List (Nat × List Nat)).lookup l).getD [], pl := fun l => ([286, 288, 289] : List Nat).contains l, dt := true, exs := [] }
theorem bq_law : BindsEq s_law d_law.name d_law.ps := fun _ _ _ _ _ _ us hl => match us, hl with | [_], _ => rfl
theorem hq_law : headOk d_law s_law = true := by kernel_rfl
def r_law := readDef 24 12 d_law s_law 8 blts [e_law_numbers, e_law_case, e_law_layers, e_law_copy, e_law_goal, e_law_flat, (e_law_same 4), e_nearest] cons
theorem k_law : r_law.isSome = true := by kernel_rfl
def b_law := r_law.get k_law
def e_law : FEnt := d_law.ent b_law.f
theorem q_law : e_law.den = runF 15 (M_x_law e_nearest.den (g_law_same 4) e_law_flat.den e_law_goal.den e_law_copy.den e_law_layers.den e_law_case.den e_law_numbers.den) := by kernel_rfl
end
/-! ### the law -/
def abI (i : Int) : Int := if i < 0 then -i else i
def disF (x y : Int) (q : St) : Int := abI (q.1 - x) + abI (q.2.1 - y)
def ptL (x y h : Int) (k : Nat) (l : List St) : List Pr := l.map fun q => (disF x y q, h + (k : Int))
theorem minP_spec : ∀ (L : List (Int × Int)) (a : Int × Int), ∃ m ∈ a :: L, minOfD (pqD a) (L.map pqD) = pqD m ∧ ∀ x ∈ a :: L, lexP m x
  | [], a => ⟨a, by simp, rfl, fun x hx => by rw [List.mem_singleton.mp hx]; exact .inr ⟨rfl, Int.le_refl _⟩⟩
  | y :: L, a => by
    have e : minOfD (pqD a) ((y :: L).map pqD) = minOfD (if PySem.W.dataLt (toPy (pqD y)) (toPy (pqD a)) then pqD y else pqD a) (L.map pqD) := rfl
    have lt : PySem.W.dataLt (toPy (pqD y)) (toPy (pqD a)) = decide (y.1 < a.1 ∨ (y.1 = a.1 ∧ y.2 < a.2)) := PySem.W.dataLt_ii _ _ _ _
    rw [e, lt]
    by_cases h : y.1 < a.1 ∨ (y.1 = a.1 ∧ y.2 < a.2)
    · rw [if_pos (decide_eq_true h)]
      obtain ⟨m, hm, em, hx⟩ := minP_spec L y
      refine ⟨m, List.mem_cons_of_mem _ hm, em, fun x hx' => ?_⟩
      rcases List.mem_cons.mp hx' with rfl | hx'
      · have := hx y (by simp)
        unfold lexP at *
        omega
      · exact hx x hx'
    · rw [if_neg (by simpa using h)]
      obtain ⟨m, hm, em, hx⟩ := minP_spec L a
      refine ⟨m, ?_, em, fun x hx' => ?_⟩
      · rcases List.mem_cons.mp hm with rfl | hm
        · simp
        · simp [hm]
      · rcases List.mem_cons.mp hx' with rfl | hx'
        · exact hx _ (by simp)
        · rcases List.mem_cons.mp hx' with rfl | hx'
          · have := hx a (by simp)
            unfold lexP at *
            omega
          · exact hx x (by simp [hx'])
theorem gMinA_pr {L : List (Int × Int)} (h : L ≠ []) : ∃ m ∈ L, gMinA [.lst (L.map pqD)] = some (pqD m) ∧ ∀ x ∈ L, lexP m x := by
  cases L with
  | nil => exact absurd rfl h
  | cons a L =>
    obtain ⟨m, hm, em, hx⟩ := minP_spec L a
    refine ⟨m, hm, ?_, hx⟩
    have e : gOneD minOfD [.lst (pqD a :: L.map pqD)] = some (pqD m) := by
      unfold gOneD
      have := mmOk_pr (a :: L)
      rw [List.map_cons] at this
      simp only [em, this]
      rfl
    unfold gMinA
    exact e
theorem lexP_anti {a b : Pr} (h1 : lexP a b) (h2 : lexP b a) : a = b := by
  unfold lexP at *
  exact pr_ext (by omega) (by omega)
def ltP (a b : Pr) : Bool := decide (a.1 < b.1 ∨ (a.1 = b.1 ∧ a.2 < b.2))
theorem gLt_pr (a b : Pr) : gLt (.tup [.int a.1, .int a.2]) (.tup [.int b.1, .int b.2]) = some (.bl (ltP a b)) := by
  show some (D.bl (HT.lexLt [a.1, a.2] [b.1, b.2])) = _
  have : HT.lexLt [a.1, a.2] [b.1, b.2] = ltP a b := by
    rw [HT.lexLt_cons, HT.lexLt_cons, HT.lexLt_nil_nil]
    unfold ltP
    by_cases h1 : a.1 = b.1
    · rw [if_pos h1]
      by_cases h2 : a.2 = b.2
      · rw [if_pos h2]
        exact (decide_eq_false (by omega)).symm
      · rw [if_neg h2]
        exact decide_eq_decide.mpr (by omega)
    · rw [if_neg h1]
      exact decide_eq_decide.mpr (by omega)
  rw [this]
def minS (m : Option Pr) (p : Pr) : Option Pr := match m with
  | none => some p
  | some q => if ltP p q then some p else some q
def encO : Option Pr → D
  | none => .non
  | some p => pqD p
theorem minS_fold : ∀ (l : List Pr) (m : Pr), ∃ r, l.foldl minS (some m) = some r ∧ (r = m ∨ r ∈ l) ∧ lexP r m ∧ ∀ x ∈ l, lexP r x
  | [], m => ⟨m, rfl, .inl rfl, .inr ⟨rfl, Int.le_refl _⟩, fun x hx => by cases hx⟩
  | p :: l, m => by
    show ∃ r, l.foldl minS (if ltP p m then some p else some m) = some r ∧ _
    by_cases c : ltP p m = true
    · rw [if_pos c]
      have c' := of_decide_eq_true c
      obtain ⟨r, e, k, h1, h2⟩ := minS_fold l p
      refine ⟨r, e, k.elim (fun z => .inr (by simp [z])) fun z => .inr (by simp [z]), ?_, fun x hx => ?_⟩
      · unfold lexP at *; omega
      · rcases List.mem_cons.mp hx with rfl | hx
        · exact h1
        · exact h2 x hx
    · rw [if_neg c]
      have c' : ¬ (p.1 < m.1 ∨ (p.1 = m.1 ∧ p.2 < m.2)) := fun z => c (decide_eq_true z)
      obtain ⟨r, e, k, h1, h2⟩ := minS_fold l m
      refine ⟨r, e, k.elim .inl fun z => .inr (by simp [z]), h1, fun x hx => ?_⟩
      rcases List.mem_cons.mp hx with rfl | hx
      · unfold lexP at *; omega
      · exact h2 x hx
theorem minS_all {l : List Pr} (h : l ≠ []) : ∃ r ∈ l, l.foldl minS none = some r ∧ ∀ x ∈ l, lexP r x := by
  cases l with
  | nil => exact absurd rfl h
  | cons p l =>
    obtain ⟨r, e, k, h1, h2⟩ := minS_fold l p
    refine ⟨r, k.elim (fun z => by simp [z]) fun z => by simp [z], e, fun x hx => ?_⟩
    rcases List.mem_cons.mp hx with rfl | hx
    · exact h1
    · exact h2 x hx
theorem distance_ok (a b c d : Int) : runF 4 M_distance [.int a, .int b, .int c, .int d] = .ok (.int (abI (a - c) + abI (b - d))) := by
  rw [runF_eq]
  simp [M_distance, abI]
section
variable {c0 c1 : DF'} (h1 : ∀ a b c d : Int, c1 [.int a, .int b, .int c, .int d] = .ok (.int (abI (a - c) + abI (b - d)))) (sk p : D) (h n x y : Int)
def enZ (sk p : D) (h n x y : Int) (m : Option Pr) (r : List (Option D)) : DEnv := [some sk, some (.int h), some p, some (.int n), some (.int x), some (.int y), some (encO m)] ++ r
include h1
theorem near_in (k : Nat) (rr : D) : ∀ (r : List St) (m : Option Pr), forGo (gdName 9) (M_nearest_l1 c0 c1) [9, 10] (r.map tD) (enZ sk p h n x y m [some (.int (k : Int)), some rr, none, none]) = .nx (enZ sk p h n x y ((ptL x y h k r).foldl minS m) [some (.int (k : Int)), some rr, none, none])
  | [], m => rfl
  | q :: r, m => by
    have ih := near_in k rr r (minS m (disF x y q, h + (k : Int)))
    have d := h1 q.1 q.2.1 x y
    have s2 : (2 : Nat) ≤ sizeLine := by decide
    rw [List.map_cons, forGo_cons (e1 := enZ sk p h n x y m [some (.int (k : Int)), some rr, some (tD q), none]) (by simp [enZ])]
    have b : M_nearest_l1 c0 c1 (enZ sk p h n x y m [some (.int (k : Int)), some rr, some (tD q), none]) = .nx (enZ sk p h n x y (minS m (disF x y q, h + (k : Int))) [some (.int (k : Int)), some rr, some (tD q), some (pqD (disF x y q, h + (k : Int)))]) := by
      cases m with
      | none => simp [M_nearest_l1, enZ, encO, d, tD, s2, minS, pqD, disF, Dl.isNon]
      | some m =>
        have lt := gLt_pr (disF x y q, h + (k : Int)) m
        simp only [disF] at lt
        by_cases c : ltP (disF x y q, h + (k : Int)) m = true
        · have c2 := c
          simp only [disF] at c
          rw [c] at lt
          simp [M_nearest_l1, enZ, encO, d, tD, s2, minS, pqD, disF, Dl.isNon, lt, c]
        · have c := Bool.eq_false_iff.mpr c
          simp only [disF] at c
          rw [c] at lt
          simp [M_nearest_l1, enZ, encO, d, tD, s2, minS, pqD, disF, Dl.isNon, lt, c]
    rw [b, forK_nx]
    exact ih
def ptsR (x y h : Int) : Nat → List (List St) → List Pr
  | _, [] => []
  | k, r :: rs => ptL x y h k r ++ ptsR x y h (k + 1) rs
theorem near_out : ∀ (rs : List (List St)) (k : Nat) (m : Option Pr), forGo (gdTup 2 (gdCons (gdName 7) (gdCons (gdName 8) gdNil))) (M_nearest_l2 c0 c1) [7, 8, 9, 10] (enumD k (rs.map rowD)) (enZ sk p h n x y m [none, none, none, none]) = .nx (enZ sk p h n x y ((ptsR x y h k rs).foldl minS m) [none, none, none, none])
  | [], k, m => rfl
  | r :: rs, k, m => by
    have e : enumD k ((r :: rs).map rowD) = .tup [.int (k : Int), rowD r] :: enumD (k + 1) (rs.map rowD) := rfl
    have in_ := near_in (c0 := c0) h1 sk p h n x y k (rowD r) r m
    have ih := near_out rs (k + 1) ((ptL x y h k r).foldl minS m)
    rw [e, forGo_cons (e1 := enZ sk p h n x y m [some (.int (k : Int)), some (rowD r), none, none]) (by simp [enZ])]
    have b : M_nearest_l2 c0 c1 (enZ sk p h n x y m [some (.int (k : Int)), some (rowD r), none, none]) = .nx (enZ sk p h n x y ((ptL x y h k r).foldl minS m) [some (.int (k : Int)), some (rowD r), none, none]) := by
      unfold enZ at in_ ⊢
      simp only [rowD, List.cons_append, List.nil_append] at in_ ⊢
      simp [M_nearest_l2, dFor, in_]
    rw [b, forK_nx]
    show _ = Out.nx (enZ sk p h n x y ((ptL x y h k r ++ ptsR x y h (k + 1) rs).foldl minS m) _)
    rw [List.foldl_append]
    exact ih
end
theorem ptsR_mem (x y h : Int) (q : Pr) : ∀ (rs : List (List St)) (k : Nat), q ∈ ptsR x y h k rs ↔ ∃ (i : Nat) (r : List St), rs[i]? = some r ∧ q ∈ ptL x y h (k + i) r
  | [], k => by simp [ptsR]
  | r :: rs, k => by
    show q ∈ ptL x y h k r ++ ptsR x y h (k + 1) rs ↔ _
    rw [List.mem_append, ptsR_mem x y h q rs (k + 1)]
    constructor
    · rintro (z | ⟨i, r', e, z⟩)
      · exact ⟨0, r, rfl, z⟩
      · exact ⟨i + 1, r', e, by rw [show k + (i + 1) = k + 1 + i by omega]; exact z⟩
    · rintro ⟨i, r', e, z⟩
      cases i with
      | zero => cases e; exact .inl z
      | succ i => exact .inr ⟨i, r', e, by rw [show k + 1 + i = k + (i + 1) by omega]; exact z⟩
theorem nearest_ok {c0 c1 : DF'} (h1 : ∀ a b c d : Int, c1 [.int a, .int b, .int c, .int d] = .ok (.int (abI (a - c) + abI (b - d)))) (sk p : D) (h n x y : Int) (R : List (List St)) (h0 : c0 [sk, .int h, p, .int n] = .ok (.lst (R.map rowD))) (r : Pr) (e : (ptsR x y h 0 R).foldl minS none = some r) :
    runF 11 (M_nearest c0 c1) [sk, .int h, p, .int n, .int x, .int y] = .ok (pqD r) := by
  have o := near_out (c0 := c0) h1 sk p h n x y R 0 none
  rw [e] at o
  simp only [enZ, encO, List.cons_append, List.nil_append] at o
  have im : imm (pqD r) = true := rfl
  rw [runF_eq]
  generalize R.map rowD = Q at h0 o
  simp [M_nearest, dFor, h0, o, im]
theorem goal_ok {d : List Int} (hd : Dr 4 d) (rs : List St) (hr : 0 < rs.length) (bx by' : Int) : ∃ gx gy : Int, runF 4 M_law_goal [.lst (d.map D.int), .lst (rs.map tD), .tup [.int bx, .int by']] = .ok (.tup [.int gx, .int gy]) := by
  obtain ⟨d0, d1, d2, d3, rfl, r0, r1, r2, r3⟩ := dr4 hd
  obtain ⟨v2, _, e2⟩ := atI_ints [0, 0, 0, 1, -1] (i := d2 % 5) (by omega) (by simp; omega)
  obtain ⟨v3, _, e3⟩ := atI_ints [0, 0, 0, 1, -1] (i := d3 % 5) (by omega) (by simp; omega)
  simp only [List.map_cons, List.map_nil] at e2 e3
  have mm : gModI (.int d1) (.int (rs.length : Int)) = some (.int (d1 % (rs.length : Int))) := gModI_pos (by omega)
  obtain ⟨q, _, eq⟩ := atI_map tD rs (i := d1 % (rs.length : Int)) (Int.emod_nonneg _ (by omega)) (Int.emod_lt_of_pos _ (by omega))
  simp only [tD] at eq
  have s2 : (2 : Nat) ≤ sizeLine := by decide
  have s5 : (5 : Nat) ≤ sizeLine := by decide
  by_cases c : d0 % 4 = 0
  · refine ⟨bx + d1 % 9 - 4, by' + d2 % 9 - 4, ?_⟩
    rw [runF_eq]
    simp [M_law_goal, c, s2]
  · refine ⟨q.1 + v2, q.2.1 + v3, ?_⟩
    rw [runF_eq]
    simp [M_law_goal, c, s2, s5, mm, eq, e2, e3]
section
variable {c0 c1 c2 c3 c4 c5 c6 c7 : DF'} (sc ns b p : D) (h : Int) (n : Nat) (sk ly hd : D)
def enQ (sc ns b p : D) (h : Int) (n : Nat) (sk ly hd : D) (k : Int) (x y : Int) (acc : List Pr) (r : List (Option D)) : DEnv := [some sc, some ns, some b, some (.int h), some (.int (n : Int)), some sk, some p, some ly, some hd, some (.int k), some (.int x), some (.int y), some (.lst (acc.map pqD))] ++ r
theorem app_in (k : Int) (x y : Int) (a : Nat) : ∀ (l : List St) (acc : List Pr), acc.length + l.length ≤ 1000000 → forGo (gdName 14) (M_x_law_l1 c0 c1 c2 c3 c4 c5 c6 c7) [14] (l.map tD) (enQ sc ns b p h n sk ly hd k x y acc [some (.int (a : Int)), none]) = .nx (enQ sc ns b p h n sk ly hd k x y (acc ++ ptL x y h a l) [some (.int (a : Int)), none])
  | [], acc, _ => by simp [ptL]
  | q :: l, acc, hz => by
    rw [List.length_cons] at hz
    have ih := app_in k x y a l (acc ++ [(disF x y q, h + (a : Int))]) (by simp; omega)
    have z : acc.length < sizeLine := lt_size (by omega)
    have s2 : (2 : Nat) ≤ sizeLine := by decide
    have im : imm (.tup [.int (disF x y q), .int (h + (a : Int))]) = true := rfl
    simp only [disF, abI] at im
    rw [List.map_cons, forGo_cons (e1 := enQ sc ns b p h n sk ly hd k x y acc [some (.int (a : Int)), some (tD q)]) (by simp [enQ])]
    have bd : M_x_law_l1 c0 c1 c2 c3 c4 c5 c6 c7 (enQ sc ns b p h n sk ly hd k x y acc [some (.int (a : Int)), some (tD q)]) = .nx (enQ sc ns b p h n sk ly hd k x y (acc ++ [(disF x y q, h + (a : Int))]) [some (.int (a : Int)), some (tD q)]) := by
      simp [M_x_law_l1, enQ, tD, z, s2, im, pqD, disF, abI]
    rw [bd, forK_nx]
    rw [show acc ++ ptL x y h a (q :: l) = (acc ++ [(disF x y q, h + (a : Int))]) ++ ptL x y h a l by simp [ptL]]
    exact ih
noncomputable def allP (s : Sky) (p : St) (x y h : Int) (m : Nat) : List Pr := (List.range m).flatMap fun k => ptL x y h k (statesF s h p k)
theorem allP_len (s : Sky) (p : St) (x y h : Int) : ∀ m, m ≤ 9 → (allP s p x y h m).length ≤ 6561 * m
  | 0, _ => by simp [allP]
  | m + 1, hm => by
    have ih := allP_len s p x y h m (by omega)
    have hl := Nat.le_trans (statesF_len s h p m) (pow3 (n := m) (by omega))
    have e : allP s p x y h (m + 1) = allP s p x y h m ++ ptL x y h m (statesF s h p m) := by
      unfold allP
      rw [List.range_succ, List.flatMap_append]
      simp
    have pl : (ptL x y h m (statesF s h p m)).length = (statesF s h p m).length := List.length_map _
    rw [e, List.length_append, pl]
    omega
theorem app_out (s : Sky) (q : St) (hn : n ≤ 8) (k : Int) (x y : Int) (hly : ly = .lst (((List.range (n + 1)).map (statesF s h q)).map fun l => .lst (l.map tD))) : forGo (gdName 13) (M_x_law_l2 c0 c1 c2 c3 c4 c5 c6 c7) [13, 14] ((List.range (n + 1)).map fun (i : Nat) => D.int (i : Int)) (enQ sc ns b p h n sk ly hd k x y [] [none, none]) = .nx (enQ sc ns b p h n sk ly hd k x y (allP s q x y h (n + 1)) [none, none]) := by
  obtain ⟨env', e1, rfl⟩ := forGo_inv (gd := gdName 13) (body := M_x_law_l2 c0 c1 c2 c3 c4 c5 c6 c7) (ks := [13, 14]) (enc := fun (i : Nat) => D.int (i : Int))
    (fun pre env => env = enQ sc ns b p h n sk ly hd k x y (allP s q x y h pre.length) [none, none]) (List.range (n + 1)) (env := enQ sc ns b p h n sk ly hd k x y [] [none, none]) rfl fun pre a post env hi ev => by
      subst ev
      obtain ⟨rfl, hk⟩ := pre_range hi
      have hl := Nat.le_trans (statesF_len s h q pre.length) (pow3 (by omega))
      have al := allP_len s q x y h pre.length (by omega)
      have in_ := app_in (c0 := c0) (c1 := c1) (c2 := c2) (c3 := c3) (c4 := c4) (c5 := c5) (c6 := c6) (c7 := c7) sc ns b p h n sk ly hd k x y pre.length (statesF s h q pre.length) (allP s q x y h pre.length) (by omega)
      have at_ : gIx ly (.int (pre.length : Int)) = some (.lst ((statesF s h q pre.length).map tD)) := by
        subst hly
        show atI _ _ = _
        rw [List.map_map, atI_natL]
        exact range_at _ hk
      have e : allP s q x y h (pre.length + 1) = allP s q x y h pre.length ++ ptL x y h pre.length (statesF s h q pre.length) := by
        unfold allP
        rw [List.range_succ, List.flatMap_append]
        simp
      refine ⟨_, rfl, enQ sc ns b p h n sk ly hd k x y (allP s q x y h (pre.length + 1)) [some (.int (pre.length : Int)), none], .inl ?_, by simp [enQ]⟩
      rw [e]
      generalize allP s q x y h pre.length = acc at in_
      unfold enQ at in_ ⊢
      simp only [List.cons_append, List.nil_append] at in_ ⊢
      simp [M_x_law_l2, dFor, at_, in_]
  rw [List.length_range] at e1
  exact e1
end
theorem least_same {s : Sky} {p : St} (hp : posS p) (x y h : Int) (n : Nat) {m r : Pr} (m1 : m ∈ allP s p x y h (n + 1)) (m2 : ∀ q ∈ allP s p x y h (n + 1), lexP m q)
    (r1 : r ∈ ptsR x y h 0 ((List.range (n + 1)).map (tableF s h p))) (r2 : ∀ q ∈ ptsR x y h 0 ((List.range (n + 1)).map (tableF s h p)), lexP r q) : r = m := by
  refine lexP_anti (r2 m ?_) (m2 r ?_)
  · obtain ⟨k, hk, hq⟩ := List.mem_flatMap.mp m1
    have hk := List.mem_range.mp hk
    obtain ⟨q, hq', rfl⟩ := List.mem_map.mp hq
    obtain ⟨r', h1, h2⟩ := (table_states hp k).2 q hq'
    refine (ptsR_mem _ _ _ _ _ _).mpr ⟨k, _, range_at _ hk, List.mem_map.mpr ⟨r', h1, ?_⟩⟩
    have e1 : q.1 = r'.1 := congrArg (fun t : Sp => t.1) h2.1
    have e2 : q.2.1 = r'.2.1 := congrArg (fun t : Sp => t.2.1) h2.1
    unfold disF
    rw [e1, e2, Nat.zero_add]
  · obtain ⟨i, r', e, hq⟩ := (ptsR_mem _ _ _ _ _ _).mp r1
    have hi : i < n + 1 := by
      have := (List.getElem?_eq_some_iff.mp e).1
      simpa using this
    rw [range_at _ hi] at e
    cases e
    rw [Nat.zero_add] at hq
    obtain ⟨q, hq', rfl⟩ := List.mem_map.mp hq
    exact List.mem_flatMap.mpr ⟨i, List.mem_range.mpr hi, List.mem_map.mpr ⟨q, (table_states hp i).1 q hq', rfl⟩⟩
theorem law_true : ∀ ns : List Int, ns.length ≤ 63 → runF d_law.N.length b_law.f [frScript ns] = .ok (.bl true) := by
  intro sc hsc
  show e_law.den [frScript sc] = _
  obtain ⟨ns, hns, en⟩ := numbers_ok sc hsc 160 (by omega)
  rw [← show e_law_numbers.den = _ from q_law_numbers] at en
  have hboxF : ∀ (x y : Int) (d0 d1 d2 d3 d4 d5 : Int) (r : List Int), e_law_box.den [.lst ((d0 :: d1 :: d2 :: d3 :: d4 :: d5 :: r).map D.int), .tup [.int x, .int y]] = .ok (boxN x y d0 d1 d2 d3 d4 d5) := fun x y d0 d1 d2 d3 d4 d5 r => by
    rw [q_law_box]; exact box_ok x y d0 d1 d2 d3 d4 d5 r
  obtain ⟨x, y, h, n, s, p, S, n8, hh0, hhn, hz, hpos, ec⟩ := case_pos (c0 := e_law_state.den) (c1 := e_law_sky.den) (c2 := e_law_base.den) hns (fun d x y _ => by rw [q_law_state]) (fun d x y h hd h0 h24 => by
    obtain ⟨s, S, es⟩ := sky_ok hd (by omega) e_law_box.den (x := x) (y := y) (hboxF x y) (h := h) h0 h24
    exact ⟨s, S, by rw [q_law_sky]; exact es⟩) (fun d => by rw [q_law_base])
  rw [← show e_law_case.den = _ from q_law_case] at ec
  have ecp : e_law_copy.den [skyD s] = .ok (skyD s) := by rw [q_law_copy]; exact copy_ok s
  have sl := S.sl
  have hl := S.hl
  have w0 : ∀ w ∈ s.winds, 0 ≤ w.1 := fun w hw => (S.wk w hw).1.1
  have wl : s.winds.length ≤ 1000 := by have := S.wl; omega
  have hin : ∀ a b c e f g x y z : Int, e_inside.den [box6 a b c e f g, .int x, .int y, .int z] = .ok (.bl (decide (a ≤ x ∧ x ≤ c ∧ b ≤ y ∧ y ≤ e ∧ f ≤ z ∧ z ≤ g))) := fun a b c e f g x y z => by
    rw [q_inside]; exact inside_ok a b c e f g x y z
  have hli : ∀ a b c e f g x y z : Int, e_law_in.den [box6 a b c e f g, .int x, .int y, .int z] = .ok (.bl (decide (a ≤ x ∧ x ≤ c ∧ b ≤ y ∧ y ≤ e ∧ f ≤ z ∧ z ≤ g))) := fun a b c e f g x y z => by
    rw [q_law_in]; exact law_in_ok a b c e f g x y z
  have hled : ∀ (h : Int) (p : St) (o : Od), e_led_to.den [skyD s, .int h, tD p, oD o] = .ok (tD (ledF s h p o)) := fun h p o => by
    rw [q_led_to]; exact led_to_ok s (fun h l => by rw [q_wind_at]; exact wind_at_ok s.winds h l) h p o
  have hwhy : ∀ (h : Int) (p : St) (o : Od), e_why_not.den [skyD s, .int h, tD p, oD o] = .ok (.str (whyF s h p o)) := fun h p o => by
    rw [q_why_not]
    refine why_not_ok s hled (fun h p => ?_) (fun p o => ?_) h p o
    · rw [q_standing]; exact standing_ok s (fun h x y z => by rw [q_shut_at]; exact shut_at_ok hin s.shuts h x y z) (fun x y => by rw [q_ground_at]; exact ground_at_ok s.hills x y) h p.1 p.2.1 p.2.2.1 p.2.2.2.1 p.2.2.2.2
    · rw [q_held_back]; exact held_ok p o
  have hlled : ∀ (h : Int) (p : St) (o : Od), 0 ≤ p.2.2.1 + o.dz → e_law_led.den [skyD s, .int h, tD p, oD o] = .ok (tD (ledF s h p o)) := fun h p o h0 => by
    rw [q_law_led]; exact law_led_ok s (fun h l => by rw [q_law_wind]; exact law_wind_ok s.winds h l w0 wl) h p o h0
  have hlwhy : ∀ (h : Int) (p : St) (o : Od), 0 ≤ p.2.2.1 → e_law_why.den [skyD s, .int h, tD p, oD o] = .ok (.str (whyF s h p o)) := fun h p o h0 => by
    rw [q_law_why]
    refine law_why_ok s hlled (fun h p => ?_) h p o h0
    rw [q_law_stand]; exact law_stand_ok s (fun h x y z => by rw [q_law_shut]; exact law_shut_ok hli s.shuts h x y z (by omega)) (fun x y => by rw [q_law_ground]; exact law_ground_ok s.hills x y (by omega)) h p.1 p.2.1 p.2.2.1 p.2.2.2.1 p.2.2.2.2
  have hnext : ∀ (h : Int) (l : List St), (∀ p ∈ l, 0 ≤ p.2.2.1) → l.length ≤ 100000 → e_law_next.den [skyD s, .int h, .lst (l.map tD)] = .ok (.lst ((behindF s h l).map tD)) := fun h l h0 hz => by
    rw [q_law_next]; exact law_next_ok s hlwhy hlled h l h0 hz
  have hch : ∀ (h : Int) (p : St), e_choices.den [skyD s, .int h, tD p] = .ok (.lst ((Od.all.filter (canF s h p)).map oD)) := fun h p => by rw [q_choices]; exact choices_ok s hwhy h p
  have hnx : ∀ (h : Int) (p : St) (o : Od), canF s h p o = true → e_next_state.den [skyD s, .int h, tD p, oD o] = .ok (tD (ledF s h p o)) := fun h p o c => by rw [q_next_state]; exact next_ok2 s hled hwhy h p o c
  have hbe : ∀ (h : Int) (l : List St), l.length ≤ 100000 → e_behind.den [skyD s, .int h, .lst (l.map tD)] = .ok (.lst ((behindF s h l).map tD)) := fun h l h1 => by rw [q_behind]; exact behind_ok s hch hnx h l h1
  have elay := layers_ok s hnext h p hz.1 n n8
  rw [← show e_law_layers.den = _ from q_law_layers] at elay
  have htab : e_table.den [skyD s, .int h, tD p, .int (n : Int)] = .ok (.lst (((List.range (n + 1)).map (tableF s h p)).map rowD)) := by
    rw [q_table]
    refine table_ok s hbe (fun l hl => ?_) h p n n8
    rw [q_unbeaten]
    exact unbeaten_ok (fun ps hps => by rw [q_front]; exact front_ok ps hps) l hl
  have hdis : ∀ a b c d : Int, e_distance.den [.int a, .int b, .int c, .int d] = .ok (.int (abI (a - c) + abI (b - d))) := fun a b c d => by rw [q_distance]; exact distance_ok a b c d
  -- what is asked, at any place
  have ask : ∀ gx gy : Int, ∃ m : Pr, gMinA [.lst ((allP s p gx gy h (n + 1)).map pqD)] = some (pqD m) ∧ e_nearest.den [skyD s, .int h, tD p, .int (n : Int), .int gx, .int gy] = .ok (pqD m) := fun gx gy => by
    have p0 : (disF gx gy p, h + ((0 : Nat) : Int)) ∈ allP s p gx gy h (n + 1) := List.mem_flatMap.mpr ⟨0, List.mem_range.mpr (by omega), List.mem_map.mpr ⟨p, List.mem_singleton.mpr rfl, rfl⟩⟩
    have t0 : (disF gx gy p, h + ((0 : Nat) : Int)) ∈ ptsR gx gy h 0 ((List.range (n + 1)).map (tableF s h p)) := (ptsR_mem _ _ _ _ _ _).mpr ⟨0, _, range_at _ (by omega), List.mem_map.mpr ⟨p, List.mem_singleton.mpr rfl, rfl⟩⟩
    obtain ⟨m, m1, m2, m3⟩ := gMinA_pr (L := allP s p gx gy h (n + 1)) (fun e => by rw [e] at p0; cases p0)
    obtain ⟨r, r1, r2, r3⟩ := minS_all (l := ptsR gx gy h 0 ((List.range (n + 1)).map (tableF s h p))) (fun e => by rw [e] at t0; cases t0)
    obtain rfl := least_same hpos gx gy h n m1 m3 r1 r3
    exact ⟨r, m2, by rw [q_nearest]; exact nearest_ok hdis _ _ _ _ _ _ _ htab r r2⟩
  have flat : e_law_flat.den [.lst (((List.range (n + 1)).map (statesF s h p)).map rowD)] = .ok (.lst (((List.range (n + 1)).map (statesF s h p)).flatten.map tD)) := by
    rw [q_law_flat]
    refine law_flat_ok _ ?_
    have : ∀ m, m ≤ 9 → ((List.range m).map (statesF s h p)).flatten.length ≤ 6561 * m := fun m => by
      induction m with
      | zero => intro _; simp
      | succ m ih =>
        intro hm
        have hl := Nat.le_trans (statesF_len s h p m) (pow3 (n := m) (by omega))
        have := ih (by omega)
        have e1 : ([m].map (statesF s h p)).flatten.length = (statesF s h p m).length := by simp
        rw [List.range_succ, List.map_append, List.flatten_append, List.length_append, e1]
        omega
    have := this (n + 1) (by omega)
    omega
  have fpos : 0 < ((List.range (n + 1)).map (statesF s h p)).flatten.length := List.length_pos_of_mem (a := p) (List.mem_flatten.mpr ⟨_, List.mem_map.mpr ⟨0, List.mem_range.mpr (by omega), rfl⟩, List.mem_singleton.mpr rfl⟩)
  have flat : e_law_flat.den [.lst (((List.range (n + 1)).map (statesF s h p)).map fun l => .lst (l.map tD))] = .ok (.lst (((List.range (n + 1)).map (statesF s h p)).flatten.map tD)) := flat
  generalize ((List.range (n + 1)).map (statesF s h p)).flatten = fl at flat fpos
  have ne : gNe (skyD s) (skyD s) = some (.bl false) := gNe_self (sky_eq s)
  have rg := rng_nat (n := n + 1) (by omega)
  obtain ⟨env', h1, rfl⟩ := forGo_inv (gd := gdName 9) (body := M_x_law_l3 e_nearest.den (g_law_same 4) e_law_flat.den e_law_goal.den e_law_copy.den e_law_layers.den e_law_case.den e_law_numbers.den) (ks := [9, 10, 11, 12, 13, 14]) (enc := fun (i : Nat) => D.int (i : Int))
    (fun pre env => env = [some (frScript sc), some (.lst (ns.map D.int)), some (.tup [.int x, .int y]), some (.int h), some (.int (n : Int)), some (skyD s), some (tD p), some (.lst (((List.range (n + 1)).map (statesF s h p)).map fun l => .lst (l.map tD))), some (skyD s), none, none, none, none, none, none]) (List.range 3)
    (env := [some (frScript sc), some (.lst (ns.map D.int)), some (.tup [.int x, .int y]), some (.int h), some (.int (n : Int)), some (skyD s), some (tD p), some (.lst (((List.range (n + 1)).map (statesF s h p)).map fun l => .lst (l.map tD))), some (skyD s), none, none, none, none, none, none]) rfl fun pre k post env hi ev => by
      subst ev
      obtain ⟨rfl, hk⟩ := pre_range hi
      obtain ⟨d4, hd4, e4⟩ := dr_cutI hns (i := 136 + 4 * (pre.length : Int)) (j := 140 + 4 * (pre.length : Int)) (136 + 4 * pre.length) (140 + 4 * pre.length) (by omega) (by omega) (by omega) (by omega)
      rw [show 140 + 4 * pre.length - (136 + 4 * pre.length) = 4 by omega] at hd4
      obtain ⟨u, u0, u1, eu⟩ := dr_get hns (i := 148 + (pre.length : Int)) (by omega) (by omega)
      obtain ⟨v, v0, v1, ev⟩ := dr_get hns (i := 151 + (pre.length : Int)) (by omega) (by omega)
      obtain ⟨w, w0', w1, ew⟩ := dr_get hns (i := 154 + (pre.length : Int)) (by omega) (by omega)
      obtain ⟨gx, gy, eg⟩ := goal_ok hd4 fl fpos x y
      rw [← show e_law_goal.den = _ from q_law_goal] at eg
      simp at rg
      generalize hly : (D.lst (((List.range (n + 1)).map (statesF s h p)).map fun l => D.lst (l.map tD))) = ly at flat
      by_cases c : u % 3 = 1
      · obtain ⟨m, q1, q2⟩ := ask (x + v % 30 - 15) (y + w % 30 - 15)
        have ap := app_out (c0 := e_nearest.den) (c1 := g_law_same 4) (c2 := e_law_flat.den) (c3 := e_law_goal.den) (c4 := e_law_copy.den) (c5 := e_law_layers.den) (c6 := e_law_case.den) (c7 := e_law_numbers.den) (frScript sc) (.lst (ns.map D.int)) (.tup [.int x, .int y]) (tD p) h n (skyD s) ly (skyD s) s p n8 (pre.length : Int) (x + v % 30 - 15) (y + w % 30 - 15) hly.symm
        have sm : g_law_same 4 [pqD m, pqD m] = .ok (.bl true) := same_fam q_law_same 4 (pqD m) rfl
        generalize allP s p (x + v % 30 - 15) (y + w % 30 - 15) h (n + 1) = A at q1 ap
        simp only [enQ, List.cons_append, List.nil_append, List.map_nil] at ap
        refine ⟨_, rfl, [some (frScript sc), some (.lst (ns.map D.int)), some (.tup [.int x, .int y]), some (.int h), some (.int (n : Int)), some (skyD s), some (tD p), some ly, some (skyD s), some (.int (pre.length : Int)), some (.int (x + v % 30 - 15)), some (.int (y + w % 30 - 15)), some (.lst (A.map pqD)), none, none], .inl ?_, by simp⟩
        simp [M_x_law_l3, e4, flat, eg, eu, ev, ew, c, dFor, rg, ap, q1, q2, sm, ne]
      · obtain ⟨m, q1, q2⟩ := ask gx gy
        have ap := app_out (c0 := e_nearest.den) (c1 := g_law_same 4) (c2 := e_law_flat.den) (c3 := e_law_goal.den) (c4 := e_law_copy.den) (c5 := e_law_layers.den) (c6 := e_law_case.den) (c7 := e_law_numbers.den) (frScript sc) (.lst (ns.map D.int)) (.tup [.int x, .int y]) (tD p) h n (skyD s) ly (skyD s) s p n8 (pre.length : Int) gx gy hly.symm
        have sm : g_law_same 4 [pqD m, pqD m] = .ok (.bl true) := same_fam q_law_same 4 (pqD m) rfl
        generalize allP s p gx gy h (n + 1) = A at q1 ap
        simp only [enQ, List.cons_append, List.nil_append, List.map_nil] at ap
        refine ⟨_, rfl, [some (frScript sc), some (.lst (ns.map D.int)), some (.tup [.int x, .int y]), some (.int h), some (.int (n : Int)), some (skyD s), some (tD p), some ly, some (skyD s), some (.int (pre.length : Int)), some (.int gx), some (.int gy), some (.lst (A.map pqD)), none, none], .inl ?_, by simp⟩
        simp [M_x_law_l3, e4, flat, eg, eu, ev, ew, c, dFor, rg, ap, q1, q2, sm, ne]
  have r3 : rng (3 : Int) = .ok ((List.range 3).map fun (i : Nat) => D.int (i : Int)) := rng_nat (n := 3) (by decide)
  rw [q_law, runF_eq]
  generalize (D.lst (((List.range (n + 1)).map (statesF s h p)).map fun l => D.lst (l.map tD))) = ly at elay h1
  simp at en
  simp [M_x_law, en, ec, elay, ecp, dFor, r3, h1, -List.getElem?_map]
/-! ### the head -/
abbrev R : PySem.W.OpenRow := PySem.W.OpenLaw.row PySem.Challenge.rw_ballastbook_k36_how_near_one_can_come
def loose : List PySem.Str := (["front", "TOP", "inside", "ground_at", "shut_at", "standing", "BookError", "Stopped", "wind_at", "ORDERS", "held_back", "led_to", "why_not", "next_state", "choices", "behind", "unbeaten", "table", "distance", "nearest", "_law_numbers", "_law_same", "_law_base", "_law_box", "_law_sky", "_law_state", "_law_wind", "_law_ground", "_law_in", "_law_shut"] : List PySem.Str) ++ (["_law_stand", "_law_led", "_law_why", "_law_next", "_law_layers", "_law_copy", "_law_case", "_law_goal", "_law_flat"] : List PySem.Str)
abbrev faL : List He.Fa := faOf (nmOfM defs xs) blts
abbrev fnL : List He.DefD := fnOfM defs xs
abbrev hk : PySem.W.Hook := hookM 4 cons xs faL fnL
def ob (s : PySem.W.SharedT) : AlM := obsMG 4 cons xs faL fnL (HandSHeadRun.getT s)
theorem ob_eq (s : PySem.W.SharedT) : ob s = hk.obs s.abs := obsMG_eq (HandSHeadRun.getT_eq s)
theorem run (w : World) : HandSHeadRun.RunEq R (PySem.W.view R.prog [49]) hk ob 3000 loose w := by
  intro os
  kernel_rfl
end Lw
open PySem PySem.W PySem.Calls PyProof.Rows
set_option maxHeartbeats 4000000 in
theorem PySem.Challenge.cw_ballastbook_k36_how_near_one_can_come_holds : PySem.Challenge.rw_ballastbook_k36_how_near_one_can_come.Holds := by
  w_on; o_law
  refine HandSHeadRun.head_any (r := OpenLaw.row PySem.Challenge.rw_ballastbook_k36_how_near_one_can_come) (q := view (OpenLaw.row PySem.Challenge.rw_ballastbook_k36_how_near_one_can_come).prog [49]) (H := Lw.hk) (ob := Lw.ob) (M := 3000) (loose := Lw.loose) (d := HandSHeadRun.topDef (OpenLaw.row PySem.Challenge.rw_ballastbook_k36_how_near_one_can_come).prog 49) (kwd := []) Lw.ob_eq
    (by kernel_rfl) (fun s => by kernel_rfl) Lw.run (by kernel_rfl) (by kernel_rfl) (by kernel_rfl) (by rfl) (by first | assumption | decide +kernel) (by decide +kernel) ⟨rfl, rfl, rfl, rfl, rfl, by decide +kernel⟩ ?hw ?hc
  case hw => w_witness2
  case hc =>
    exact Dl.law_end (l := PySem.Challenge.rw_ballastbook_k36_how_near_one_can_come) (n := 63) (k := 8) (x := "_law_script") (i := 35) (st := Lw.s_law) (d := Lw.d_law) (xs := Lw.xs) (m := 4) rfl (by decide) (by kernel_rfl) ⟨rfl, by decide, by decide⟩ (by kernel_rfl) rfl rfl Lw.bq_law Lw.hq_law
      (fun w K mg base T => Dl.fns_cons (Lw.h_law_numbers T) (by decide) (Dl.fns_cons (Lw.h_law_case T) (by decide) (Dl.fns_cons (Lw.h_law_layers T) (by decide) (Dl.fns_cons (Lw.h_law_copy T) (by decide) (Dl.fns_cons (Lw.h_law_goal T) (by decide) (Dl.fns_cons (Lw.h_law_flat T) (by decide) (Dl.fns_cons (Lw.h_law_same T) (by decide) (Dl.fns_cons (Lw.h_nearest T) (by decide) (Dl.fns_nil))))))))) (fun w K mg base T => Dl.exs_nil) Lw.b_law Lw.law_true
