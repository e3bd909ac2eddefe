import PyProof.Rows.All
import Wide.All
import OpenK.AllK
import Wide.FinOn
import HandS.ForMost
import HandS.ForExc
import HandS.CallSlots
import HandS.TupAny
import HandS.Zip
import HandS.Flow
import HandS.TupMul
import HandS.Wide
import HandS.Deep
import HandS.NoneIn
import KE.GoesEnum
import KE.GoesZip
import HandS.Defaults
import HandS.ExcInit
import KE.KStateDown
import HandS.Head0
import HandS.Head1
import HandS.Head2
import HandS.HeadEnd
import HandS.HeadHook1
import HandS.HeadHook2
import HandS.EndBits
import KE.KExcIs
import HandS.ExcIs
import HandS.ExcField
import PySem.Challenge.RW_tablebeat_k45_programs_that_do_not_begin
set_option Elab.async false
set_option linter.all false
set_option maxRecDepth 100000
set_option maxHeartbeats 0
/-! DL: plain data over the hand layer: values D, a store of lists, dicts and instances, results; every construct of the text as a plain function of slots and store. -/
namespace DL
open PySem PySem.Spec PyProof.Rows L2

inductive D where
  | non | bl (b : Bool) | int (i : Int) | str (x : Str)
  | tup (xs : List D) | frl (xs : List D) | ref (l : Nat)
  | exn (a dd : Nat) (ns : List Str) (xs : List D)
  deriving Inhabited

mutual
def D.eqd : (a b : D) → Decidable (a = b)
  | .non, .non => Decidable.isTrue rfl
  | .bl a, .bl b => if h : a = b then Decidable.isTrue (by rw [h]) else Decidable.isFalse (fun e => h (by injection e))
  | .int a, .int b => if h : a = b then Decidable.isTrue (by rw [h]) else Decidable.isFalse (fun e => h (by injection e))
  | .str a, .str b => if h : a = b then Decidable.isTrue (by rw [h]) else Decidable.isFalse (fun e => h (by injection e))
  | .tup a, .tup b => match D.eqds a b with
    | Decidable.isTrue h => Decidable.isTrue (by rw [h])
    | Decidable.isFalse h => Decidable.isFalse (fun e => h (by injection e))
  | .frl a, .frl b => match D.eqds a b with
    | Decidable.isTrue h => Decidable.isTrue (by rw [h])
    | Decidable.isFalse h => Decidable.isFalse (fun e => h (by injection e))
  | .ref a, .ref b => if h : a = b then Decidable.isTrue (by rw [h]) else Decidable.isFalse (fun e => h (by injection e))
  | .non, .bl _ => Decidable.isFalse nofun | .non, .int _ => Decidable.isFalse nofun | .non, .str _ => Decidable.isFalse nofun | .non, .tup _ => Decidable.isFalse nofun | .non, .frl _ => Decidable.isFalse nofun | .non, .ref _ => Decidable.isFalse nofun
  | .bl _, .non => Decidable.isFalse nofun | .bl _, .int _ => Decidable.isFalse nofun | .bl _, .str _ => Decidable.isFalse nofun | .bl _, .tup _ => Decidable.isFalse nofun | .bl _, .frl _ => Decidable.isFalse nofun | .bl _, .ref _ => Decidable.isFalse nofun
  | .int _, .non => Decidable.isFalse nofun | .int _, .bl _ => Decidable.isFalse nofun | .int _, .str _ => Decidable.isFalse nofun | .int _, .tup _ => Decidable.isFalse nofun | .int _, .frl _ => Decidable.isFalse nofun | .int _, .ref _ => Decidable.isFalse nofun
  | .str _, .non => Decidable.isFalse nofun | .str _, .bl _ => Decidable.isFalse nofun | .str _, .int _ => Decidable.isFalse nofun | .str _, .tup _ => Decidable.isFalse nofun | .str _, .frl _ => Decidable.isFalse nofun | .str _, .ref _ => Decidable.isFalse nofun
  | .tup _, .non => Decidable.isFalse nofun | .tup _, .bl _ => Decidable.isFalse nofun | .tup _, .int _ => Decidable.isFalse nofun | .tup _, .str _ => Decidable.isFalse nofun | .tup _, .frl _ => Decidable.isFalse nofun | .tup _, .ref _ => Decidable.isFalse nofun
  | .frl _, .non => Decidable.isFalse nofun | .frl _, .bl _ => Decidable.isFalse nofun | .frl _, .int _ => Decidable.isFalse nofun | .frl _, .str _ => Decidable.isFalse nofun | .frl _, .tup _ => Decidable.isFalse nofun | .frl _, .ref _ => Decidable.isFalse nofun
  | .ref _, .non => Decidable.isFalse nofun | .ref _, .bl _ => Decidable.isFalse nofun | .ref _, .int _ => Decidable.isFalse nofun | .ref _, .str _ => Decidable.isFalse nofun | .ref _, .tup _ => Decidable.isFalse nofun | .ref _, .frl _ => Decidable.isFalse nofun
  | .exn a b c d, .exn a' b' c' d' => match D.eqds d d' with
    | Decidable.isTrue h => if g : a = a' ∧ b = b' ∧ c = c' then Decidable.isTrue (by obtain ⟨rfl, rfl, rfl⟩ := g; rw [h]) else Decidable.isFalse (fun e => g (by injection e with e1 e2 e3 e4; exact ⟨e1, e2, e3⟩))
    | Decidable.isFalse h => Decidable.isFalse (fun e => h (by injection e))
  | .non, .exn _ _ _ _ => Decidable.isFalse nofun | .bl _, .exn _ _ _ _ => Decidable.isFalse nofun | .int _, .exn _ _ _ _ => Decidable.isFalse nofun | .str _, .exn _ _ _ _ => Decidable.isFalse nofun | .tup _, .exn _ _ _ _ => Decidable.isFalse nofun | .frl _, .exn _ _ _ _ => Decidable.isFalse nofun | .ref _, .exn _ _ _ _ => Decidable.isFalse nofun
  | .exn _ _ _ _, .non => Decidable.isFalse nofun | .exn _ _ _ _, .bl _ => Decidable.isFalse nofun | .exn _ _ _ _, .int _ => Decidable.isFalse nofun | .exn _ _ _ _, .str _ => Decidable.isFalse nofun | .exn _ _ _ _, .tup _ => Decidable.isFalse nofun | .exn _ _ _ _, .frl _ => Decidable.isFalse nofun | .exn _ _ _ _, .ref _ => Decidable.isFalse nofun
def D.eqds : (a b : List D) → Decidable (a = b)
  | [], [] => Decidable.isTrue rfl
  | [], _ :: _ => Decidable.isFalse nofun
  | _ :: _, [] => Decidable.isFalse nofun
  | x :: xs, y :: ys => match D.eqd x y, D.eqds xs ys with
    | Decidable.isTrue h, Decidable.isTrue g => Decidable.isTrue (by rw [h, g])
    | Decidable.isFalse h, _ => Decidable.isFalse (fun e => h (by injection e))
    | _, Decidable.isFalse g => Decidable.isFalse (fun e => g (by injection e))
end
instance : DecidableEq D := D.eqd

/-- what stands in the store -/
inductive DO where
  | lst (xs : List D)
  | dic (k : Nat) (kvs : List (D × D))
  | ins (c : Nat) (fs : List (Str × D))
  deriving Inhabited, DecidableEq

structure Exc where
  c : Nat
  fs : Option (List (Str × D))
  deriving Inhabited, DecidableEq

abbrev Sto := List DO
abbrev Sl := List (Option D)
inductive Res (α : Type) where
  | ok (a : α) (S : Sto) | exc (x : Exc) (S : Sto) | stuck
  deriving Inhabited
def Res.bind {α β : Type} (r : Res α) (k : α → Sto → Res β) : Res β := match r with
  | .ok a S => k a S
  | .exc x S => .exc x S
  | .stuck => .stuck
/-- how a statement ends -/
inductive Fl where
  | nx (sd : Sl) | ret (d : D) | brk (sd : Sl) | cnt (sd : Sl)
  deriving Inhabited

/-! ### how data stands in the abstract heap -/
def Imm : HO → Prop
  | .tup _ => True
  | .frz _ _ => True
  | .xd _ => True
  | _ => False
def Keep (H H' : Hp) : Prop := ∀ a o, H a = some o → Imm o → H' a = some o
theorem Keep.refl (H : Hp) : Keep H H := fun _ _ e _ => e
theorem Keep.trans {H H1 H2 : Hp} (a : Keep H H1) (b : Keep H1 H2) : Keep H H2 := fun x o e i => b x o (a x o e i) i
theorem Keep.new {H : Hp} {p : Addr} {o : HO} (h : H p = none) : Keep H (upd H p o) := fun a u e _ => by
  rw [upd_ne (ne_of_none e h)]; exact e
theorem Keep.put {H : Hp} {p : Addr} {o u : HO} (h : H p = some u) (n : ¬ Imm u) : Keep H (upd H p o) := fun a v e i => by
  have : a ≠ p := fun z => by subst z; rw [h] at e; cases e; exact n i
  rw [upd_ne this]; exact e

def Ext (m m' : List Addr) : Prop := ∀ (l : Nat) (a : Addr), m[l]? = some a → m'[l]? = some a
theorem Ext.refl (m : List Addr) : Ext m m := fun _ _ e => e
theorem Ext.trans {a b c : List Addr} (x : Ext a b) (y : Ext b c) : Ext a c := fun l p e => y l p (x l p e)
theorem Ext.snoc (m : List Addr) (p : Addr) : Ext m (m ++ [p]) := fun l a e => by
  rw [List.getElem?_append_left (List.getElem?_eq_some_iff.mp e).1]; exact e

/-- a list that is never written -/
def Fz (K : PySem.W.Frag) (H : Hp) (a : Addr) (xs : List V) : Prop :=
  (∃ o, H a = some (.frz o (.lst xs))) ∨
    ∃ (o : Obj) (its : Array Value) (n : Nat), K.lookup a = some o ∧ o.cls = .type "list" ∧ o.dict = none ∧ o.data = .seq its n ∧ its.size ≤ sizeLine ∧ Vals xs its.toList
theorem Fz.sq {K : PySem.W.Frag} {H : Hp} {a : Addr} {xs : List V} (h : Fz K H a xs) : SqL K H a xs := by
  rcases h with h | h
  · exact .inl (.inr h)
  · exact .inr h
theorem Fz.keep {K : PySem.W.Frag} {H H' : Hp} {a : Addr} {xs : List V} (k : Keep H H') (h : Fz K H a xs) : Fz K H' a xs := by
  rcases h with ⟨o, h⟩ | h
  · exact .inl ⟨o, k _ _ h trivial⟩
  · exact .inr h
theorem sqT_keep {K : PySem.W.Frag} {H H' : Hp} {a : Addr} {xs : List V} (k : Keep H H') (h : SqT K H a xs) : SqT K H' a xs := by
  rcases h with (h | ⟨o, h⟩) | h
  · exact .inl (.inl (k _ _ h trivial))
  · exact .inl (.inr ⟨o, k _ _ h trivial⟩)
  · exact .inr h

mutual
def RV (K : PySem.W.Frag) (m : List Addr) (H : Hp) : D → V → Prop
  | .non, v => v = .non
  | .bl b, v => v = .bl b
  | .int i, v => v = .int i
  | .str x, v => v = .str x
  | .tup ds, v => ∃ a vs, v = .ref a ∧ SqT K H a vs ∧ RVs K m H ds vs
  | .frl ds, v => ∃ a vs, v = .ref a ∧ Fz K H a vs ∧ RVs K m H ds vs
  | .ref l, v => ∃ a, m[l]? = some a ∧ v = .ref a
  | .exn a dd ns ds, v => v = .ref a ∧ ∃ vs, RVs K m H ds vs ∧ (ns ≠ [] → H dd = some (.xd (ns.zip vs)))
def RVs (K : PySem.W.Frag) (m : List Addr) (H : Hp) : List D → List V → Prop
  | [], vs => vs = []
  | d :: ds, vs => ∃ v vs', vs = v :: vs' ∧ RV K m H d v ∧ RVs K m H ds vs'
end

section
variable {K : PySem.W.Frag} {m m' : List Addr} {H H' : Hp}
mutual
theorem RV.mono (x : Ext m m') (k : Keep H H') : ∀ (d : D) {v : V}, RV K m H d v → RV K m' H' d v
  | .non, _, h => h
  | .bl _, _, h => h
  | .int _, _, h => h
  | .str _, _, h => h
  | .tup ds, _, ⟨a, vs, e, s, r⟩ => ⟨a, vs, e, sqT_keep k s, RVs.mono x k ds r⟩
  | .frl ds, _, ⟨a, vs, e, s, r⟩ => ⟨a, vs, e, s.keep k, RVs.mono x k ds r⟩
  | .ref l, _, ⟨a, e, r⟩ => ⟨a, x l a e, r⟩
  | .exn a dd ns ds, _, ⟨e, vs, r, h⟩ => ⟨e, vs, RVs.mono x k ds r, fun n => k _ _ (h n) trivial⟩
theorem RVs.mono (x : Ext m m') (k : Keep H H') : ∀ (ds : List D) {vs : List V}, RVs K m H ds vs → RVs K m' H' ds vs
  | [], _, h => h
  | d :: ds, _, ⟨v, vs', e, r, t⟩ => ⟨v, vs', e, RV.mono x k d r, RVs.mono x k ds t⟩
end
theorem RVs.length : ∀ {ds : List D} {vs : List V}, RVs K m H ds vs → ds.length = vs.length
  | [], _, h => by cases h; rfl
  | d :: ds, _, ⟨v, vs', e, r, t⟩ => by subst e; simp [RVs.length t]
theorem RVs.get : ∀ {ds : List D} {vs : List V} {i : Nat} {d : D}, RVs K m H ds vs → ds[i]? = some d → ∃ v, vs[i]? = some v ∧ RV K m H d v
  | [], _, _, _, _, e => by simp at e
  | d :: ds, _, 0, _, ⟨v, vs', e, r, t⟩, h => by
    subst e; simp at h; subst h; exact ⟨v, rfl, r⟩
  | d :: ds, _, i + 1, _, ⟨v, vs', e, r, t⟩, h => by
    subst e
    obtain ⟨w, e1, e2⟩ := RVs.get (i := i) t (by simpa using h)
    exact ⟨w, by simpa using e1, e2⟩
theorem RVs.get' : ∀ {ds : List D} {vs : List V} {i : Nat} {v : V}, RVs K m H ds vs → vs[i]? = some v → ∃ d, ds[i]? = some d ∧ RV K m H d v := fun {ds vs i v} r e => by
  have hl := r.length
  have hi : i < ds.length := by rw [hl]; exact (List.getElem?_eq_some_iff.mp e).1
  obtain ⟨w, e1, e2⟩ := r.get (i := i) (d := ds[i]) (by simp [hi])
  rw [e] at e1; cases e1
  exact ⟨_, by simp [hi], e2⟩
theorem RVs.set {d : D} {v : V} (r : RV K m H d v) : ∀ {ds : List D} {vs : List V} (i : Nat), RVs K m H ds vs → RVs K m H (ds.set i d) (vs.set i v)
  | [], _, _, h => by cases h; exact rfl
  | _ :: _, _, 0, ⟨w, vs', e, q, t⟩ => by subst e; exact ⟨v, vs', rfl, r, t⟩
  | _ :: _, _, i + 1, ⟨w, vs', e, q, t⟩ => by subst e; exact ⟨w, vs'.set i v, rfl, q, RVs.set r i t⟩
theorem RVs.append : ∀ {ds es : List D} {vs ws : List V}, RVs K m H ds vs → RVs K m H es ws → RVs K m H (ds ++ es) (vs ++ ws)
  | [], _, _, _, h, s => by cases h; exact s
  | _ :: _, _, _, _, ⟨w, vs', e, q, t⟩, s => by subst e; exact ⟨w, _, rfl, q, RVs.append t s⟩
theorem RVs.one {d : D} {v : V} (r : RV K m H d v) : RVs K m H [d] [v] := ⟨v, [], rfl, r, rfl⟩
theorem RVs.take : ∀ {ds : List D} {vs : List V} (n : Nat), RVs K m H ds vs → RVs K m H (ds.take n) (vs.take n)
  | _, _, 0, _ => rfl
  | [], _, _ + 1, h => by cases h; exact rfl
  | _ :: _, _, n + 1, ⟨w, vs', e, q, t⟩ => by subst e; exact ⟨w, _, rfl, q, RVs.take n t⟩
theorem RVs.drop : ∀ {ds : List D} {vs : List V} (n : Nat), RVs K m H ds vs → RVs K m H (ds.drop n) (vs.drop n)
  | _, _, 0, h => h
  | [], _, _ + 1, h => by cases h; exact rfl
  | _ :: _, _, n + 1, ⟨w, vs', e, q, t⟩ => by subst e; exact RVs.drop n t
theorem RVs.rev : ∀ {ds : List D} {vs : List V}, RVs K m H ds vs → RVs K m H ds.reverse vs.reverse
  | [], _, h => by cases h; exact rfl
  | _ :: _, _, ⟨w, vs', e, q, t⟩ => by
    subst e
    rw [List.reverse_cons, List.reverse_cons]
    exact RVs.append (RVs.rev t) (.one q)
theorem RVs.rep {ds : List D} {vs : List V} (r : RVs K m H ds vs) : ∀ n : Nat, RVs K m H (List.replicate n ds).flatten (List.replicate n vs).flatten
  | 0 => rfl
  | n + 1 => by
    rw [List.replicate_succ, List.replicate_succ, List.flatten_cons, List.flatten_cons]
    exact RVs.append r (RVs.rep r n)
theorem RVs.erase : ∀ {ds : List D} {vs : List V} (n : Nat), RVs K m H ds vs → RVs K m H (ds.eraseIdx n) (vs.eraseIdx n)
  | [], _, _, h => by cases h; exact rfl
  | _ :: _, _, 0, ⟨w, vs', e, q, t⟩ => by subst e; exact t
  | _ :: _, _, n + 1, ⟨w, vs', e, q, t⟩ => by subst e; exact ⟨w, _, rfl, q, RVs.erase n t⟩
theorem RVs.snoc {ds : List D} {vs : List V} {d : D} {v : V} (t : RVs K m H ds vs) (r : RV K m H d v) : RVs K m H (ds ++ [d]) (vs ++ [v]) := t.append (.one r)
theorem RVs.dropLast : ∀ {ds : List D} {vs : List V}, RVs K m H ds vs → RVs K m H ds.dropLast vs.dropLast := fun {ds vs} t => by
  rw [List.dropLast_eq_take, List.dropLast_eq_take, t.length]; exact t.take _
end

/-! ### fields, dicts, objects -/
def RF (K : PySem.W.Frag) (m : List Addr) (H : Hp) : List (Str × D) → List (Str × V) → Prop
  | [], gs => gs = []
  | p :: fs, gs => ∃ v gs', gs = (p.1, v) :: gs' ∧ RV K m H p.2 v ∧ RF K m H fs gs'
/-- keys that are ints or texts -/
def key0 : D → Option Key
  | .int i => some (.inl i)
  | .str x => some (.inr x)
  | _ => none
def RD0 (K : PySem.W.Frag) (m : List Addr) (H : Hp) : List (D × D) → List (Key × V) → Prop
  | [], gs => gs = []
  | p :: fs, gs => ∃ k v gs', gs = (k, v) :: gs' ∧ key0 p.1 = some k ∧ RV K m H p.2 v ∧ RD0 K m H fs gs'
def keys0 : List D → Option (List Key)
  | [] => some []
  | d :: ds => match key0 d, keys0 ds with
    | some k, some ks => some (k :: ks)
    | _, _ => none
/-- keys that are tuples of ints and texts -/
def key1 : D → Option (List Key)
  | .tup ds => keys0 ds
  | _ => none
def RD1 (K : PySem.W.Frag) (m : List Addr) (H : Hp) : List (D × D) → List (List Key × V) → Prop
  | [], gs => gs = []
  | p :: fs, gs => ∃ k v gs', gs = (k, v) :: gs' ∧ key1 p.1 = some k ∧ RV K m H p.2 v ∧ RD1 K m H fs gs'
def RO (cl : Nat → Addr) (K : PySem.W.Frag) (m : List Addr) (H : Hp) : DO → Addr → Prop
  | .lst ds, a => ∃ vs, H a = some (.lst vs) ∧ RVs K m H ds vs
  | .dic 0 kvs, a => ∃ gs, H a = some (.dK gs) ∧ RD0 K m H kvs gs
  | .dic 1 kvs, a => ∃ gs, H a = some (.dT gs) ∧ RD1 K m H kvs gs
  | .dic _ _, _ => False
  | .ins c fs, a => ∃ dx gs, H a = some (.ins (cl c) dx gs) ∧ RF K m H fs gs
section
variable {cl : Nat → Addr} {K : PySem.W.Frag} {m m' : List Addr} {H H' : Hp}
theorem RF.mono (x : Ext m m') (k : Keep H H') : ∀ {fs : List (Str × D)} {gs : List (Str × V)}, RF K m H fs gs → RF K m' H' fs gs
  | [], _, h => h
  | _ :: _, _, ⟨v, gs', e, r, t⟩ => ⟨v, gs', e, RV.mono x k _ r, RF.mono x k t⟩
theorem RD0.mono (x : Ext m m') (k : Keep H H') : ∀ {fs : List (D × D)} {gs : List (Key × V)}, RD0 K m H fs gs → RD0 K m' H' fs gs
  | [], _, h => h
  | _ :: _, _, ⟨q, v, gs', e, hk, r, t⟩ => ⟨q, v, gs', e, hk, RV.mono x k _ r, RD0.mono x k t⟩
theorem RD1.mono (x : Ext m m') (k : Keep H H') : ∀ {fs : List (D × D)} {gs : List (List Key × V)}, RD1 K m H fs gs → RD1 K m' H' fs gs
  | [], _, h => h
  | _ :: _, _, ⟨q, v, gs', e, hk, r, t⟩ => ⟨q, v, gs', e, hk, RV.mono x k _ r, RD1.mono x k t⟩
theorem RO.mono (x : Ext m m') (k : Keep H H') {a : Addr} (ha : H' a = H a) : ∀ {o : DO}, RO cl K m H o a → RO cl K m' H' o a
  | .lst ds, ⟨vs, e, r⟩ => ⟨vs, by rw [ha]; exact e, r.mono x k⟩
  | .dic 0 kvs, ⟨gs, e, r⟩ => ⟨gs, by rw [ha]; exact e, r.mono x k⟩
  | .dic 1 kvs, ⟨gs, e, r⟩ => ⟨gs, by rw [ha]; exact e, r.mono x k⟩
  | .dic (_ + 2) kvs, h => h.elim
  | .ins c fs, ⟨dx, gs, e, r⟩ => ⟨dx, gs, by rw [ha]; exact e, r.mono x k⟩
theorem RO.some {a : Addr} : ∀ {o : DO}, RO cl K m H o a → ∃ u, H a = some u ∧ ¬ Imm u
  | .lst ds, ⟨vs, e, r⟩ => ⟨_, e, fun z => z⟩
  | .dic 0 kvs, ⟨gs, e, r⟩ => ⟨_, e, fun z => z⟩
  | .dic 1 kvs, ⟨gs, e, r⟩ => ⟨_, e, fun z => z⟩
  | .dic (_ + 2) kvs, h => h.elim
  | .ins c fs, ⟨dx, gs, e, r⟩ => ⟨_, e, fun z => z⟩
end
/-- the store is held -/
structure RS (cl : Nat → Addr) (K : PySem.W.Frag) (m : List Addr) (S : Sto) (H : Hp) : Prop where
  len : m.length = S.length
  nd : ∀ (i j : Nat) (a : Addr), m[i]? = some a → m[j]? = some a → i = j
  obj : ∀ (l : Nat) (o : DO) (a : Addr), S[l]? = some o → m[l]? = some a → RO cl K m H o a
/-- the slots are held -/
structure RSl (K : PySem.W.Frag) (m : List Addr) (H : Hp) (sd : Sl) (σ : L2.St) : Prop where
  len : sd.length = σ.length
  at_ : ∀ (i : Nat) (d : D), sd[i]? = some (some d) → ∃ v, σ[i]? = some (some v) ∧ RV K m H d v
/-- an exception: its own dict -/
def RX (K : PySem.W.Frag) (m : List Addr) (H : Hp) (x : Exc) (dd : Option Addr) : Prop :=
  match x.fs with
  | none => dd = none
  | some fs => ∃ d gs, dd = some d ∧ H d = some (.xd gs) ∧ RF K m H fs gs
section
variable {cl : Nat → Addr} {K : PySem.W.Frag} {m m' : List Addr} {S : Sto} {H H' : Hp} {sd : Sl} {σ : L2.St}
theorem RS.adr (r : RS cl K m S H) {l : Nat} {o : DO} (h : S[l]? = some o) : ∃ a, m[l]? = some a ∧ RO cl K m H o a := by
  have hl : l < m.length := by rw [r.len]; exact (List.getElem?_eq_some_iff.mp h).1
  have e : m[l]? = some m[l] := by simp [hl]
  exact ⟨m[l], e, r.obj l o _ h e⟩
theorem RS.back (r : RS cl K m S H) {l : Nat} {a : Addr} (h : m[l]? = some a) : ∃ o, S[l]? = some o ∧ RO cl K m H o a := by
  have hl : l < S.length := by rw [← r.len]; exact (List.getElem?_eq_some_iff.mp h).1
  have e : S[l]? = some S[l] := by simp [hl]
  exact ⟨S[l], e, r.obj l _ _ e h⟩
theorem RS.new (r : RS cl K m S H) {p : Addr} {u : HO} {o : DO} (hp : H p = none) (ho : RO cl K (m ++ [p]) (upd H p u) o p) : RS cl K (m ++ [p]) (S ++ [o]) (upd H p u) := by
  have ne : ∀ (l : Nat) (a : Addr), m[l]? = some a → a ≠ p := fun l a e => by
    obtain ⟨o', _, ro⟩ := r.back e
    obtain ⟨u', h', _⟩ := ro.some
    exact ne_of_none h' hp
  refine ⟨by simp [r.len], fun i j a hi hj => ?_, fun l o' a hs hm => ?_⟩
  · rw [List.getElem?_append] at hi hj
    split at hi <;> split at hj
    · exact r.nd i j a hi hj
    · rename_i h1 h2
      have : a = p := by
        cases hz : j - m.length with
        | zero => rw [hz] at hj; simp at hj; exact hj.symm
        | succ n => rw [hz] at hj; simp at hj
      exact absurd this (ne i a hi)
    · have : a = p := by
        cases hz : i - m.length with
        | zero => rw [hz] at hi; simp at hi; exact hi.symm
        | succ n => rw [hz] at hi; simp at hi
      exact absurd this (ne j a hj)
    · rename_i h1 h2
      have e1 : i - m.length = 0 := by
        cases hz : i - m.length with
        | zero => rfl
        | succ n => rw [hz] at hi; simp at hi
      have e2 : j - m.length = 0 := by
        cases hz : j - m.length with
        | zero => rfl
        | succ n => rw [hz] at hj; simp at hj
      omega
  · rw [List.getElem?_append] at hs hm
    rw [← r.len] at hs
    split at hm
    · rename_i h1
      rw [if_pos h1] at hs
      exact (r.obj l o' a hs hm).mono (Ext.snoc m p) (Keep.new hp) (upd_ne (ne l a hm))
    · rename_i h1
      rw [if_neg h1] at hs
      have e1 : l - m.length = 0 := by
        cases hz : l - m.length with
        | zero => rfl
        | succ n => rw [hz] at hm; simp at hm
      rw [e1] at hm hs
      simp at hm hs
      subst hm hs
      exact ho
theorem RS.put (r : RS cl K m S H) {l : Nat} {a : Addr} {o o' : DO} {u : HO} (hs : S[l]? = some o) (hm : m[l]? = some a) (ho : RO cl K m (upd H a u) o' a) : RS cl K m (S.set l o') (upd H a u) := by
  have hl : l < S.length := (List.getElem?_eq_some_iff.mp hs).1
  obtain ⟨u0, hu, ni⟩ := (r.obj l o a hs hm).some
  refine ⟨by simp [r.len], r.nd, fun i o2 b h1 h2 => ?_⟩
  by_cases e : l = i
  · subst e
    rw [hm] at h2; cases h2
    rw [List.getElem?_set_self hl] at h1; cases h1
    exact ho
  · rw [List.getElem?_set_ne e] at h1
    have nb : b ≠ a := fun z => by subst z; exact e (r.nd l i b hm h2)
    exact (r.obj i o2 b h1 h2).mono (Ext.refl m) (Keep.put hu ni) (upd_ne nb)
theorem RS.keepPut (r : RS cl K m S H) {l : Nat} {a : Addr} {o : DO} {u : HO} (hs : S[l]? = some o) (hm : m[l]? = some a) : Keep H (upd H a u) := by
  obtain ⟨u0, hu, ni⟩ := (r.obj l o a hs hm).some
  exact Keep.put hu ni
theorem RS.ext (r : RS cl K m S H) {p : Addr} {u : HO} (hp : H p = none) : RS cl K m S (upd H p u) :=
  ⟨r.len, r.nd, fun l o a h1 h2 => by
    obtain ⟨u0, hu, ni⟩ := (r.obj l o a h1 h2).some
    exact (r.obj l o a h1 h2).mono (Ext.refl m) (Keep.new hp) (upd_ne (ne_of_none hu hp))⟩
theorem RSl.mono (x : Ext m m') (k : Keep H H') (r : RSl K m H sd σ) : RSl K m' H' sd σ :=
  ⟨r.len, fun i d e => let ⟨v, e1, e2⟩ := r.at_ i d e; ⟨v, e1, RV.mono x k d e2⟩⟩
theorem RSl.set {d : D} {v : V} (r : RSl K m H sd σ) (i : Nat) (h : RV K m H d v) : RSl K m H (sd.set i (some d)) (σ.set i (some v)) := by
  refine ⟨by simp [r.len], fun j d' e => ?_⟩
  by_cases z : i = j
  · subst z
    have hl : i < sd.length := by have := (List.getElem?_eq_some_iff.mp e).1; simpa using this
    rw [List.getElem?_set_self hl] at e; cases e
    exact ⟨v, by rw [List.getElem?_set_self (by rw [← r.len]; exact hl)], h⟩
  · rw [List.getElem?_set_ne z] at e
    rw [List.getElem?_set_ne z]
    exact r.at_ j d' e
theorem RSl.unset (r : RSl K m H sd σ) (i : Nat) : RSl K m H (sd.set i none) (σ.set i none) := by
  refine ⟨by simp [r.len], fun j d' e => ?_⟩
  by_cases z : i = j
  · subst z
    have hl : i < sd.length := by have := (List.getElem?_eq_some_iff.mp e).1; simpa using this
    rw [List.getElem?_set_self hl] at e; cases e
  · rw [List.getElem?_set_ne z] at e
    rw [List.getElem?_set_ne z]
    exact r.at_ j d' e
end

/-! ### what is wanted behind a result -/
section
variable (cl : Nat → Addr) (K : PySem.W.Frag)
def Post {α β : Type} (Rv : List Addr → Hp → α → β → Prop) (m : List Addr) (H : Hp) (E : XK) (Q : β → Hp → Prop) : Res α → Prop
  | .ok d S' => ∀ m' v H', Ext m m' → Keep H H' → RS cl K m' S' H' → Rv m' H' d v → Q v H'
  | .exc x S' => ∀ m' dd H', Ext m m' → Keep H H' → RS cl K m' S' H' → RX K m' H' x dd → E (.ref (cl x.c)) dd H'
  | .stuck => False
end
section
variable {cl : Nat → Addr} {K : PySem.W.Frag} {α β γ δ : Type} {Rv : List Addr → Hp → α → β → Prop} {Rw : List Addr → Hp → γ → δ → Prop} {m m' : List Addr} {H H' : Hp} {E : XK} {Q : β → Hp → Prop}
theorem Post.mono (x : Ext m m') (k : Keep H H') : ∀ {r : Res α}, Post cl K Rv m H E Q r → Post cl K Rv m' H' E Q r
  | .ok _ _, h => fun m2 v H2 x2 k2 => h m2 v H2 (x.trans x2) (k.trans k2)
  | .exc _ _, h => fun m2 v H2 x2 k2 => h m2 v H2 (x.trans x2) (k.trans k2)
  | .stuck, h => h
theorem Post.bind {r : Res α} {k : α → Sto → Res γ} {Q' : δ → Hp → Prop} (h : Post cl K Rw m H E Q' (r.bind k))
    (hk : ∀ d S1 m1 v H1, Ext m m1 → Keep H H1 → RS cl K m1 S1 H1 → Rv m1 H1 d v → Post cl K Rw m1 H1 E Q' (k d S1) → Q v H1) : Post cl K Rv m H E Q r := by
  cases r with
  | ok d S1 => exact fun m1 v H1 x1 k1 rs rv => hk d S1 m1 v H1 x1 k1 rs rv (Post.mono x1 k1 h)
  | exc x S1 => exact h
  | stuck => exact h
theorem Post.imp {Q' : β → Hp → Prop} (hq : ∀ v H, Q v H → Q' v H) : ∀ {r : Res α}, Post cl K Rv m H E Q r → Post cl K Rv m H E Q' r
  | .ok _ _, h => fun m2 v H2 x2 k2 a b => hq _ _ (h m2 v H2 x2 k2 a b)
  | .exc _ _, h => h
  | .stuck, h => h
theorem Post.here {d : α} {v : β} {S : Sto} (h : Post cl K Rv m H E Q (.ok d S)) (rs : RS cl K m S H) (rv : Rv m H d v) : Q v H := h m v H (Ext.refl m) (Keep.refl H) rs rv
end
def RBool : List Addr → Hp → Bool → Bool → Prop := fun _ _ a b => a = b
/-- concrete ends -/
inductive FC where
  | nx (σ : L2.St) | ret (v : V) | brk (σ : L2.St) | cnt (σ : L2.St)
def endQ (D : Ends) : FC → Hp → Prop
  | .nx σ, H => D.nx σ H
  | .ret v, H => D.rt v H
  | .brk σ, H => D.bk σ H
  | .cnt σ, H => D.ct σ H
def RFl (K : PySem.W.Frag) (m : List Addr) (H : Hp) : Fl → FC → Prop
  | .nx sd, .nx σ => RSl K m H sd σ
  | .ret d, .ret v => RV K m H d v
  | .brk sd, .brk σ => RSl K m H sd σ
  | .cnt sd, .cnt σ => RSl K m H sd σ
  | _, _ => False

/-! ### the judgements -/
section
variable (cl : Nat → Addr) (X : Cx) (E : XK)
def DE (e : Expr) (f : Sl → Sto → Res D) : Prop :=
  ∃ t, PE X e t ∧ ∀ m S H sd σ Q, RS cl X.K m S H → RSl X.K m H sd σ → Post cl X.K (RV X.K) m H E Q (f sd S) → t σ H Q
def DT (e : Expr) (f : Sl → Sto → Res Bool) : Prop :=
  ∃ t, PT X e t ∧ ∀ m S H sd σ Q, RS cl X.K m S H → RSl X.K m H sd σ → Post cl X.K RBool m H E Q (f sd S) → t σ H Q
def DW (e : Expr) (f : Sl → Sto → Res Bool) : Prop :=
  ∃ t, PW X e t ∧ ∀ m S H sd σ Q, RS cl X.K m S H → RSl X.K m H sd σ → Post cl X.K RBool m H E Q (f sd S) → t σ H Q
def DA (es : List Expr) (f : Sl → Sto → Res (List D)) : Prop :=
  ∃ t, PA X es t ∧ ∀ m S H sd σ Q, RS cl X.K m S H → RSl X.K m H sd σ → Post cl X.K (RVs X.K) m H E Q (f sd S) → t σ H Q
def DS (st : Stmt) (f : Sl → Sto → Res Fl) : Prop :=
  ∃ t, PS X st t ∧ ∀ m S H sd σ D, RS cl X.K m S H → RSl X.K m H sd σ → Post cl X.K (RFl X.K) m H E (endQ D) (f sd S) → t D σ H
def DSs (st : List Stmt) (f : Sl → Sto → Res Fl) : Prop :=
  ∃ t, PSs X st t ∧ ∀ m S H sd σ D, RS cl X.K m S H → RSl X.K m H sd σ → Post cl X.K (RFl X.K) m H E (endQ D) (f sd S) → t D σ H
def DG (tg : Expr) (f : D → Sl → Sto → Res Sl) : Prop :=
  ∃ g, PG X tg g ∧ ∀ m S H sd σ d v Q, RS cl X.K m S H → RSl X.K m H sd σ → RV X.K m H d v → Post cl X.K (RSl X.K) m H E Q (f d sd S) → g v σ H Q
def DGs (tg : List Expr) (f : List D → Sl → Sto → Res Sl) : Prop :=
  ∃ g, PGs X tg g ∧ ∀ m S H sd σ ds vs Q, RS cl X.K m S H → RSl X.K m H sd σ → RVs X.K m H ds vs → Post cl X.K (RSl X.K) m H E Q (f ds sd S) → g vs σ H Q
end

/-! ### names, constants, statements -/
section
variable {cl : Nat → Addr} {X : Cx} {E : XK}
def dVar (i : Nat) : Sl → Sto → Res D := fun sd S => match sd[i]? with
  | some (some d) => .ok d S
  | _ => .stuck
def dC (d : D) : Sl → Sto → Res D := fun _ S => .ok d S
theorem de_var (i : Nat) {x : Str} {pos : Pos} (hN : X.N[i]? = some x := by rfl) (hv : Vis X.env.scope x := by first | exact Or.inl rfl | exact Or.inr (Or.inl rfl) | exact Or.inr (Or.inr rfl)) (hd : (x == ("__debug__" : Str)) = false := by decide)
    (hcd : (x == ("__classdict__" : Str)) = false := by decide) : DE cl X E (.Name x pos) (dVar i) := by
  refine ⟨_, pe_var hN hv hd hcd, fun m S H sd σ Q rs rl h => ?_⟩
  unfold dVar at h
  split at h
  · rename_i d e
    obtain ⟨v, e1, r⟩ := rl.at_ i d e
    exact ⟨v, e1, h.here rs r⟩
  · exact h.elim
theorem de_int {i : Int} {j pos} : DE cl X E (.Constant (.int i) j pos) (dC (.int i)) := ⟨_, pe_int, fun m S H sd σ Q rs rl h => h.here rs rfl⟩
theorem de_bl {i : Bool} {j pos} : DE cl X E (.Constant (.bool i) j pos) (dC (.bl i)) := ⟨_, pe_bl, fun m S H sd σ Q rs rl h => h.here rs rfl⟩
theorem de_non {j pos} : DE cl X E (.Constant .none j pos) (dC .non) := ⟨_, pe_non, fun m S H sd σ Q rs rl h => h.here rs rfl⟩
theorem de_str {x : Str} {j pos} : DE cl X E (.Constant (.str x) j pos) (dC (.str x)) := ⟨_, pe_str, fun m S H sd σ Q rs rl h => h.here rs rfl⟩

def dNil : Sl → Sto → Res (List D) := fun _ S => .ok [] S
def dCons (f : Sl → Sto → Res D) (g : Sl → Sto → Res (List D)) : Sl → Sto → Res (List D) := fun sd S =>
  (f sd S).bind fun d S1 => (g sd S1).bind fun ds S2 => .ok (d :: ds) S2
theorem da_nil : DA cl X E [] dNil := ⟨_, pa_nil, fun m S H sd σ Q rs rl h => h.here rs rfl⟩
theorem da_cons {e : Expr} {es : List Expr} {f g} (he : DE cl X E e f) (hr : DA cl X E es g) (hs : starEach (e :: es) X.env = (false, eval e X.env) :: starEach es X.env := by rfl) : DA cl X E (e :: es) (dCons f g) := by
  obtain ⟨t, p, he⟩ := he
  obtain ⟨u, q, hr⟩ := hr
  refine ⟨_, pa_cons p q hs, fun m S H sd σ Q rs rl h => ?_⟩
  refine he m S H sd σ _ rs rl (Post.bind h fun d S1 m1 v H1 x1 k1 rs1 rv1 h1 => ?_)
  refine hr m1 S1 H1 sd σ _ rs1 (rl.mono x1 k1) (Post.bind h1 fun ds S2 m2 vs H2 x2 k2 rs2 rv2 h2 => ?_)
  exact h2.here rs2 ⟨v, vs, rfl, RV.mono x2 k2 d rv1, rv2⟩

def dTup (f : Sl → Sto → Res (List D)) : Sl → Sto → Res D := fun sd S => (f sd S).bind fun ds S1 => if ds.length ≤ sizeLine then .ok (.tup ds) S1 else .stuck
def dLst (f : Sl → Sto → Res (List D)) : Sl → Sto → Res D := fun sd S => (f sd S).bind fun ds S1 => if ds.length ≤ sizeLine then .ok (.ref S1.length) (S1 ++ [.lst ds]) else .stuck
theorem newTup {m : List Addr} {S : Sto} {H : Hp} {ds : List D} {vs : List V} {p : Addr} {K : PySem.W.Frag} (rs : RS cl K m S H) (r : RVs K m H ds vs) (hp : H p = none) :
    RS cl K m S (upd H p (.tup vs)) ∧ RV K m (upd H p (.tup vs)) (.tup ds) (.ref p) :=
  ⟨rs.ext hp, p, vs, rfl, .of upd_same, r.mono (Ext.refl m) (Keep.new hp)⟩
theorem newLst {m : List Addr} {S : Sto} {H : Hp} {ds : List D} {vs : List V} {p : Addr} {K : PySem.W.Frag} (rs : RS cl K m S H) (r : RVs K m H ds vs) (hp : H p = none) :
    RS cl K (m ++ [p]) (S ++ [.lst ds]) (upd H p (.lst vs)) ∧ RV K (m ++ [p]) (upd H p (.lst vs)) (.ref S.length) (.ref p) :=
  ⟨rs.new hp ⟨vs, upd_same, r.mono (Ext.snoc m p) (Keep.new hp)⟩, p, by rw [← rs.len]; simp, rfl⟩
theorem de_tup {es : List Expr} {f x1 pos} (h : DA cl X E es f) : DE cl X E (.Tuple es x1 pos) (dTup f) := by
  obtain ⟨t, p, h⟩ := h
  refine ⟨_, pe_tup p, fun m S H sd σ Q rs rl hh => ?_⟩
  refine h m S H sd σ _ rs rl (Post.bind hh fun ds S1 m1 vs H1 x1 k1 rs1 rv1 h1 => ?_)
  split at h1
  · rename_i hz
    refine ⟨by rw [← rv1.length]; exact hz, fun p hp => ?_⟩
    obtain ⟨a, b⟩ := newTup rs1 rv1 hp
    exact h1 m1 _ _ (Ext.refl m1) (Keep.new hp) a b
  · exact h1.elim
theorem de_lst {es : List Expr} {f pos} (h : DA cl X E es f) : DE cl X E (.List es pos) (dLst f) := by
  obtain ⟨t, p, h⟩ := h
  refine ⟨_, pe_lst p, fun m S H sd σ Q rs rl hh => ?_⟩
  refine h m S H sd σ _ rs rl (Post.bind hh fun ds S1 m1 vs H1 x1 k1 rs1 rv1 h1 => ?_)
  split at h1
  · rename_i hz
    refine ⟨by rw [← rv1.length]; exact hz, fun p hp => ?_⟩
    obtain ⟨a, b⟩ := newLst rs1 rv1 hp
    exact h1 _ _ _ (Ext.snoc m1 p) (Keep.new hp) a b
  · exact h1.elim
end
end DL

namespace DL
open PySem PySem.Spec PyProof.Rows L2

/-! ### two-place operations -/
section
variable (cl : Nat → Addr) (X : Cx)
def OpD (f : Value → Value → Sem Value) (g : D → D → Sto → Res D) : Prop :=
  ∃ r, OpR X f r ∧ ∀ (E : XK) m S H x y vx vy Q, RS cl X.K m S H → RV X.K m H x vx → RV X.K m H y vy → Post cl X.K (RV X.K) m H E Q (g x y S) → r vx vy H Q
end
def d2 (g : D → D → Sto → Res D) (fa fb : Sl → Sto → Res D) : Sl → Sto → Res D := fun sd S => (fa sd S).bind fun x S1 => (fb sd S1).bind fun y S2 => g x y S2
def d2T (g : D → D → Sto → Res D) (fa fb : Sl → Sto → Res D) : Sl → Sto → Res Bool := fun sd S => (d2 g fa fb sd S).bind fun d S1 => match d with
  | .bl b => .ok b S1
  | _ => .stuck
section
variable {cl : Nat → Addr} {X : Cx} {E : XK} {a b c : Expr} {fa fb fc : Sl → Sto → Res D}
theorem de_op {op : Operator} {g} (ho : OpD cl X (binaryOp op) g) (ha : DE cl X E a fa) (hb : DE cl X E b fb) {pos} : DE cl X E (.BinOp a op b pos) (d2 g fa fb) := by
  obtain ⟨r, ho, hr⟩ := ho
  obtain ⟨ta, pa, ha⟩ := ha
  obtain ⟨tb, pb, hb⟩ := hb
  refine ⟨_, pe_op ho pa pb, fun m S H sd σ Q rs rl h => ?_⟩
  refine ha m S H sd σ _ rs rl (Post.bind h fun x S1 m1 vx H1 x1 k1 rs1 rx h1 => ?_)
  refine hb m1 S1 H1 sd σ _ rs1 (rl.mono x1 k1) (Post.bind h1 fun y S2 m2 vy H2 x2 k2 rs2 ry h2 => ?_)
  exact hr E m2 S2 H2 x y vx vy Q rs2 (RV.mono x2 k2 x rx) ry h2
theorem de_cmp {op : CmpOp} {g} (ho : OpD cl X (compareOp op) g) (ha : DE cl X E a fa) (hb : DE cl X E b fb) {pos} (hm : behindInMarks op b = false := by with_unfolding_all rfl) : DE cl X E (.Compare a [op] [b] pos) (d2 g fa fb) := by
  obtain ⟨r, ho, hr⟩ := ho
  obtain ⟨ta, pa, ha⟩ := ha
  obtain ⟨tb, pb, hb⟩ := hb
  refine ⟨_, pe_cmpR ho pa pb hm, fun m S H sd σ Q rs rl h => ?_⟩
  refine ha m S H sd σ _ rs rl (Post.bind h fun x S1 m1 vx H1 x1 k1 rs1 rx h1 => ?_)
  refine hb m1 S1 H1 sd σ _ rs1 (rl.mono x1 k1) (Post.bind h1 fun y S2 m2 vy H2 x2 k2 rs2 ry h2 => ?_)
  exact hr E m2 S2 H2 x y vx vy Q rs2 (RV.mono x2 k2 x rx) ry h2
theorem bind_assoc {α β γ : Type} (r : Res α) (f : α → Sto → Res β) (g : β → Sto → Res γ) : (r.bind f).bind g = r.bind fun a S => (f a S).bind g := by
  cases r <;> rfl
theorem dt_cmp {op : CmpOp} {g} (ho : OpD cl X (compareOp op) g) (ha : DE cl X E a fa) (hb : DE cl X E b fb) {pos} (hm : behindInMarks op b = false := by with_unfolding_all rfl) : DT cl X E (.Compare a [op] [b] pos) (d2T g fa fb) := by
  obtain ⟨r, ho, hr⟩ := ho
  obtain ⟨ta, pa, ha⟩ := ha
  obtain ⟨tb, pb, hb⟩ := hb
  refine ⟨_, pt_cmpR ho pa pb hm, fun m S H sd σ Q rs rl h => ?_⟩
  unfold d2T d2 at h
  rw [bind_assoc] at h
  refine ha m S H sd σ _ rs rl (Post.bind h fun x S1 m1 vx H1 x1 k1 rs1 rx h1 => ?_)
  rw [bind_assoc] at h1
  refine hb m1 S1 H1 sd σ _ rs1 (rl.mono x1 k1) (Post.bind h1 fun y S2 m2 vy H2 x2 k2 rs2 ry h2 => ?_)
  refine hr E m2 S2 H2 x y vx vy _ rs2 (RV.mono x2 k2 x rx) ry (Post.bind h2 fun z S3 m3 vz H3 x3 k3 rs3 rz h3 => ?_)
  cases z with
  | bl k => exact ⟨k, rz, h3.here rs3 rfl⟩
  | _ => exact h3.elim
/-- a op1 b op2 c -/
def d3 (g g' : D → D → Sto → Res D) (fa fb fc : Sl → Sto → Res D) : Sl → Sto → Res D := fun sd S => (fa sd S).bind fun x S1 => (fb sd S1).bind fun y S2 => (g x y S2).bind fun z S3 => match z with
  | .bl true => (fc sd S3).bind fun w S4 => g' y w S4
  | .bl false => .ok (.bl false) S3
  | _ => .stuck
def d3T (g g' : D → D → Sto → Res D) (fa fb fc : Sl → Sto → Res D) : Sl → Sto → Res Bool := fun sd S => (d3 g g' fa fb fc sd S).bind fun d S1 => match d with
  | .bl b => .ok b S1
  | _ => .stuck
theorem de_chain {op op' : CmpOp} {g g'} (ho : OpD cl X (compareOp op) g) (ho' : OpD cl X (compareOp op') g') (ha : DE cl X E a fa) (hb : DE cl X E b fb) (hc : DE cl X E c fc) {pos} (hm : lastMarks [op, op'] [b, c] = false := by with_unfolding_all rfl) :
    DE cl X E (.Compare a [op, op'] [b, c] pos) (d3 g g' fa fb fc) := by
  obtain ⟨r, ho, hr⟩ := ho
  obtain ⟨r', ho', hr'⟩ := ho'
  obtain ⟨ta, pa, ha⟩ := ha
  obtain ⟨tb, pb, hb⟩ := hb
  obtain ⟨tc, pc, hc⟩ := hc
  refine ⟨_, pe_chain ho ho' pa pb pc hm, fun m S H sd σ Q rs rl h => ?_⟩
  refine ha m S H sd σ _ rs rl (Post.bind h fun x S1 m1 vx H1 x1 k1 rs1 rx h1 => ?_)
  refine hb m1 S1 H1 sd σ _ rs1 (rl.mono x1 k1) (Post.bind h1 fun y S2 m2 vy H2 x2 k2 rs2 ry h2 => ?_)
  refine hr E m2 S2 H2 x y vx vy _ rs2 (RV.mono x2 k2 x rx) ry (Post.bind h2 fun z S3 m3 vz H3 x3 k3 rs3 rz h3 => ?_)
  cases z with
  | bl k =>
    refine ⟨k, rz, ?_⟩
    cases k with
    | false => exact iteF (h3.here rs3 rfl)
    | true =>
      refine iteT (hc m3 S3 H3 sd σ _ rs3 (rl.mono ((x1.trans x2).trans x3) ((k1.trans k2).trans k3)) (Post.bind h3 fun w S4 m4 vw H4 x4 k4 rs4 rw' h4 => ?_))
      exact hr' E m4 S4 H4 y w vy vw Q rs4 (RV.mono (x3.trans x4) (k3.trans k4) y ry) rw' h4
  | _ => exact h3.elim
theorem dt_chain {op op' : CmpOp} {g g'} (ho : OpD cl X (compareOp op) g) (ho' : OpD cl X (compareOp op') g') (ha : DE cl X E a fa) (hb : DE cl X E b fb) (hc : DE cl X E c fc) {pos} (hm : lastMarks [op, op'] [b, c] = false := by with_unfolding_all rfl) :
    DT cl X E (.Compare a [op, op'] [b, c] pos) (d3T g g' fa fb fc) := by
  obtain ⟨r, ho, hr⟩ := ho
  obtain ⟨r', ho', hr'⟩ := ho'
  obtain ⟨ta, pa, ha⟩ := ha
  obtain ⟨tb, pb, hb⟩ := hb
  obtain ⟨tc, pc, hc⟩ := hc
  refine ⟨_, pt_chain ho ho' pa pb pc hm, fun m S H sd σ Q rs rl h => ?_⟩
  unfold d3T d3 at h
  rw [bind_assoc] at h
  refine ha m S H sd σ _ rs rl (Post.bind h fun x S1 m1 vx H1 x1 k1 rs1 rx h1 => ?_)
  rw [bind_assoc] at h1
  refine hb m1 S1 H1 sd σ _ rs1 (rl.mono x1 k1) (Post.bind h1 fun y S2 m2 vy H2 x2 k2 rs2 ry h2 => ?_)
  rw [bind_assoc] at h2
  refine hr E m2 S2 H2 x y vx vy _ rs2 (RV.mono x2 k2 x rx) ry (Post.bind h2 fun z S3 m3 vz H3 x3 k3 rs3 rz h3 => ?_)
  cases z with
  | bl k =>
    refine ⟨k, rz, ?_⟩
    cases k with
    | false => exact iteF ⟨false, rfl, h3.here rs3 rfl⟩
    | true =>
      dsimp only at h3
      rw [bind_assoc] at h3
      refine iteT (hc m3 S3 H3 sd σ _ rs3 (rl.mono ((x1.trans x2).trans x3) ((k1.trans k2).trans k3)) (Post.bind h3 fun w S4 m4 vw H4 x4 k4 rs4 rw' h4 => ?_))
      refine hr' E m4 S4 H4 y w vy vw _ rs4 (RV.mono (x3.trans x4) (k3.trans k4) y ry) rw' (Post.bind h4 fun q S5 m5 vq H5 x5 k5 rs5 rq h5 => ?_)
      cases q with
      | bl k' => exact ⟨k', rq, h5.here rs5 rfl⟩
      | _ => exact h5.elim
  | _ => exact h3.elim
end

/-! ### the operators on data -/
def addD : D → D → Sto → Res D
  | .int a, .int b, S => .ok (.int (a + b)) S
  | .str a, .str b, S => if a.length + b.length ≤ sizeLine then .ok (.str (a ++ b)) S else .stuck
  | .tup a, .tup b, S => if a.length + b.length ≤ sizeLine then .ok (.tup (a ++ b)) S else .stuck
  | .ref a, .ref b, S => match S[a]?, S[b]? with
    | some (.lst x), some (.lst y) => if x.length + y.length ≤ sizeLine then .ok (.ref S.length) (S ++ [.lst (x ++ y)]) else .stuck
    | _, _ => .stuck
  | _, _, _ => .stuck
def subD : D → D → Sto → Res D
  | .int a, .int b, S => .ok (.int (a - b)) S
  | _, _, _ => .stuck
def repS (z : Str) (n : Int) : Str := ⟨(List.replicate n.toNat z.cps.toList).flatten.toArray⟩
def mulD : D → D → Sto → Res D
  | .int a, .int b, S => if (-(2 ^ 64) < a ∧ a < 2 ^ 64) ∨ (-(2 ^ 64) < b ∧ b < 2 ^ 64) then .ok (.int (a * b)) S else .stuck
  | .str z, .int n, S => if -(2 ^ 63) ≤ n ∧ n < 2 ^ 63 ∧ z.length * n.toNat ≤ sizeLine then .ok (.str (repS z n)) S else .stuck
  | .tup xs, .int n, S => if -(2 ^ 63) ≤ n ∧ n < 2 ^ 63 ∧ xs.length * n.toNat ≤ sizeLine then .ok (.tup (List.replicate n.toNat xs).flatten) S else .stuck
  | .ref a, .int n, S => match S[a]? with
    | some (.lst xs) => if -(2 ^ 63) ≤ n ∧ n < 2 ^ 63 ∧ xs.length * n.toNat ≤ sizeLine then .ok (.ref S.length) (S ++ [.lst (List.replicate n.toNat xs).flatten]) else .stuck
    | _ => .stuck
  | _, _, _ => .stuck
def fdivD : D → D → Sto → Res D
  | .int a, .int b, S => if 0 < b ∧ b.natAbs.log2 < 9000 then .ok (.int (a / b)) S else .stuck
  | _, _, _ => .stuck
def modD : D → D → Sto → Res D
  | .int a, .int b, S => if 0 < b then .ok (.int (a % b)) S else .stuck
  | _, _, _ => .stuck
def powD : D → D → Sto → Res D
  | .int a, .int b, S => if 0 ≤ b ∧ b ≤ 1000000 ∧ a.natAbs < 2 ^ 64 then .ok (.int (a ^ b.toNat)) S else .stuck
  | _, _, _ => .stuck
section
variable {cl : Nat → Addr} {X : Cx}
theorem flat_len (xs : List Nat) (n : Nat) : (List.replicate n xs).flatten.length = xs.length * n := by
  induction n with
  | zero => simp
  | succ n ih => rw [List.replicate_succ, List.flatten_cons, List.length_append, ih, Nat.mul_succ, Nat.add_comm]
theorem fold_rep (xs : Array Nat) : ∀ (n : Nat) (acc : Array Nat), (List.replicate n xs).foldl (· ++ ·) acc = acc ++ (List.replicate n xs.toList).flatten.toArray
  | 0, acc => by simp
  | n + 1, acc => by
    rw [List.replicate_succ, List.foldl_cons, fold_rep xs n, List.replicate_succ, List.flatten_cons]
    apply Array.ext'
    simp
theorem op_repS : OpR X (binaryOp .Mult) (fun x y H Q => ∃ (z : Str) (k : Int), x = .str z ∧ y = .int k ∧ -(2 ^ 63) ≤ k ∧ k < 2 ^ 63 ∧ z.length * k.toNat ≤ sizeLine ∧ Q (.str (repS z k)) H) := by
  intro pins s σ H x y v u Q I rx ry h
  obtain ⟨z, k, rfl, rfl, h1, h2, hz, q⟩ := h
  obtain ⟨t, rfl⟩ := rx
  obtain ⟨t', rfl⟩ := ry
  have hzl : z.length = z.cps.toList.length := by simp [Str.length]
  have sL : sizeLine = 16777216 := sizeLine_eq
  refine PySem.P.mul_str (by rw [decide_eq_false (by omega), decide_eq_false (by omega)]; rfl) (fun c1 c2 => ?_) (fun c1 c2 => ?_) ?_
  · rw [Bool.or_eq_false_iff] at c2
    have hk : 0 < k := by omega
    have e1 : (z.length : Int) * k ≤ 16777216 := by
      have : ((z.length * k.toNat : Nat) : Int) ≤ 16777216 := by rw [sL] at hz; exact Int.ofNat_le.mpr hz
      have e2 : ((z.length * k.toNat : Nat) : Int) = (z.length : Int) * k := by
        rw [Int.natCast_mul, Int.toNat_of_nonneg (by omega)]
      omega
    intro hgt
    have : (z.length : Int) ≤ (2 ^ 63 - 1) / k := by
      rw [Int.le_ediv_iff_mul_le hk]
      omega
    omega
  · exact decide_eq_false (by omega)
  · by_cases c1 : k < 1
    · rw [if_pos c1]
      have e : repS z k = Str.empty := by
        unfold repS
        rw [show k.toNat = 0 by omega]
        rfl
      rw [e] at q
      exact ⟨by decide, ⟨.str _, H, I.tok _, ⟨_, rfl⟩, q⟩⟩
    · rw [if_neg c1]
      by_cases c2 : (k == 1 || z.length == 0) = true
      · rw [if_pos c2]
        have e : repS z k = z := by
          unfold repS
          rw [Bool.or_eq_true] at c2
          rcases c2 with c2 | c2
          · have : k = 1 := by simpa using c2
            subst this
            simp
          · have : z.length = 0 := by simpa using c2
            have e0 : z.cps = #[] := by
              apply Array.eq_empty_of_size_eq_zero
              simpa [Str.length] using this
            cases z with
            | mk cps =>
              simp only at e0
              subst e0
              simp
        rw [e] at q
        exact ⟨.str _, H, I, ⟨_, rfl⟩, q⟩
      · rw [if_neg c2]
        have e : (⟨(List.replicate k.toNat z.cps).foldl (· ++ ·) #[]⟩ : Str) = repS z k := by
          unfold repS
          rw [fold_rep]
          simp
        show Made.post (.str _) _ _
        rw [e]
        refine ⟨?_, ⟨.str _, H, I.tok _, ⟨_, rfl⟩, q⟩⟩
        show (repS z k).cps.size ≤ _
        unfold repS
        rw [List.size_toArray, flat_len, ← hzl]
        exact hz
theorem tuple_mul1 (l : Addr) (items : Array Value) (n : Nat) (dd : Option Addr) (sl : Array (Option Value)) (x : Int) (u : Tok) (c0 : (decide (x < -(2 ^ 63)) || decide (x ≥ 2 ^ 63)) = false) (c1 : (items.isEmpty || x == 1) = true) :
    Meets (Builtin.«tuple.__mul__» ⟨[.ref l, .int x u], []⟩) (fun _ R s => s.heap.get? l = some { cls := .type "tuple", dict := dd, data := .seq items n, slots := sl } ∧
      R (.ok (.ret (Value.ref l))) s) :=
  .of_wp fun prog w A R s h => by
    obtain ⟨hp, g, d, tk, os⟩ := s
    obtain ⟨hl, h⟩ := h
    have f1 := AutoSeq1.idx_int
    wp_walk using wpAny_loadPart' hl
    repeat (first
      | (refine wpAny_ite_false (decide_eq_false (by rw [c0]; exact Bool.false_ne_true)) ?_; wp_walk using wpAny_loadPart' hl)
      | (refine wpAny_ite_true (decide_eq_true c1) ?_; wp_walk using wpAny_loadPart' hl))
    exact ⟨_, rfl, h⟩
theorem tuple_mul0 (l : Addr) (items : Array Value) (n : Nat) (dd : Option Addr) (sl : Array (Option Value)) (x : Int) (u : Tok) (c0 : (decide (x < -(2 ^ 63)) || decide (x ≥ 2 ^ 63)) = false) (c1 : (items.isEmpty || x == 1) = false) (c2 : (decide (x ≤ 0) || items.isEmpty) = true) :
    Meets (Builtin.«tuple.__mul__» ⟨[.ref l, .int x u], []⟩) (fun _ R s => s.heap.get? l = some { cls := .type "tuple", dict := dd, data := .seq items n, slots := sl } ∧
      R (.ok (.ret (Value.ref s.heap.objs.size))) { s with heap := s.heap.push { cls := Value.type "tuple", data := Data.seq #[] }, toks := s.toks }) :=
  .of_wp fun prog w A R s h => by
    obtain ⟨hp, g, d, tk, os⟩ := s
    obtain ⟨hl, h⟩ := h
    have f1 := AutoSeq1.idx_int
    wp_walk using wpAny_loadPart' hl
    repeat (first
      | (refine wpAny_ite_false (decide_eq_false (by rw [c0]; exact Bool.false_ne_true)) ?_; wp_walk using wpAny_loadPart' hl)
      | (refine wpAny_ite_false (decide_eq_false (by rw [c1]; exact Bool.false_ne_true)) ?_; wp_walk using wpAny_loadPart' hl)
      | (refine wpAny_ite_true (decide_eq_true c2) ?_; wp_walk using wpAny_loadPart' hl))
    exact ⟨_, rfl, h⟩
end
end DL

namespace DL
open PySem PySem.Spec PyProof.Rows L2
section
variable {cl : Nat → Addr} {X : Cx}
def rRepA (K : PySem.W.Frag) : R2 := fun x y H Q => ∃ l k xs, x = .ref l ∧ y = .int k ∧ SqT K H l xs ∧ -(2 ^ 63) ≤ k ∧ k < 2 ^ 63 ∧ xs.length * k.toNat ≤ sizeLine ∧
  ((xs = [] ∨ k = 1) → Q (.ref l) H) ∧ (¬ (xs = [] ∨ k = 1) → ∀ p, H p = none → Q (.ref p) (upd H p (.tup (List.replicate k.toNat xs).flatten)))
theorem op_repA : OpR X (binaryOp .Mult) (rRepA X.K) := by
  intro pins s σ H x y v u Q I rx ry h
  obtain ⟨l, k, xs, rfl, rfl, hT, h1, h2, hz, q1, q2⟩ := h
  cases rx
  obtain ⟨t, rfl⟩ := ry
  obtain ⟨its, r, ⟨⟨cls, dd, data, sl⟩, ho, hc, n, hd⟩, hs⟩ := I.tuple hT
  simp only at hc hd
  subst hc hd
  have hle : its.length = xs.length := r.length.symm
  have c0 : (decide (k < -(2 ^ 63)) || decide (k ≥ 2 ^ 63)) = false := by
    rw [decide_eq_false (by omega), decide_eq_false (by omega)] <;> rfl
  have sL : sizeLine = 16777216 := sizeLine_eq
  by_cases c : xs = [] ∨ k = 1
  · have c1 : (its.toArray.isEmpty || k == 1) = true := by
      rw [Bool.or_eq_true]
      rcases c with c | c
      · left
        rw [c] at hle
        rw [List.eq_nil_of_length_eq_zero hle]
        rfl
      · right; simp [c]
    refine wpAny_binaryOp_repeat_ref (T := "tuple") (U := "int") (by decide) ⟨_, ho, rfl⟩ (fun s' => typeIs_int s' k t) noFill_tuple_mul F.fills_int_mul F.slot_int_rmul repeat_tuple F.slot_int_index.lookup
      (call_meets F.slot_int_rmul (typeIs_int s k t) F.entry_int_rmul (F.args_int_rmul_2 _ _) (int_rmul_tuple k t l its.toArray n dd sl)
        ⟨ho, rfl, ⟨_, ho, rfl⟩, call_meets F.slot_tuple_mul ⟨_, ho, rfl⟩ F.entry_tuple_mul (F.args_tuple_mul_2 _ _) (tuple_mul1 l its.toArray n dd sl k t c0 c1) ⟨ho, ?_⟩⟩)
    exact ⟨.ref l, H, I, rfl, q1 c⟩
  · have hne : xs ≠ [] := fun e => c (.inl e)
    have hk1 : k ≠ 1 := fun e => c (.inr e)
    have hn : its ≠ [] := fun e => hne (by
      rw [e] at hle
      exact List.eq_nil_of_length_eq_zero hle.symm)
    have hi : its.toArray.isEmpty = false := by
      cases its with
      | nil => exact absurd rfl hn
      | cons a b => rfl
    have c1 : (its.toArray.isEmpty || k == 1) = false := by
      rw [hi, Bool.false_or]
      exact beq_eq_false_iff_ne.mpr hk1
    by_cases k0 : k ≤ 0
    · have c2 : (decide (k ≤ 0) || its.toArray.isEmpty) = true := by rw [decide_eq_true k0]; rfl
      refine wpAny_binaryOp_repeat_ref (T := "tuple") (U := "int") (by decide) ⟨_, ho, rfl⟩ (fun s' => typeIs_int s' k t) noFill_tuple_mul F.fills_int_mul F.slot_int_rmul repeat_tuple F.slot_int_index.lookup
        (call_meets F.slot_int_rmul (typeIs_int s k t) F.entry_int_rmul (F.args_int_rmul_2 _ _) (int_rmul_tuple k t l its.toArray n dd sl)
          ⟨ho, rfl, ⟨_, ho, rfl⟩, call_meets F.slot_tuple_mul ⟨_, ho, rfl⟩ F.entry_tuple_mul (F.args_tuple_mul_2 _ _) (tuple_mul0 l its.toArray n dd sl k t c0 c1 c2) ⟨ho, ?_⟩⟩)
      have e0 : (List.replicate k.toNat xs).flatten = [] := by rw [show k.toNat = 0 by omega]; rfl
      have q := q2 c
      rw [e0] at q
      refine ⟨.ref s.heap.objs.size, _, I.laid (t' := s.toks) (o := .tup []) (fun b ob q => Heap.get?_push_of_some _ q) (Nat.le_refl _) ?_, rfl, q _ (I.hok.fresh (Nat.le_refl _))⟩
      exact ⟨Nat.zero_le _, [], .nil, IsTup.new _ _⟩
    · have c2 : (decide (k ≤ 0) || its.toArray.isEmpty) = false := by
        rw [hi, Bool.or_false]
        exact decide_eq_false k0
      have hsz0 : its.toArray.size = xs.length := by rw [List.size_toArray, hle]
      have hm : ((its.toArray.size : Nat) : Int) * k ≤ 16777216 := by
        rw [hsz0]
        have e1 : ((xs.length * k.toNat : Nat) : Int) ≤ 16777216 := by rw [sL] at hz; exact Int.ofNat_le.mpr hz
        have e2 : ((xs.length * k.toNat : Nat) : Int) = (xs.length : Int) * k := by
          rw [Int.natCast_mul, Int.toNat_of_nonneg (by omega)]
        omega
      have flen : (List.replicate k.toNat its).flatten.length ≤ sizeLine := by
        rw [PyProof.Rows.lm_len_rep_flat, hle, Nat.mul_comm]
        exact hz
      have c4 : Builtin.Tuple.tupleTooMany (((its.toArray.size : Nat) : Int) * k) = false := by
        unfold Builtin.Tuple.tupleTooMany
        rw [sizeLine_eq]
        exact decide_eq_false (by omega)
      refine wpAny_binaryOp_repeat_ref (T := "tuple") (U := "int") (by decide) ⟨_, ho, rfl⟩ (fun s' => typeIs_int s' k t) noFill_tuple_mul F.fills_int_mul F.slot_int_rmul repeat_tuple F.slot_int_index.lookup
        (call_meets F.slot_int_rmul (typeIs_int s k t) F.entry_int_rmul (F.args_int_rmul_2 _ _) (int_rmul_tuple k t l its.toArray n dd sl)
          ⟨ho, rfl, ⟨_, ho, rfl⟩, call_meets F.slot_tuple_mul ⟨_, ho, rfl⟩ F.entry_tuple_mul (F.args_tuple_mul_2 _ _) (tuple_mulW l its.toArray n dd sl k t c0 c1 c2 (by omega) c4 (by rw [size_rep, List.size_toArray]; exact flen)) ⟨ho, ?_⟩⟩)
      rw [size_rep]
      refine ⟨.ref s.heap.objs.size, _, I.laid (t' := s.toks) (o := .tup (List.replicate k.toNat xs).flatten) (fun b ob q => Heap.get?_push_of_some _ q) (Nat.le_refl _) ?_, rfl, q2 c _ (I.hok.fresh (Nat.le_refl _))⟩
      exact ⟨by rw [PyProof.Rows.lm_len_rep_flat, Nat.mul_comm]; exact hz, _, r.rep k.toNat, IsTup.new _ _⟩

theorem op_addD : OpD cl X (binaryOp .Add) addD := by
  refine ⟨_, ((op_add.or op_add_str).or op_catA).or op_cat, fun E m S H x y vx vy Q rs rx ry h => ?_⟩
  unfold addD at h
  split at h
  · rename_i a b
    cases rx; cases ry
    exact .inl (.inl (.inl ⟨_, _, rfl, rfl, h.here rs rfl⟩))
  · rename_i a b
    cases rx; cases ry
    split at h
    · rename_i hz
      exact .inl (.inl (.inr ⟨_, _, rfl, rfl, hz, h.here rs rfl⟩))
    · exact h.elim
  · rename_i a b
    split at h
    · rename_i hz
      obtain ⟨p, vs, rfl, s1, r1⟩ := rx
      obtain ⟨q, ws, rfl, s2, r2⟩ := ry
      refine .inl (.inr ⟨p, q, vs, ws, rfl, rfl, s1, s2, by rw [← r1.length, ← r2.length]; exact hz, fun e => ?_, fun e1 e2 => ?_, fun e1 e2 p' hp => ?_⟩)
      · subst e
        have : a = [] := List.eq_nil_of_length_eq_zero r1.length
        subst this
        exact h.here rs ⟨q, ws, rfl, s2, r2⟩
      · subst e2
        have : b = [] := List.eq_nil_of_length_eq_zero r2.length
        subst this
        exact h.here rs ⟨p, vs, rfl, s1, by rw [List.append_nil]; exact r1⟩
      · obtain ⟨a1, b1⟩ := newTup rs (r1.append r2) hp
        exact h _ _ _ (Ext.refl m) (Keep.new hp) a1 b1
    · exact h.elim
  · rename_i a b
    split at h
    · rename_i x y e1 e2
      split at h
      · rename_i hz
        obtain ⟨p, h1, ⟨vs, hv, r1⟩⟩ := rs.adr e1
        obtain ⟨q, h2, ⟨ws, hw, r2⟩⟩ := rs.adr e2
        obtain ⟨p', h1', rfl⟩ := rx
        obtain ⟨q', h2', rfl⟩ := ry
        rw [h1] at h1'; cases h1'
        rw [h2] at h2'; cases h2'
        refine .inr ⟨p, q, vs, ws, rfl, rfl, hv, hw, by rw [← r1.length, ← r2.length]; exact hz, fun p' hp => ?_⟩
        obtain ⟨a1, b1⟩ := newLst rs (r1.append r2) hp
        exact h _ _ _ (Ext.snoc m p') (Keep.new hp) a1 b1
      · exact h.elim
    · exact h.elim
  · exact h.elim
theorem op_subD : OpD cl X (binaryOp .Sub) subD := by
  refine ⟨_, op_sub, fun E m S H x y vx vy Q rs rx ry h => ?_⟩
  unfold subD at h
  split at h
  · cases rx; cases ry
    exact ⟨_, _, rfl, rfl, h.here rs rfl⟩
  · exact h.elim
theorem op_fdivD : OpD cl X (binaryOp .FloorDiv) fdivD := by
  refine ⟨_, op_fdivW, fun E m S H x y vx vy Q rs rx ry h => ?_⟩
  unfold fdivD at h
  split at h
  · cases rx; cases ry
    split at h
    · rename_i hz
      exact ⟨_, _, rfl, rfl, hz, h.here rs rfl⟩
    · exact h.elim
  · exact h.elim
theorem op_modD : OpD cl X (binaryOp .Mod) modD := by
  refine ⟨_, op_mod, fun E m S H x y vx vy Q rs rx ry h => ?_⟩
  unfold modD at h
  split at h
  · cases rx; cases ry
    split at h
    · rename_i hz
      exact ⟨_, _, rfl, rfl, hz, h.here rs rfl⟩
    · exact h.elim
  · exact h.elim
theorem op_powD : OpD cl X (binaryOp .Pow) powD := by
  refine ⟨_, op_pow, fun E m S H x y vx vy Q rs rx ry h => ?_⟩
  unfold powD at h
  split at h
  · cases rx; cases ry
    split at h
    · rename_i hz
      exact ⟨_, _, rfl, rfl, hz, h.here rs rfl⟩
    · exact h.elim
  · exact h.elim
theorem op_mulD : OpD cl X (binaryOp .Mult) mulD := by
  refine ⟨_, ((op_mul.or op_repS).or op_repA).or op_rep, fun E m S H x y vx vy Q rs rx ry h => ?_⟩
  unfold mulD at h
  split at h
  · cases rx; cases ry
    split at h
    · rename_i hz
      exact .inl (.inl (.inl ⟨_, _, rfl, rfl, hz, h.here rs rfl⟩))
    · exact h.elim
  · cases rx; cases ry
    split at h
    · rename_i hz
      exact .inl (.inl (.inr ⟨_, _, rfl, rfl, hz.1, hz.2.1, hz.2.2, h.here rs rfl⟩))
    · exact h.elim
  · rename_i xs n
    split at h
    · rename_i hz
      obtain ⟨p, vs, rfl, s1, r1⟩ := rx
      cases ry
      refine .inl (.inr ⟨p, n, vs, rfl, rfl, s1, hz.1, hz.2.1, by rw [← r1.length]; exact hz.2.2, fun e => ?_, fun e p' hp => ?_⟩)
      · have e1 : (List.replicate n.toNat xs).flatten = xs := by
          rcases e with e | e
          · subst e
            have : xs = [] := List.eq_nil_of_length_eq_zero r1.length
            subst this
            simp
          · subst e; simp
        rw [e1] at h
        exact h.here rs ⟨p, vs, rfl, s1, r1⟩
      · obtain ⟨a1, b1⟩ := newTup rs (r1.rep n.toNat) hp
        exact h _ _ _ (Ext.refl m) (Keep.new hp) a1 b1
    · exact h.elim
  · rename_i a n
    split at h
    · rename_i xs e1
      split at h
      · rename_i hz
        obtain ⟨p, h1, ⟨vs, hv, r1⟩⟩ := rs.adr e1
        obtain ⟨p', h1', rfl⟩ := rx
        rw [h1] at h1'; cases h1'
        cases ry
        refine .inr ⟨p, n, vs, rfl, rfl, hv, hz.1, hz.2.1, by rw [← r1.length]; exact hz.2.2, fun p' hp => ?_⟩
        obtain ⟨a1, b1⟩ := newLst rs (r1.rep n.toNat) hp
        exact h _ _ _ (Ext.snoc m p') (Keep.new hp) a1 b1
      · exact h.elim
    · exact h.elim
  · exact h.elim

/-! ### comparisons -/
def mapO {α β : Type} (f : α → Option β) : List α → Option (List β)
  | [] => some []
  | x :: xs => match f x, mapO f xs with
    | some a, some b => some (a :: b)
    | _, _ => none
/-- as plain data, however deep -/
def toP (S : Sto) : Nat → D → Option PyData
  | _, .non => some .none
  | _, .bl b => some (.bool b)
  | _, .int i => some (.int i)
  | _, .str x => some (.str x)
  | n + 1, .tup ds => (mapO (toP S n) ds).map .tuple
  | n + 1, .frl ds => (mapO (toP S n) ds).map .list
  | n + 1, .ref l => match S[l]? with
    | some (.lst ds) => (mapO (toP S n) ds).map .list
    | _ => none
  | _, .exn _ _ _ _ => none
  | 0, _ => none
theorem dpAll {K : PySem.W.Frag} {m : List Addr} {H : Hp} {f : D → Option PyData} (hf : ∀ d p v, f d = some p → RV K m H d v → Dp K H v p) :
    ∀ (ds : List D) (ps : List PyData) (vs : List V), mapO f ds = some ps → RVs K m H ds vs → DpAll K H vs ps
  | [], ps, vs, e, r => by
    cases e; cases r; exact .nil
  | d :: ds, ps, vs, e, r => by
    obtain ⟨v, vs', rfl, r1, r2⟩ := r
    unfold mapO at e
    split at e
    · rename_i a b ea eb
      cases e
      exact .cons (hf d a v ea r1) (dpAll hf ds b vs' eb r2)
    · cases e
theorem toP_dp {K : PySem.W.Frag} {m : List Addr} {S : Sto} {H : Hp} (rs : RS cl K m S H) : ∀ (n : Nat) (d : D) (p : PyData) (v : V), toP S n d = some p → RV K m H d v → Dp K H v p := by
  have base : ∀ (n : Nat), (∀ d p v, toP S n d = some p → RV K m H d v → Dp K H v p) → ∀ d p v, toP S (n + 1) d = some p → RV K m H d v → Dp K H v p := by
    intro n ih d p v e r
    cases d with
    | non => cases e; cases r; exact .non
    | bl b => cases e; cases r; exact .bl b
    | int b => cases e; cases r; exact .int b
    | str b => cases e; cases r; exact .str b
    | exn _ _ _ _ => cases e
    | tup ds =>
      obtain ⟨a, vs, rfl, s1, r1⟩ := r
      obtain ⟨ps, e1, rfl⟩ := Option.map_eq_some_iff.mp e
      exact .tup s1 (dpAll ih ds ps vs e1 r1)
    | frl ds =>
      obtain ⟨a, vs, rfl, s1, r1⟩ := r
      obtain ⟨ps, e1, rfl⟩ := Option.map_eq_some_iff.mp e
      exact .lst s1.sq (dpAll ih ds ps vs e1 r1)
    | ref l =>
      obtain ⟨a, e0, rfl⟩ := r
      unfold toP at e
      split at e
      · rename_i ds es
        obtain ⟨a', h1, vs, hv, r1⟩ := rs.adr es
        rw [e0] at h1; cases h1
        obtain ⟨ps, e1, rfl⟩ := Option.map_eq_some_iff.mp e
        exact .lst (SqL.of hv) (dpAll ih ds ps vs e1 r1)
      · cases e
  intro n
  induction n with
  | zero =>
    intro d p v e r
    cases d with
    | non => cases e; cases r; exact .non
    | bl b => cases e; cases r; exact .bl b
    | int b => cases e; cases r; exact .int b
    | str b => cases e; cases r; exact .str b
    | _ => cases e
  | succ n ih => exact base n ih
/-- are two data equal -/
def sameD (x y : D) (S : Sto) : Option Bool :=
  match x, y with
  | .int a, .int b => some (decide (a = b))
  | .str a, .str b => some (decide (a = b))
  | .bl a, .bl b => some (decide (a = b))
  | _, _ => match toP S 60 x, toP S 60 y with
    | some a, some b => if SeqAt.shaped a && SeqAt.shaped b then some (PyData.eqv a b) else none
    | _, _ => none
def eqD (x y : D) (S : Sto) : Res D := match sameD x y S with
  | some b => .ok (.bl b) S
  | none => .stuck
def neD (x y : D) (S : Sto) : Res D := match sameD x y S with
  | some b => .ok (.bl (!b)) S
  | none => .stuck
theorem sameD_cases {x y : D} {S : Sto} {b : Bool} (h : sameD x y S = some b) :
    (∃ i j, x = .int i ∧ y = .int j ∧ b = decide (i = j)) ∨ (∃ i j, x = .str i ∧ y = .str j ∧ b = decide (i = j)) ∨ (∃ i j, x = .bl i ∧ y = .bl j ∧ b = decide (i = j)) ∨
    ∃ p q, toP S 60 x = some p ∧ toP S 60 y = some q ∧ SeqAt.shaped p = true ∧ SeqAt.shaped q = true ∧ b = PyData.eqv p q := by
  unfold sameD at h
  split at h
  · cases h; exact .inl ⟨_, _, rfl, rfl, rfl⟩
  · cases h; exact .inr (.inl ⟨_, _, rfl, rfl, rfl⟩)
  · cases h; exact .inr (.inr (.inl ⟨_, _, rfl, rfl, rfl⟩))
  · split at h
    · rename_i p q e1 e2
      split at h
      · rename_i hs
        rw [Bool.and_eq_true] at hs
        cases h
        exact .inr (.inr (.inr ⟨p, q, e1, e2, hs.1, hs.2, rfl⟩))
      · cases h
    · cases h
theorem op_eqDD (hu : X.A.units + 64 < cLine) : OpD cl X (compareOp .Eq) eqD := by
  refine ⟨_, op_eq.or (op_eqD hu), fun E m S H x y vx vy Q rs rx ry h => ?_⟩
  unfold eqD at h
  split at h
  · rename_i b e
    rcases sameD_cases e with ⟨i, j, rfl, rfl, rfl⟩ | ⟨i, j, rfl, rfl, rfl⟩ | ⟨i, j, rfl, rfl, rfl⟩ | ⟨p, q, e1, e2, s1, s2, rfl⟩
    · cases rx; cases ry
      refine .inl ⟨rfl, ?_⟩
      have : decide (V.int i = V.int j) = decide (i = j) := by simp
      rw [this]; exact h.here rs rfl
    · cases rx; cases ry
      refine .inl ⟨rfl, ?_⟩
      have : decide (V.str i = V.str j) = decide (i = j) := by simp
      rw [this]; exact h.here rs rfl
    · cases rx; cases ry
      refine .inl ⟨rfl, ?_⟩
      have : decide (V.bl i = V.bl j) = decide (i = j) := by simp
      rw [this]; exact h.here rs rfl
    · exact .inr ⟨p, q, toP_dp rs _ _ _ _ e1 rx, toP_dp rs _ _ _ _ e2 ry, s1, s2, h.here rs rfl⟩
  · exact h.elim
theorem op_neDD (hu : X.A.units + 64 < cLine) : OpD cl X (compareOp .NotEq) neD := by
  refine ⟨_, op_ne.or (op_neD hu), fun E m S H x y vx vy Q rs rx ry h => ?_⟩
  unfold neD at h
  split at h
  · rename_i b e
    rcases sameD_cases e with ⟨i, j, rfl, rfl, rfl⟩ | ⟨i, j, rfl, rfl, rfl⟩ | ⟨i, j, rfl, rfl, rfl⟩ | ⟨p, q, e1, e2, s1, s2, rfl⟩
    · cases rx; cases ry
      refine .inl ⟨rfl, ?_⟩
      have : decide (V.int i = V.int j) = decide (i = j) := by simp
      rw [this]; exact h.here rs rfl
    · cases rx; cases ry
      refine .inl ⟨rfl, ?_⟩
      have : decide (V.str i = V.str j) = decide (i = j) := by simp
      rw [this]; exact h.here rs rfl
    · cases rx; cases ry
      refine .inl ⟨rfl, ?_⟩
      have : decide (V.bl i = V.bl j) = decide (i = j) := by simp
      rw [this]; exact h.here rs rfl
    · exact .inr ⟨p, q, toP_dp rs _ _ _ _ e1 rx, toP_dp rs _ _ _ _ e2 ry, s1, s2, h.here rs rfl⟩
  · exact h.elim
def ltD : D → D → Sto → Res D
  | .int a, .int b, S => .ok (.bl (decide (a < b))) S
  | _, _, _ => .stuck
def leD : D → D → Sto → Res D
  | .int a, .int b, S => .ok (.bl (decide (a ≤ b))) S
  | _, _, _ => .stuck
def gtD : D → D → Sto → Res D
  | .int a, .int b, S => .ok (.bl (decide (b < a))) S
  | _, _, _ => .stuck
def geD : D → D → Sto → Res D
  | .int a, .int b, S => .ok (.bl (decide (b ≤ a))) S
  | _, _, _ => .stuck
theorem op_ltD : OpD cl X (compareOp .Lt) ltD := by
  refine ⟨_, op_lt, fun E m S H x y vx vy Q rs rx ry h => ?_⟩
  unfold ltD at h
  split at h
  · cases rx; cases ry; exact ⟨_, _, rfl, rfl, h.here rs rfl⟩
  · exact h.elim
theorem op_leD : OpD cl X (compareOp .LtE) leD := by
  refine ⟨_, op_le, fun E m S H x y vx vy Q rs rx ry h => ?_⟩
  unfold leD at h
  split at h
  · cases rx; cases ry; exact ⟨_, _, rfl, rfl, h.here rs rfl⟩
  · exact h.elim
theorem op_gtD : OpD cl X (compareOp .Gt) gtD := by
  refine ⟨_, op_gt, fun E m S H x y vx vy Q rs rx ry h => ?_⟩
  unfold gtD at h
  split at h
  · cases rx; cases ry; exact ⟨_, _, rfl, rfl, h.here rs rfl⟩
  · exact h.elim
theorem op_geD : OpD cl X (compareOp .GtE) geD := by
  refine ⟨_, op_ge, fun E m S H x y vx vy Q rs rx ry h => ?_⟩
  unfold geD at h
  split at h
  · cases rx; cases ry; exact ⟨_, _, rfl, rfl, h.here rs rfl⟩
  · exact h.elim
/-- x is None, x is True -/
def isD : D → D → Sto → Res D
  | x, .non, S => .ok (.bl (decide (x = .non))) S
  | _, _, _ => .stuck
def isNotD : D → D → Sto → Res D
  | x, .non, S => .ok (.bl (!decide (x = .non))) S
  | _, _, _ => .stuck
theorem rv_non {K : PySem.W.Frag} {m : List Addr} {H : Hp} {x : D} {v : V} (r : RV K m H x v) : decide (v = .non) = decide (x = .non) := by
  cases x with
  | non => cases r; simp
  | bl _ => cases r; simp
  | int _ => cases r; simp
  | str _ => cases r; simp
  | tup _ => obtain ⟨a, vs, rfl, _⟩ := r; simp
  | frl _ => obtain ⟨a, vs, rfl, _⟩ := r; simp
  | ref _ => obtain ⟨a, _, rfl⟩ := r; simp
  | exn _ _ _ _ => obtain ⟨rfl, _⟩ := r; simp
theorem op_isD : OpD cl X (compareOp .Is) isD := by
  refine ⟨_, op_isN, fun E m S H x y vx vy Q rs rx ry h => ?_⟩
  unfold isD at h
  split at h
  · cases ry
    refine ⟨rfl, ?_⟩
    rw [rv_non rx]; exact h.here rs rfl
  · exact h.elim
theorem op_isNotD : OpD cl X (compareOp .IsNot) isNotD := by
  refine ⟨_, op_notN, fun E m S H x y vx vy Q rs rx ry h => ?_⟩
  unfold isNotD at h
  split at h
  · cases ry
    refine ⟨rfl, ?_⟩
    rw [rv_non rx]; exact h.here rs rfl
  · exact h.elim
end
end DL

namespace DL
open PySem PySem.Spec PyProof.Rows L2
section
variable {cl : Nat → Addr} {K : PySem.W.Frag} {m : List Addr} {H : Hp} {E : XK} {D : Ends} {S : Sto} {sd : Sl} {σ : L2.St}
theorem Post.toNx (h : Post cl K (RFl K) m H E (endQ D) (.ok (.nx sd) S)) (rs : RS cl K m S H) (rl : RSl K m H sd σ) : D.nx σ H := h m (.nx σ) H (Ext.refl m) (Keep.refl H) rs rl
theorem Post.toBk (h : Post cl K (RFl K) m H E (endQ D) (.ok (.brk sd) S)) (rs : RS cl K m S H) (rl : RSl K m H sd σ) : D.bk σ H := h m (.brk σ) H (Ext.refl m) (Keep.refl H) rs rl
theorem Post.toCt (h : Post cl K (RFl K) m H E (endQ D) (.ok (.cnt sd) S)) (rs : RS cl K m S H) (rl : RSl K m H sd σ) : D.ct σ H := h m (.cnt σ) H (Ext.refl m) (Keep.refl H) rs rl
end
section
variable {cl : Nat → Addr} {K : PySem.W.Frag} {m : List Addr} {H : Hp} {E : XK} {En : Ends} {S : Sto} {d : D} {v : V}
theorem Post.toRt (h : Post cl K (RFl K) m H E (endQ En) (.ok (.ret d) S)) (rs : RS cl K m S H) (rv : RV K m H d v) : En.rt v H := h m (.ret v) H (Ext.refl m) (Keep.refl H) rs rv
end
/-! ### tests -/
def tstB (f : Sl → Sto → Res D) : Sl → Sto → Res Bool := fun sd S => (f sd S).bind fun d S1 => match d with
  | .bl b => .ok b S1
  | _ => .stuck
def tAndD (f g : Sl → Sto → Res Bool) : Sl → Sto → Res Bool := fun sd S => (f sd S).bind fun b S1 => if b then g sd S1 else .ok false S1
def tOrD (f g : Sl → Sto → Res Bool) : Sl → Sto → Res Bool := fun sd S => (f sd S).bind fun b S1 => if b then .ok true S1 else g sd S1
def tNotD (f : Sl → Sto → Res Bool) : Sl → Sto → Res Bool := fun sd S => (f sd S).bind fun b S1 => .ok (!b) S1
def dAnd (f g : Sl → Sto → Res D) : Sl → Sto → Res D := fun sd S => (f sd S).bind fun d S1 => match d with
  | .bl true => g sd S1
  | .bl false => .ok (.bl false) S1
  | _ => .stuck
def dOr (f g : Sl → Sto → Res D) : Sl → Sto → Res D := fun sd S => (f sd S).bind fun d S1 => match d with
  | .bl true => .ok (.bl true) S1
  | .bl false => g sd S1
  | _ => .stuck
def dNot (f : Sl → Sto → Res D) : Sl → Sto → Res D := fun sd S => (f sd S).bind fun d S1 => match d with
  | .bl b => .ok (.bl (!b)) S1
  | _ => .stuck
def dIf (c : Sl → Sto → Res Bool) (f g : Sl → Sto → Res D) : Sl → Sto → Res D := fun sd S => (c sd S).bind fun b S1 => if b then f sd S1 else g sd S1
def dNeg (f : Sl → Sto → Res D) : Sl → Sto → Res D := fun sd S => (f sd S).bind fun d S1 => match d with
  | .int i => .ok (.int (-i)) S1
  | _ => .stuck
section
variable {cl : Nat → Addr} {X : Cx} {E : XK} {a b c : Expr} {rest : List Expr} {fa fb fc : Sl → Sto → Res D} {ga gb gc : Sl → Sto → Res Bool} {pos : Pos}
theorem dt_val (ha : DE cl X E a fa) (he : ∀ whole, isTrue a X.env whole = (do let v ← whole; standAt a.pos; holding [v] (truthy v)) := by intro _; rfl) : DT cl X E a (tstB fa) := by
  obtain ⟨ta, pa, ha⟩ := ha
  refine ⟨_, pt_val pa he, fun m S H sd σ Q rs rl h => ?_⟩
  refine ha m S H sd σ _ rs rl (Post.bind h fun x S1 m1 vx H1 x1 k1 rs1 rx h1 => ?_)
  cases x with
  | bl k => exact ⟨k, rx, h1.here rs1 rfl⟩
  | _ => exact h1.elim
theorem dt_bool (h : DW cl X E a ga) : DT cl X E a ga := by
  obtain ⟨t, p, h⟩ := h
  exact ⟨t, p.pt, h⟩
theorem dw_and1 (ha : DT cl X E a ga) : DW cl X E (.BoolOp .And [a] pos) ga := by
  obtain ⟨t, p, h⟩ := ha
  exact ⟨t, pw_and1 p, h⟩
theorem dw_or1 (ha : DT cl X E a ga) : DW cl X E (.BoolOp .Or [a] pos) ga := by
  obtain ⟨t, p, h⟩ := ha
  exact ⟨t, pw_or1 p, h⟩
theorem dw_and (ha : DT cl X E a ga) (hb : DW cl X E (.BoolOp .And (b :: rest) pos) gb) : DW cl X E (.BoolOp .And (a :: b :: rest) pos) (tAndD ga gb) := by
  obtain ⟨t, p, ha⟩ := ha
  obtain ⟨u, q, hb⟩ := hb
  refine ⟨_, pw_and p q, fun m S H sd σ Q rs rl h => ?_⟩
  refine ha m S H sd σ _ rs rl (Post.bind h fun x S1 m1 vx H1 x1 k1 rs1 rx h1 => ?_)
  cases rx
  cases x with
  | true => exact iteT (hb m1 S1 H1 sd σ _ rs1 (rl.mono x1 k1) h1)
  | false => exact iteF (h1.here rs1 rfl)
theorem dw_or (ha : DT cl X E a ga) (hb : DW cl X E (.BoolOp .Or (b :: rest) pos) gb) : DW cl X E (.BoolOp .Or (a :: b :: rest) pos) (tOrD ga gb) := by
  obtain ⟨t, p, ha⟩ := ha
  obtain ⟨u, q, hb⟩ := hb
  refine ⟨_, pw_or p q, fun m S H sd σ Q rs rl h => ?_⟩
  refine ha m S H sd σ _ rs rl (Post.bind h fun x S1 m1 vx H1 x1 k1 rs1 rx h1 => ?_)
  cases rx
  cases x with
  | true => exact iteT (h1.here rs1 rfl)
  | false => exact iteF (hb m1 S1 H1 sd σ _ rs1 (rl.mono x1 k1) h1)
theorem dt_not (ha : DT cl X E a ga) : DT cl X E (.UnaryOp .Not a pos) (tNotD ga) := by
  obtain ⟨t, p, ha⟩ := ha
  refine ⟨_, pt_not p, fun m S H sd σ Q rs rl h => ?_⟩
  refine ha m S H sd σ _ rs rl (Post.bind h fun x S1 m1 vx H1 x1 k1 rs1 rx h1 => ?_)
  cases rx
  exact h1.here rs1 rfl
theorem de_one {op} (ha : DE cl X E a fa) : DE cl X E (.BoolOp op [a] pos) fa := by
  obtain ⟨t, p, ha⟩ := ha
  exact ⟨t, pe_one p, ha⟩
theorem de_and (ha : DE cl X E a fa) (hb : DE cl X E (.BoolOp .And (b :: rest) pos) fb) : DE cl X E (.BoolOp .And (a :: b :: rest) pos) (dAnd fa fb) := by
  obtain ⟨t, p, ha⟩ := ha
  obtain ⟨u, q, hb⟩ := hb
  refine ⟨_, pe_and p q, fun m S H sd σ Q rs rl h => ?_⟩
  refine ha m S H sd σ _ rs rl (Post.bind h fun x S1 m1 vx H1 x1 k1 rs1 rx h1 => ?_)
  cases x with
  | bl k =>
    refine ⟨k, rx, ?_⟩
    cases k with
    | true => exact iteT (hb m1 S1 H1 sd σ _ rs1 (rl.mono x1 k1) h1)
    | false => exact iteF (h1.here rs1 rfl)
  | _ => exact h1.elim
theorem de_or (ha : DE cl X E a fa) (hb : DE cl X E (.BoolOp .Or (b :: rest) pos) fb) : DE cl X E (.BoolOp .Or (a :: b :: rest) pos) (dOr fa fb) := by
  obtain ⟨t, p, ha⟩ := ha
  obtain ⟨u, q, hb⟩ := hb
  refine ⟨_, pe_or p q, fun m S H sd σ Q rs rl h => ?_⟩
  refine ha m S H sd σ _ rs rl (Post.bind h fun x S1 m1 vx H1 x1 k1 rs1 rx h1 => ?_)
  cases x with
  | bl k =>
    refine ⟨k, rx, ?_⟩
    cases k with
    | true => exact iteT (h1.here rs1 rfl)
    | false => exact iteF (hb m1 S1 H1 sd σ _ rs1 (rl.mono x1 k1) h1)
  | _ => exact h1.elim
theorem de_not (ha : DE cl X E a fa) : DE cl X E (.UnaryOp .Not a pos) (dNot fa) := by
  obtain ⟨t, p, ha⟩ := ha
  refine ⟨_, pe_not p, fun m S H sd σ Q rs rl h => ?_⟩
  refine ha m S H sd σ _ rs rl (Post.bind h fun x S1 m1 vx H1 x1 k1 rs1 rx h1 => ?_)
  cases x with
  | bl k => exact ⟨k, rx, h1.here rs1 rfl⟩
  | _ => exact h1.elim
theorem de_neg (ha : DE cl X E a fa) : DE cl X E (.UnaryOp .USub a pos) (dNeg fa) := by
  obtain ⟨t, p, ha⟩ := ha
  refine ⟨_, pe_un un_neg p, fun m S H sd σ Q rs rl h => ?_⟩
  refine ha m S H sd σ _ rs rl (Post.bind h fun x S1 m1 vx H1 x1 k1 rs1 rx h1 => ?_)
  cases x with
  | int k => exact ⟨k, rx, h1.here rs1 rfl⟩
  | _ => exact h1.elim
theorem de_if (hc : DT cl X E c gc) (ha : DE cl X E a fa) (hb : DE cl X E b fb) : DE cl X E (.IfExp c a b pos) (dIf gc fa fb) := by
  obtain ⟨tc, pc, hc⟩ := hc
  obtain ⟨t, p, ha⟩ := ha
  obtain ⟨u, q, hb⟩ := hb
  refine ⟨_, pe_ifExp pc p q, fun m S H sd σ Q rs rl h => ?_⟩
  refine hc m S H sd σ _ rs rl (Post.bind h fun x S1 m1 vx H1 x1 k1 rs1 rx h1 => ?_)
  cases rx
  cases x with
  | true => exact iteT (ha m1 S1 H1 sd σ _ rs1 (rl.mono x1 k1) h1)
  | false => exact iteF (hb m1 S1 H1 sd σ _ rs1 (rl.mono x1 k1) h1)
/-- two ways for one expression -/
theorem de_two {e : Expr} {f1 f2 f : Sl → Sto → Res D} (h1 : DE cl X E e f1) (h2 : DE cl X E e f2) (hf : ∀ sd S, f sd S = f1 sd S ∨ f sd S = f2 sd S) : DE cl X E e f := by
  obtain ⟨t, p, h1⟩ := h1
  obtain ⟨u, q, h2⟩ := h2
  refine ⟨fun σ H Q => t σ H Q ∨ u σ H Q, ⟨fun pins s σ H Q I hw => ?_⟩, fun m S H sd σ Q rs rl h => ?_⟩
  · rcases hw with hw | hw
    · exact p.run pins s σ H Q I hw
    · exact q.run pins s σ H Q I hw
  · rcases hf sd S with e | e
    · rw [e] at h; exact .inl (h1 m S H sd σ Q rs rl h)
    · rw [e] at h; exact .inr (h2 m S H sd σ Q rs rl h)
end

/-! ### statements -/
def sNext : Sl → Sto → Res Fl := fun sd S => .ok (.nx sd) S
def sSeq (f g : Sl → Sto → Res Fl) : Sl → Sto → Res Fl := fun sd S => (f sd S).bind fun fl S1 => match fl with
  | .nx sd1 => g sd1 S1
  | r => .ok r S1
def sIf (c : Sl → Sto → Res Bool) (f g : Sl → Sto → Res Fl) : Sl → Sto → Res Fl := fun sd S => (c sd S).bind fun b S1 => if b then f sd S1 else g sd S1
def sRet (f : Sl → Sto → Res D) : Sl → Sto → Res Fl := fun sd S => (f sd S).bind fun d S1 => .ok (.ret d) S1
def sExpr (f : Sl → Sto → Res D) : Sl → Sto → Res Fl := fun sd S => (f sd S).bind fun _ S1 => .ok (.nx sd) S1
def sAsg (f : Sl → Sto → Res D) (g : D → Sl → Sto → Res Sl) : Sl → Sto → Res Fl := fun sd S => (f sd S).bind fun d S1 => (g d sd S1).bind fun sd1 S2 => .ok (.nx sd1) S2
def gVar (i : Nat) : D → Sl → Sto → Res Sl := fun d sd S => .ok (sd.set i (some d)) S
section
variable {cl : Nat → Addr} {X : Cx} {E : XK} {a b c e : Expr} {st : Stmt} {sts sts' : List Stmt} {fa fb fc : Sl → Sto → Res D} {gc : Sl → Sto → Res Bool} {f g : Sl → Sto → Res Fl} {pos : Pos}
theorem dss_nil : DSs cl X E [] sNext := ⟨_, pss_nil, fun m S H sd σ D rs rl h => h.toNx rs rl⟩
theorem dss_cons (h1 : DS cl X E st f) (h2 : DSs cl X E sts g) : DSs cl X E (st :: sts) (sSeq f g) := by
  obtain ⟨t, p, h1⟩ := h1
  obtain ⟨u, q, h2⟩ := h2
  refine ⟨_, pss_cons p q, fun m S H sd σ D rs rl h => ?_⟩
  refine h1 m S H sd σ { D with nx := u D } rs rl (Post.bind h fun fl S1 m1 v H1 x1 k1 rs1 rv h3 => ?_)
  cases fl with
  | nx sd1 =>
    cases v with
    | nx σ1 => exact h2 m1 S1 H1 sd1 σ1 D rs1 rv h3
    | _ => exact rv.elim
  | ret d =>
    cases v with
    | ret w => exact h3.toRt rs1 rv
    | _ => exact rv.elim
  | brk sd1 =>
    cases v with
    | brk σ1 => exact h3.toBk rs1 rv
    | _ => exact rv.elim
  | cnt sd1 =>
    cases v with
    | cnt σ1 => exact h3.toCt rs1 rv
    | _ => exact rv.elim
theorem dss_one (h1 : DS cl X E st f) : DSs cl X E [st] f := by
  obtain ⟨t, p, h1⟩ := h1
  exact ⟨_, pss_one p, h1⟩
theorem ds_pass : DS cl X E (.Pass pos) sNext := ⟨_, ps_pass, fun m S H sd σ D rs rl h => h.toNx rs rl⟩
def sBrk : Sl → Sto → Res Fl := fun sd S => .ok (.brk sd) S
theorem ds_break : DS cl X E (.Break pos) sBrk := ⟨_, ps_break, fun m S H sd σ D rs rl h => h.toBk rs rl⟩
theorem ds_if (hc : DT cl X E c gc) (ha : DSs cl X E sts f) (hb : DSs cl X E sts' g) : DS cl X E (.If c sts sts' pos) (sIf gc f g) := by
  obtain ⟨tc, pc, hc⟩ := hc
  obtain ⟨t, p, ha⟩ := ha
  obtain ⟨u, q, hb⟩ := hb
  refine ⟨_, ps_if pc p q, fun m S H sd σ D rs rl h => ?_⟩
  refine hc m S H sd σ _ rs rl (Post.bind h fun x S1 m1 vx H1 x1 k1 rs1 rx h1 => ?_)
  cases rx
  cases x with
  | true => exact iteT (ha m1 S1 H1 sd σ _ rs1 (rl.mono x1 k1) h1)
  | false => exact iteF (hb m1 S1 H1 sd σ _ rs1 (rl.mono x1 k1) h1)
theorem ds_ret (he : DE cl X E e fa) : DS cl X E (.Return (some e) pos) (sRet fa) := by
  obtain ⟨t, p, he⟩ := he
  refine ⟨_, ps_ret p, fun m S H sd σ D rs rl h => ?_⟩
  refine he m S H sd σ _ rs rl (Post.bind h fun x S1 m1 vx H1 x1 k1 rs1 rx h1 => ?_)
  exact h1.toRt rs1 rx
theorem ds_expr (he : DE cl X E e fa) (hs : swapsWith e none pos.line X.env = pure false := by rfl) : DS cl X E (.Expr e pos) (sExpr fa) := by
  obtain ⟨t, p, he⟩ := he
  refine ⟨_, ps_expr p hs, fun m S H sd σ D rs rl h => ?_⟩
  refine he m S H sd σ _ rs rl (Post.bind h fun x S1 m1 vx H1 x1 k1 rs1 rx h1 => ?_)
  exact h1.toNx rs1 (rl.mono x1 k1)
theorem ds_set {i : Nat} {x : Str} {pos' : Pos} (hN : X.N.Nodup) (hi : X.N[i]? = some x) (hx : Loc X.env.scope x) (he : DE cl X E e fa) (hs : swapsWith e (some (.Name x pos')) pos.line X.env = pure false := by rfl) (hf : X.fn x = true ∨ X.env.scope.names.lookup x = some .local := by first | exact .inl rfl | exact .inr rfl | assumption) :
    DS cl X E (.Assign [.Name x pos'] e pos) (sAsg fa (gVar i)) := by
  obtain ⟨t, p, he⟩ := he
  refine ⟨_, ps_set hN hi hx p hs hf, fun m S H sd σ D rs rl h => ?_⟩
  refine he m S H sd σ _ rs rl (Post.bind h fun y S1 m1 vx H1 x1 k1 rs1 rx h1 => ?_)
  exact h1.toNx rs1 ((rl.mono x1 k1).set i rx)
theorem dg_name {i : Nat} {x : Str} (hN : X.N.Nodup) (hi : X.N[i]? = some x) (hx : Loc X.env.scope x) (hf : X.fn x = true ∨ X.env.scope.names.lookup x = some .local := by first | exact .inl rfl | exact .inr rfl | assumption) : DG cl X E (.Name x pos) (gVar i) := by
  refine ⟨_, pg_name hN hi hx hf, fun m S H sd σ d v Q rs rl rv h => ?_⟩
  exact h.here rs (rl.set i rv)
def gsNil : List D → Sl → Sto → Res Sl := fun ds sd S => match ds with
  | [] => .ok sd S
  | _ => .stuck
def gsCons (g : D → Sl → Sto → Res Sl) (k : List D → Sl → Sto → Res Sl) : List D → Sl → Sto → Res Sl := fun ds sd S => match ds with
  | d :: r => (g d sd S).bind fun sd1 S1 => k r sd1 S1
  | _ => .stuck
theorem dgs_nil : DGs cl X E [] gsNil := by
  refine ⟨_, pgs_nil, fun m S H sd σ ds vs Q rs rl rv h => ?_⟩
  cases ds with
  | nil => exact ⟨rv, h.here rs rl⟩
  | cons _ _ => exact h.elim
theorem dgs_cons {e : Expr} {es : List Expr} {g k} (h1 : DG cl X E e g) (h2 : DGs cl X E es k) (hs : (assignEach (e :: es) X.env).map (·.2) = assign e X.env :: (assignEach es X.env).map (·.2) := by rfl) : DGs cl X E (e :: es) (gsCons g k) := by
  obtain ⟨t, p, h1⟩ := h1
  obtain ⟨u, q, h2⟩ := h2
  refine ⟨_, pgs_cons p q hs, fun m S H sd σ ds vs Q rs rl rv h => ?_⟩
  cases ds with
  | nil => exact h.elim
  | cons d r =>
    obtain ⟨v, vr, rfl, r1, r2⟩ := rv
    refine ⟨v, vr, rfl, ?_⟩
    refine h1 m S H sd σ d v _ rs rl r1 (Post.bind h fun sd1 S1 m1 σ1 H1 x1 k1 rs1 rl1 h3 => ?_)
    exact h2 m1 S1 H1 sd1 σ1 r vr Q rs1 rl1 (r2.mono x1 k1) h3
def gTupD (n : Nat) (k : List D → Sl → Sto → Res Sl) : D → Sl → Sto → Res Sl := fun d sd S => match d with
  | .tup ds => if ds.length = n then k ds sd S else .stuck
  | .ref l => match S[l]? with
    | some (.lst ds) => if ds.length = n then k ds sd S else .stuck
    | _ => .stuck
  | _ => .stuck
theorem PG.or {tg : Expr} {t u : TG} (h : PG X tg t) (h' : PG X tg u) : PG X tg (fun v σ H Q => t v σ H Q ∨ u v σ H Q) :=
  ⟨fun pins s σ H v w Q I r hw => hw.elim (fun z => h.run pins s σ H v w Q I r z) (fun z => h'.run pins s σ H v w Q I r z)⟩
theorem dg_tup {es : List Expr} {k : Nat} {t} {n : Nat} (hc : X.calm = true) (h : DGs cl X E es t)
    (hn : (assignEach es X.env).length = n := by rfl) (hst : (assignEach es X.env).findIdx? (·.1) = none := by rfl) : DG cl X E (.Tuple es k pos) (gTupD n t) := by
  obtain ⟨u, q, h⟩ := h
  refine ⟨_, PG.or (pg_tup hc q hn hst) (pg_unl hc q hn hst), fun m S H sd σ d v Q rs rl rv hh => ?_⟩
  unfold gTupD at hh
  split at hh
  · rename_i ds
    split at hh
    · rename_i hl
      obtain ⟨a, vs, rfl, s1, r1⟩ := rv
      exact .inl ⟨a, vs, rfl, s1, by rw [← r1.length]; exact hl, h m S H sd σ ds vs Q rs rl r1 hh⟩
    · exact hh.elim
  · rename_i l
    split at hh
    · rename_i ds e1
      split at hh
      · rename_i hl
        obtain ⟨a, h1, vs, hv, r1⟩ := rs.adr e1
        obtain ⟨a', h1', rfl⟩ := rv
        rw [h1] at h1'; cases h1'
        exact .inr ⟨a, vs, rfl, SqL.of hv, by rw [← r1.length]; exact hl, h m S H sd σ ds vs Q rs rl r1 hh⟩
      · exact hh.elim
    · exact hh.elim
  · exact hh.elim
theorem ds_asg {tg : Expr} {g} (he : DE cl X E e fa) (hg : DG cl X E tg g) (hs : swapsWithSole [tg] e pos.line X.env = pure false := by rfl) (hw : swappedStores [tg] e X.env = pure none := by rfl)
    (h1 : (assignEach [tg] X.env).map (·.2) = [assign tg X.env] := by rfl) : DS cl X E (.Assign [tg] e pos) (sAsg fa g) := by
  obtain ⟨t, p, he⟩ := he
  obtain ⟨u, q, hg⟩ := hg
  refine ⟨_, ps_asg p q hs hw h1, fun m S H sd σ D rs rl h => ?_⟩
  refine he m S H sd σ _ rs rl (Post.bind h fun y S1 m1 vx H1 x1 k1 rs1 rx h2 => ?_)
  refine hg m1 S1 H1 sd σ y vx _ rs1 (rl.mono x1 k1) rx (Post.bind h2 fun sd1 S2 m2 σ2 H2 x2 k2 rs2 rl2 h3 => ?_)
  exact h3.toNx rs2 rl2
/-- a, b = x, y -/
def sPar (i j : Nat) (f : Sl → Sto → Res (List D)) : Sl → Sto → Res Fl := fun sd S => (f sd S).bind fun ds S1 => match ds with
  | [x, y] => .ok (.nx ((sd.set i (some x)).set j (some y))) S1
  | _ => .stuck
theorem ds_never : DS cl X E st (fun _ _ => .stuck) := ⟨_, ps_never, fun m S H sd σ D rs rl h => h⟩
end
end DL

namespace DL
open PySem PySem.Spec PyProof.Rows L2
/-! ### what is walked: a list, a tuple, a text; enumerate and zip of them -/
inductive Sk where
  | l (a : Addr) | t (a : Addr) | s (z : Str)
def Sk.v : Sk → V
  | .l a => .ref a
  | .t a => .ref a
  | .s z => .str z
def signs (z : Str) : List V := z.cps.toList.map fun c => V.str ⟨#[c]⟩
def Sk.Rd (K : PySem.W.Frag) (H : Hp) : Sk → List V → Prop
  | .l a, xs => SqL K H a xs
  | .t a, xs => SqT K H a xs
  | .s z, xs => xs = signs z
def Sk.It : Sk → Addr → Nat → Heap → Prop
  | .l a, it, i, h => h.IsListIter it a i
  | .t a, it, i, h => h.IsTupleIter it a i
  | .s z, it, i, h => ∃ t, h.IsStrIter it (strIterType z) z t i
section
variable {X : Cx} {pins : List (Addr × Obj)} {σ : L2.St} {H : Hp} {s : Shared} {k : Sk} {xs ys : List V} {it b a : Addr} {i : Nat}
theorem Sk.inj (I : Inv X pins σ H s) (h : k.Rd X.K H xs) (h' : k.Rd X.K H ys) : xs = ys := by
  cases k with
  | l a => exact I.list_inj h h'
  | t a => exact I.tuple_inj h h'
  | s z => exact Eq.trans h (Eq.symm h')
theorem Sk.It.keep {h h' : Heap} (x : k.It it i h) (hk : ∀ o, h.get? it = some o → h'.get? it = some o) : k.It it i h' := by
  cases k with
  | l a => obtain ⟨o, e, r⟩ := x; exact ⟨o, hk o e, r⟩
  | t a => obtain ⟨o, e, r⟩ := x; exact ⟨o, hk o e, r⟩
  | s z => obtain ⟨t, o, e, r⟩ := x; exact ⟨t, o, hk o e, r⟩
theorem Sk.It.obj {h : Heap} (x : k.It it i h) : ∃ o, h.get? it = some o ∧ ∀ v, o.data ≠ .cell v := by
  cases k with
  | l a => obtain ⟨o, e, _, r⟩ := x; exact ⟨o, e, fun v q => by rw [r] at q; cases q⟩
  | t a => obtain ⟨o, e, _, r⟩ := x; exact ⟨o, e, fun v q => by rw [r] at q; cases q⟩
  | s z => obtain ⟨t, o, e, _, r⟩ := x; exact ⟨o, e, fun v q => by rw [r] at q; cases q⟩
theorem fp_neL (I : Inv X pins σ H s) (f : FpOk X pins H b) (h : SqL X.K H a xs) : b ≠ a := by
  rintro rfl
  obtain ⟨f0, f1, f2, f3, f4, f5⟩ := f
  rcases h with (h | ⟨o, h⟩) | ⟨o, its, n, hk, _⟩
  · rw [f0] at h; cases h
  · rw [f0] at h; cases h
  · have e := I.mod.kin _ _ hk
    rcases f3 with f3 | f3
    · exact I.ok.noex _ _ e f3
    · exact absurd (Nat.lt_of_lt_of_le (Heap.lt_size e) (Nat.le_trans I.ok.bsz f3)) (Nat.lt_irrefl _)
theorem fp_neT (I : Inv X pins σ H s) (f : FpOk X pins H b) (h : SqT X.K H a xs) : b ≠ a := by
  rintro rfl
  obtain ⟨f0, f1, f2, f3, f4, f5⟩ := f
  rcases h with (h | ⟨o, h⟩) | ⟨o, its, n, hk, _⟩
  · rw [f0] at h; cases h
  · rw [f0] at h; cases h
  · have e := I.mod.kin _ _ hk
    rcases f3 with f3 | f3
    · exact I.ok.noex _ _ e f3
    · exact absurd (Nat.lt_of_lt_of_le (Heap.lt_size e) (Nat.le_trans I.ok.bsz f3)) (Nat.lt_irrefl _)
theorem draws_imp {prog : Program} {w : World} {A : Around} {fp : List Addr} {n : Nat} {P P' : Nat → Value → Prop} {St : Nat → Heap → Prop} (D : Draws prog w A it fp n P St) (h : ∀ i v, P i v → P' i v) : Draws prog w A it fp n P' St :=
  ⟨D.live, D.frame, fun i s Q E hi st hQ => D.item i s Q E hi st fun x h' tk p => hQ x h' tk (h i x p), D.done⟩
/-- what an iterator of it draws -/
theorem Sk.draws (I : Inv X pins σ H s) (hc : X.calm = true) (hr : k.Rd X.K H xs) (hit : k.It it i s.heap) (f : FpOk X pins H it) :
    ∃ (fp : List Addr) (St : Nat → Heap → Prop), Draws X.prog X.w X.A.in1 it fp xs.length (fun j v => ∃ x, xs[j]? = some x ∧ RelV x v) St ∧ St i s.heap ∧ (∀ j h', St j h' → k.It it j h') ∧ it ∈ fp ∧ ∀ b, FpOk X pins H b → b ≠ it → b ∉ fp := by
  have hh : X.A.in1.handled = none := I.ok.hd hc
  cases k with
  | l a =>
    obtain ⟨its, rv, p, hz⟩ := I.list hr
    have hne : a ≠ it := fun e => fp_neL I f hr e.symm
    have e : its.toArray.size = xs.length := by simp [rv.length]
    refine ⟨[it, a], _, draws_imp (e ▸ Draws.list (prog := X.prog) (w := X.w) hh it a hne its.toArray) ?_, ⟨hit, p.isList⟩, fun j h' st => st.1, by simp, fun b fb hb => ?_⟩
    · intro j v hv
      have hv' : its[j]? = some v := by simpa using hv
      have hj : j < xs.length := by rw [rv.length]; exact (List.getElem?_eq_some_iff.mp hv').1
      obtain ⟨u, hu, ru⟩ := rv.get (i := j) (x := xs[j]) (by simp [hj])
      rw [hv'] at hu; cases hu
      exact ⟨_, by simp [hj], ru⟩
    · have := fp_neL I fb hr
      simp [hb, this]
  | t a =>
    obtain ⟨its, rv, p, hz⟩ := I.tuple hr
    have hne : a ≠ it := fun e => fp_neT I f hr e.symm
    have e : its.toArray.size = xs.length := by simp [rv.length]
    refine ⟨[it, a], _, draws_imp (e ▸ Draws.tuple (prog := X.prog) (w := X.w) hh it a hne its.toArray) ?_, ⟨hit, p⟩, fun j h' st => st.1, by simp, fun b fb hb => ?_⟩
    · intro j v hv
      have hv' : its[j]? = some v := by simpa using hv
      have hj : j < xs.length := by rw [rv.length]; exact (List.getElem?_eq_some_iff.mp hv').1
      obtain ⟨u, hu, ru⟩ := rv.get (i := j) (x := xs[j]) (by simp [hj])
      rw [hv'] at hu; cases hu
      exact ⟨_, by simp [hj], ru⟩
    · have := fp_neT I fb hr
      simp [hb, this]
  | s z =>
    obtain ⟨t, hit⟩ := hit
    have hr' : xs = signs z := hr
    have e : z.cps.size = xs.length := by rw [hr']; simp [signs]
    refine ⟨[it], _, draws_imp (e ▸ Draws.text (prog := X.prog) (w := X.w) hh it z t) ?_, hit, fun j h' st => ⟨t, st⟩, by simp, fun b fb hb => by simp [hb]⟩
    rintro j v ⟨c, u, hc', rfl⟩
    refine ⟨.str ⟨#[c]⟩, ?_, u, rfl⟩
    rw [hr']
    unfold signs
    rw [List.getElem?_map, Array.getElem?_toList, hc']
    rfl
end
theorem meets_enumerate_newB1 {v : Value} {o : Obj} {H : Heap → Prop} (B : Begins v o H) :
    Meets (Builtin.«enumerate.__new__» ⟨[.type "enumerate", v], []⟩) (fun _ R s => H s.heap ∧
      R (.ok (.ret (.ref (s.heap.push o).objs.size))) { s with heap := (s.heap.push o).push { cls := .type "enumerate", data := .fields #[.none, .bool false, .ref s.heap.objs.size, rawInt 0, .none, .none] } }) :=
  .of_wp fun prog w A R s h => by
    obtain ⟨hp, g, d, tk, os⟩ := s; obtain ⟨h1, h⟩ := h
    have hsub := sub_enumerate
    have q1 : ∀ {A' : Around} {E : Value → Shared → Prop} {Q : Value → Shared → Prop}, Q (.ref hp.objs.size) ⟨hp.push o, g, d, tk, os⟩ → wpAny (model prog w) A' (pyIter v) Q E ⟨hp, g, d, tk, os⟩ :=
      fun q => B.iter prog w _ _ ⟨hp, g, d, tk, os⟩ _ h1 q
    wp_walk using q1
    refine wpAny_stack_any fun st => wpAny_pure ?_
    split
    · rename_i c _ _ _ _ _
      cases (c == Value.type "enumerate")
      · wp_walk using q1
        exact ⟨_, rfl, h⟩
      · wp_walk using q1
        exact ⟨_, rfl, h⟩
    · wp_walk using q1
      exact ⟨_, rfl, h⟩
theorem enum_begins1 {prog : Program} {w : World} {A : Around} {E : Value → Shared → Prop} {s : Shared} {v : Value} {o : Obj} {H : Heap → Prop} {Q : Value → Shared → Prop} (B : Begins v o H) (h1 : H s.heap)
    (h : ∀ h', IsEnum h' (s.heap.objs.size + 1) s.heap.objs.size 0 .none → h'.get? s.heap.objs.size = some o → h'.objs.size = s.heap.objs.size + 2 →
      (∀ b o, s.heap.get? b = some o → h'.get? b = some o) → Q (.ref (s.heap.objs.size + 1)) { s with heap := h' }) :
    wpAny (model prog w) A (call (.type "enumerate") [v]) Q E s := by
  refine callType_new F.called_enumerate (by decide) (F.typeCall_enumerate_1 _) (F.newCall_enumerate_1 _) (fun obj => F.args_object_init_2 obj _) F.entry_enumerate_new
    (meets_enumerate_newB1 B) ⟨h1, ?_⟩
  have hz : (s.heap.push o).objs.size = s.heap.objs.size + 1 := Heap.size_push ..
  show _ ∧ _
  rw [hz]
  have he : IsEnum ((s.heap.push o).push { cls := .type "enumerate", data := .fields #[.none, .bool false, .ref s.heap.objs.size, rawInt 0, .none, .none] }) (s.heap.objs.size + 1) s.heap.objs.size 0 .none := by
    have := Heap.get?_push_size (s.heap.push o) (o := { cls := .type "enumerate", data := .fields #[.none, .bool false, .ref s.heap.objs.size, rawInt 0, .none, .none] }) rfl
    rw [hz] at this; exact this
  refine ⟨⟨_, he, rfl⟩, h _ he (Heap.get?_push_of_some _ (Heap.get?_push_size _ B.free)) (by rw [Heap.size_push, hz]) fun b o x => Heap.get?_push_of_some _ (Heap.get?_push_of_some _ x)⟩
/-- how an iterator of it begins -/
theorem Sk.begins {X : Cx} {pins : List (Addr × Obj)} {σ : L2.St} {H : Hp} {s : Shared} {k : Sk} {xs : List V} {u : Value} (I : Inv X pins σ H s) (hr : k.Rd X.K H xs) (ru : RelV k.v u) :
    ∃ (o : Obj) (G : Heap → Prop), Begins u o G ∧ G s.heap ∧ ∀ h' it, h'.get? it = some o → k.It it 0 h' := by
  cases k with
  | l a =>
    obtain ⟨its, rv, p, hz⟩ := I.list hr
    cases ru
    exact ⟨_, _, begins_list a its.toArray, p.isList, fun h' it e => ⟨_, e, rfl, rfl⟩⟩
  | t a =>
    obtain ⟨its, rv, p, hz⟩ := I.tuple hr
    cases ru
    exact ⟨_, _, begins_tuple a its.toArray, p, fun h' it e => ⟨_, e, rfl, rfl⟩⟩
  | s z =>
    obtain ⟨t, rfl⟩ := ru
    exact ⟨_, _, begins_text z t, trivial, fun h' it e => ⟨t, _, e, rfl, rfl⟩⟩
def IteS (K : PySem.W.Frag) (k : Sk) : It :=
  ⟨fun i H => ∃ (xs : List V) (x : V), k.Rd K H xs ∧ xs[i]? = some x, fun i H v H' => ∃ T x, v = .ref T ∧ H T = none ∧ H' = upd H T (.tup [.int (i : Nat), x]) ∧ ∀ xs, k.Rd K H xs → xs[i]? = some x, fun i H => ∃ xs : List V, k.Rd K H xs ∧ xs.length = i⟩
theorem turn_enumS {P : Program} {w : World} {K : PySem.W.Frag} {elts : List Expr} {kk : Nat} {tpos : Pos} (k : Sk) (e it : Addr) :
    Turn P w K (.Tuple elts kk tpos) (IteS K k) [e, it] e (fun i h => (∃ old, IsEnum h e it ((i : Nat) : Int) old) ∧ k.It it i h ∧ e ≠ it) where
  mem := by simp
  obj := fun i h st b hb => by
    obtain ⟨⟨old, he⟩, hi, _⟩ := st
    have e' : b = e ∨ b = it := by simpa using hb
    rcases e' with z | z
    · rw [z]; exact ⟨_, he, fun v q => nomatch q⟩
    · rw [z]; exact hi.obj
  keep := fun i h h' st kk => let ⟨⟨old, he⟩, hi, hne⟩ := st; ⟨⟨old, kk e (by simp) _ he⟩, hi.keep fun o q => kk it (by simp) o q, hne⟩
  item := by
    intro X hP hw hK hc i pins s σ H E I hf st hg
    subst hP hw hK
    obtain ⟨⟨old, he⟩, hit, hne⟩ := st
    obtain ⟨xs, x, hq, hx⟩ := hg
    obtain ⟨fp, St, D, st0, back, hm, hout⟩ := Sk.draws I hc hq hit (hf it (by simp))
    have hel : e < s.heap.objs.size := Heap.lt_size he
    have hil : it < s.heap.objs.size := by obtain ⟨_, q, _⟩ := hit.obj; exact Heap.lt_size q
    have hlt : i < xs.length := (List.getElem?_eq_some_iff.mp hx).1
    refine wpAny_pyNext_enum_itemC D he st0 hlt hne (hout e (hf e (by simp)) hne) fun u h' tk hP ho hst' hT hsz hk => ?_
    obtain ⟨x', hx', ru⟩ := hP
    rw [hx] at hx'; cases hx'
    refine ⟨_, rfl, wpAny_letOwnedTupleGo_enum (s := { s with heap := h', toks := tk + 1 }) ho fun h'' he' sb => ?_⟩
    have hT2 : h''.get? s.heap.objs.size = some { cls := .type "tuple", data := .seq #[.int i tk, u] } := (sb.2 _ (Nat.ne_of_gt hel)).trans hT
    have new : ObjOk X.prog X.w (upd H s.heap.objs.size (.tup [.int (i : Nat), x])) h'' s.heap.objs.size (.tup [.int (i : Nat), x]) :=
      ⟨by show 2 ≤ sizeLine; decide, [.int i tk, u], .cons ⟨_, rfl⟩ (.cons ru .nil), ⟨_, hT2, rfl, _, rfl⟩⟩
    have I1 : Inv X pins σ (upd H s.heap.objs.size (.tup [.int (i : Nat), x])) { s with heap := h'', toks := tk + 1 } :=
      I.turnedNew (ch := [e, it]) (fun b ob hb q => (sb.2 b (fun z => hb (by simp [z]))).trans (hk b ob (fun z => hb (by simp [z])) (fun z => hb (by simp [z])) q)) hf (Nat.le_refl _) new
    refine ⟨.ref s.heap.objs.size, _, I1, rfl, ⟨_, x, rfl, I.hok.fresh (Nat.le_refl _), rfl, fun ys hy => by rw [Sk.inj I hy hq]; exact hx⟩, ⟨⟨u, ?_⟩, (back _ _ hst').keep fun o q => (sb.2 it (Ne.symm hne)).trans q, hne⟩, fun b hb => ?_⟩
    · have e1 : ((i + 1 : Nat) : Int) = (i : Int) + 1 := by omega
      rw [e1]; exact he'
    · have hb' : b < s.heap.objs.size := by
        have e' : b = e ∨ b = it := by simpa using hb
        rcases e' with z | z
        · rw [z]; exact hel
        · rw [z]; exact hil
      rw [upd_ne (Nat.ne_of_lt hb')]
      exact (hf b hb).1
  done := by
    intro X hP hw hK hc i pins s σ H E I hf st hg
    subst hP hw hK
    obtain ⟨⟨old, he⟩, hit, hne⟩ := st
    obtain ⟨xs, hq, hx⟩ := hg
    obtain ⟨fp, St, D, st0, back, hm, hout⟩ := Sk.draws I hc hq hit (hf it (by simp))
    obtain ⟨f0, f1, f2, f3, f4, f5⟩ := hf it (by simp)
    subst hx
    exact wpAny_pyNext_enum_endD D he st0 fun h' eb => ⟨rfl, I.turned (t' := s.toks) (fun b o hb q => eb b o hb q) f0 f1 f3 f4 f5⟩
  self := fun A i s Q E st h => let ⟨⟨_, he⟩, _⟩ := st; wpAny_pyIter_enum he h
def iEnumS (K : PySem.W.Frag) (ta : TA) : TI := fun σ H R => ta σ H fun vs H1 => ∃ (k : Sk) (xs : List V), vs = [k.v] ∧ k.Rd K H1 xs ∧ R (IteS K k) H1
theorem pi_enumS {X : Cx} {e : Expr} {ta : TA} {p pos tpos : Pos} {elts : List Expr} {kk : Nat} (hg : Gl X "enumerate") (hm : X.mg "enumerate" = none) (ha : PA X [e] ta) (hs : starEach [e] X.env = [(false, eval e X.env)] := by rfl) :
    PI X (.Tuple elts kk tpos) (.Call (.Name "enumerate" p) [e] [] pos) (iEnumS X.K ta) := by
  refine ⟨fun pins s σ H R I h => ?_⟩
  refine Call_ (ld_blt I hg hm boot_enumerate (PyProof.Rows.callWith_type1 (thn (ha.run pos pins s σ H _ I h) fun us s1 ⟨vs, H1, I1, r1, q1⟩ => ?_) hs rfl))
  obtain ⟨k, xs, ex, hq, q⟩ := q1
  subst ex
  cases r1 with
  | cons r rr =>
    cases rr
    obtain ⟨o, G, B, g1, hb⟩ := Sk.begins I1 hq r
    refine enum_begins1 B g1 fun h' he hit hsz hk => wpAny_pyIter_enum he ?_
    have I2 : Inv X pins σ H1 { s1 with heap := h' } := I1.kept (t' := s1.toks) hk
    refine ⟨s1.heap.objs.size + 1, [s1.heap.objs.size + 1, s1.heap.objs.size], _, _, H1, rfl, I2, turn_enumS k (s1.heap.objs.size + 1) s1.heap.objs.size, ⟨⟨.none, he⟩, hb h' _ hit, Nat.succ_ne_self _⟩, fun b hb => ?_, q⟩
    have e' : b = s1.heap.objs.size + 1 ∨ b = s1.heap.objs.size := by simpa using hb
    have hle : s1.heap.objs.size ≤ b := by
      rcases e' with z | z
      · rw [z]; exact Nat.le_add_right _ _
      · rw [z]; exact Nat.le_refl _
    exact I1.fpOk hle (I1.hok.fresh hle)
/-- zip of two -/
def ItzS (K : PySem.W.Frag) (k l : Sk) : It :=
  ⟨fun i H => ∃ (xs ys : List V) (x y : V), k.Rd K H xs ∧ l.Rd K H ys ∧ xs[i]? = some x ∧ ys[i]? = some y,
    fun i H v H' => ∃ T x y, v = .ref T ∧ H T = none ∧ H' = upd H T (.tup [x, y]) ∧ (∀ xs, k.Rd K H xs → xs[i]? = some x) ∧ ∀ ys, l.Rd K H ys → ys[i]? = some y,
    fun i H => ∃ xs ys : List V, k.Rd K H xs ∧ l.Rd K H ys ∧ i ≤ xs.length ∧ i ≤ ys.length ∧ (xs.length = i ∨ ys.length = i)⟩
structure ZAp (z TI TO i1 i2 : Addr) : Prop where
  TIz : TI ≠ z
  TOz : TO ≠ z
  TITO : TI ≠ TO
  TIi1 : TI ≠ i1
  TIi2 : TI ≠ i2
  zi1 : z ≠ i1
  zi2 : z ≠ i2
  TOi1 : TO ≠ i1
  TOi2 : TO ≠ i2
  i12 : i1 ≠ i2
theorem turn_zipS {P : Program} {w : World} {K : PySem.W.Frag} {elts : List Expr} {kk : Nat} {tpos : Pos} {z TI TO i1 i2 : Addr} (k l : Sk) (D : ZAp z TI TO i1 i2) :
    Turn P w K (.Tuple elts kk tpos) (ItzS K k l) [z, TI, TO, i1, i2] z (fun i h => IsZip h z TI TO .none ∧ IsTupOf2 h TI (.ref i1) (.ref i2) ∧ (∃ x y, IsTupOf2 h TO x y) ∧ k.It i1 i h ∧ l.It i2 i h) where
  mem := by simp
  obj := fun i h st c hc => by
    obtain ⟨hz, hTI, ⟨x, y, hTO⟩, h1, h2⟩ := st
    have e' : c = z ∨ c = TI ∨ c = TO ∨ c = i1 ∨ c = i2 := by simpa using hc
    rcases e' with q | q | q | q | q
    · rw [q]; exact ⟨_, hz, fun v q => nomatch q⟩
    · rw [q]; exact ⟨_, hTI, fun v q => nomatch q⟩
    · rw [q]; exact ⟨_, hTO, fun v q => nomatch q⟩
    · rw [q]; exact h1.obj
    · rw [q]; exact h2.obj
  keep := fun i h h' st kk => by
    obtain ⟨hz, hTI, ⟨x, y, hTO⟩, h1, h2⟩ := st
    exact ⟨kk z (by simp) _ hz, kk TI (by simp) _ hTI, ⟨x, y, kk TO (by simp) _ hTO⟩, h1.keep fun o q => kk i1 (by simp) o q, h2.keep fun o q => kk i2 (by simp) o q⟩
  item := by
    intro X hP hw hK hc i pins s σ H E I hf st hg
    subst hP hw hK
    obtain ⟨hz, hTI, ⟨x0, y0, hTO⟩, h1, h2⟩ := st
    obtain ⟨xs, ys, x, y, hqx, hqy, hx, hy⟩ := hg
    obtain ⟨fp1, St1, D1, st1, back1, hm1, hout1⟩ := Sk.draws I hc hqx h1 (hf i1 (by simp))
    obtain ⟨fp2, St2, D2, st2, back2, hm2, hout2⟩ := Sk.draws I hc hqy h2 (hf i2 (by simp))
    have hzl : z < s.heap.objs.size := Heap.lt_size hz
    have S : ZipSep2 z TI TO i1 i2 fp1 fp2 := ⟨D.TIz, D.TOz, D.TITO, D.TIi1, hm1, hout1 z (hf z (by simp)) D.zi1, hout1 TO (hf TO (by simp)) D.TOi1, D.TIi2, hm2, hout2 z (hf z (by simp)) D.zi2, hout2 TO (hf TO (by simp)) D.TOi2,
      hout2 i1 (hf i1 (by simp)) D.i12, hout1 i2 (hf i2 (by simp)) (Ne.symm D.i12)⟩
    refine wpAny_pyNext_zipD2_item S D1 D2 hz hTI hTO st1 st2 (List.getElem?_eq_some_iff.mp hx).1 (List.getElem?_eq_some_iff.mp hy).1 fun u u2 h' tk p1 p2 z' TO' h1' h2' hT hsz hk => ?_
    obtain ⟨x', hx', ru⟩ := p1
    rw [hx] at hx'; cases hx'
    obtain ⟨y', hy', ru2⟩ := p2
    rw [hy] at hy'; cases hy'
    refine ⟨_, rfl, wpAny_letOwnedTupleGo_zip (s := { s with heap := h', toks := tk }) z' fun h'' z'' sb => ?_⟩
    have hT2 : h''.get? s.heap.objs.size = some { cls := .type "tuple", data := .seq #[u, u2] } := (sb.2 _ (Nat.ne_of_gt hzl)).trans hT
    have new : ObjOk X.prog X.w (upd H s.heap.objs.size (.tup [x, y])) h'' s.heap.objs.size (.tup [x, y]) :=
      ⟨by show 2 ≤ sizeLine; decide, [u, u2], .cons ru (.cons ru2 .nil), ⟨_, hT2, rfl, _, rfl⟩⟩
    have I1 : Inv X pins σ (upd H s.heap.objs.size (.tup [x, y])) { s with heap := h'', toks := tk } :=
      I.turnedNew (t' := tk) (ch := [z, TI, TO, i1, i2]) (fun c o hb q => (sb.2 c (fun q' => hb (by simp [q']))).trans (hk c o (fun q' => hb (by simp [q'])) (fun q' => hb (by simp [q'])) (fun q' => hb (by simp [q'])) (fun q' => hb (by simp [q'])) q)) hf (Nat.le_refl _) new
    refine ⟨.ref s.heap.objs.size, _, I1, rfl, ⟨_, x, y, rfl, I.hok.fresh (Nat.le_refl _), rfl, fun l hl => by rw [Sk.inj I hl hqx]; exact hx, fun l hl => by rw [Sk.inj I hl hqy]; exact hy⟩, ⟨z'', ?_, ⟨u, u2, ?_⟩, ?_, ?_⟩, fun c hcm => ?_⟩
    · exact (sb.2 _ D.TIz).trans (hk _ _ D.TIz D.TITO D.TIi1 D.TIi2 hTI)
    · exact (sb.2 _ D.TOz).trans TO'
    · exact (back1 _ _ h1').keep fun o q => (sb.2 _ (Ne.symm D.zi1)).trans q
    · exact (back2 _ _ h2').keep fun o q => (sb.2 _ (Ne.symm D.zi2)).trans q
    · have hlt : c < s.heap.objs.size := by
        have e' : c = z ∨ c = TI ∨ c = TO ∨ c = i1 ∨ c = i2 := by simpa using hcm
        rcases e' with q | q | q | q | q
        · rw [q]; exact hzl
        · rw [q]; exact Heap.lt_size hTI
        · rw [q]; exact Heap.lt_size hTO
        · rw [q]; obtain ⟨_, e1, _⟩ := h1.obj; exact Heap.lt_size e1
        · rw [q]; obtain ⟨_, e2, _⟩ := h2.obj; exact Heap.lt_size e2
      rw [upd_ne (Nat.ne_of_lt hlt)]
      exact (hf c hcm).1
  done := by
    intro X hP hw hK hc i pins s σ H E I hf st hg
    subst hP hw hK
    obtain ⟨hz, hTI, ⟨x0, y0, hTO⟩, h1, h2⟩ := st
    obtain ⟨xs, ys, hqx, hqy, hl1, hl2, hend⟩ := hg
    obtain ⟨fp1, St1, D1, st1, back1, hm1, hout1⟩ := Sk.draws I hc hqx h1 (hf i1 (by simp))
    obtain ⟨fp2, St2, D2, st2, back2, hm2, hout2⟩ := Sk.draws I hc hqy h2 (hf i2 (by simp))
    have S : ZipSep2 z TI TO i1 i2 fp1 fp2 := ⟨D.TIz, D.TOz, D.TITO, D.TIi1, hm1, hout1 z (hf z (by simp)) D.zi1, hout1 TO (hf TO (by simp)) D.TOi1, D.TIi2, hm2, hout2 z (hf z (by simp)) D.zi2, hout2 TO (hf TO (by simp)) D.TOi2,
      hout2 i1 (hf i1 (by simp)) D.i12, hout1 i2 (hf i2 (by simp)) (Ne.symm D.i12)⟩
    have he : i = xs.length ∨ i = ys.length := by
      rcases hend with q | q
      · exact .inl q.symm
      · exact .inr q.symm
    exact wpAny_pyNext_zipD2_end S D1 D2 hz hTI hTO st1 st2 hl1 hl2 he fun h' tk hk => ⟨rfl, I.turnedL (t' := tk) (ch := [z, TI, TO, i1, i2]) (fun c o hb q =>
      hk c o (fun q' => hb (by simp [q'])) (fun q' => hb (by simp [q'])) (fun q' => hb (by simp [q'])) (fun q' => hb (by simp [q'])) q) hf⟩
  self := fun A i s Q E st h => wpAny_pyIter_zip st.1 h
def iZipS (K : PySem.W.Frag) (ta : TA) : TI := fun σ H R => ta σ H fun vs H1 => ∃ (k l : Sk) (xs ys : List V), vs = [k.v, l.v] ∧ k.Rd K H1 xs ∧ l.Rd K H1 ys ∧ R (ItzS K k l) H1
theorem pi_zipS {X : Cx} {e e2 : Expr} {ta : TA} {p pos tpos : Pos} {elts : List Expr} {kk : Nat} (hg : Gl X "zip") (hm : X.mg "zip" = none) (ha : PA X [e, e2] ta)
    (hs : starEach [e, e2] X.env = (false, eval e X.env) :: starEach [e2] X.env := by rfl) (hpl : (backTo pos (starEach [e2] X.env)).any (·.1) = false := by rfl) :
    PI X (.Tuple elts kk tpos) (.Call (.Name "zip" p) [e, e2] [] pos) (iZipS X.K ta) := by
  refine ⟨fun pins s σ H R I h => ?_⟩
  refine Call_ (ld_blt I hg hm PyProof.Rows.boot_zip (PyProof.Rows.callWith_type1 (thn (ha.run pos pins s σ H _ I h) fun us s1 ⟨vs, H1, I1, r1, q1⟩ => ?_) hs hpl))
  obtain ⟨k, l, xs, ys, ex, hqx, hqy, q⟩ := q1
  subst ex
  cases r1 with
  | cons r rr =>
    cases rr with
    | cons r' rr =>
      cases rr
      obtain ⟨o1, G1, B1, g1, hb1⟩ := Sk.begins I1 hqx r
      obtain ⟨o2, G2, B2, g2, hb2⟩ := Sk.begins I1 hqy r'
      refine zip_begins2 B1 B2 g1 g2 fun h' hz hTI hTO h1 h2 hsz hk => wpAny_pyIter_zip hz ?_
      have I2 : Inv X pins σ H1 { s1 with heap := h' } := I1.kept (t' := s1.toks) hk
      have ap : ∀ N : Nat, ZAp (N + 4) (N + 2) (N + 3) N (N + 1) := fun N => by constructor <;> (show (_ : Nat) ≠ _; omega)
      refine ⟨s1.heap.objs.size + 4, [s1.heap.objs.size + 4, s1.heap.objs.size + 2, s1.heap.objs.size + 3, s1.heap.objs.size, s1.heap.objs.size + 1], _, _, H1, rfl, I2, turn_zipS k l (ap s1.heap.objs.size), ⟨hz, hTI, ⟨_, _, hTO⟩, hb1 h' _ h1, hb2 h' _ h2⟩, fun c hcm => ?_, q⟩
      have e' : c = s1.heap.objs.size + 4 ∨ c = s1.heap.objs.size + 2 ∨ c = s1.heap.objs.size + 3 ∨ c = s1.heap.objs.size ∨ c = s1.heap.objs.size + 1 := by simpa using hcm
      have hle : s1.heap.objs.size ≤ c := by
        rcases e' with z | z | z | z | z
        · rw [z]; exact Nat.le_add_right _ _
        · rw [z]; exact Nat.le_add_right _ _
        · rw [z]; exact Nat.le_add_right _ _
        · rw [z]; exact Nat.le_refl _
        · rw [z]; exact Nat.le_add_right _ _
      exact I1.fpOk hle (I1.hok.fresh hle)
end DL

namespace DL
open PySem PySem.Spec PyProof.Rows L2
/-! ### what a loop walks -/
structure ItD where
  items : List D
  chk : Sto → Bool
def yes : Sto → Bool := fun _ => true
def chkL (l : Nat) (xs : List D) : Sto → Bool := fun S => decide (S[l]? = some (.lst xs))
def IR (cl : Nat → Addr) (K : PySem.W.Frag) (m0 : List Addr) (H0 : Hp) (it : ItD) (J : It) : Prop :=
  ∀ (i : Nat) m S H, Ext m0 m → Keep H0 H → RS cl K m S H → it.chk S = true →
    (i = it.items.length → J.stop i H) ∧ ∀ d, it.items[i]? = some d → J.go i H ∧ ∀ x H', J.yld i H x H' → Keep H H' ∧ RS cl K m S H' ∧ RV K m H' d x
def DI (cl : Nat → Addr) (X : Cx) (E : XK) (tg iter : Expr) (f : Sl → Sto → Res ItD) : Prop :=
  ∃ wi, PI X tg iter wi ∧ ∀ m S H sd σ R, RS cl X.K m S H → RSl X.K m H sd σ → Post cl X.K (IR cl X.K) m H E R (f sd S) → wi σ H R
/-- the items of a value -/
def signsD (z : Str) : List D := z.cps.toList.map fun c => D.str ⟨#[c]⟩
def itemsD (d : D) (S : Sto) : Option ItD := match d with
  | .tup ds => some ⟨ds, yes⟩
  | .frl ds => some ⟨ds, yes⟩
  | .str z => some ⟨signsD z, yes⟩
  | .ref l => match S[l]? with
    | some (.lst ds) => some ⟨ds, chkL l ds⟩
    | _ => none
  | _ => none
def iVal (f : Sl → Sto → Res D) : Sl → Sto → Res ItD := fun sd S => (f sd S).bind fun d S1 => match itemsD d S1 with
  | some it => .ok it S1
  | none => .stuck
section
variable {cl : Nat → Addr} {X : Cx} {E : XK} {tg e e2 : Expr} {fa fb : Sl → Sto → Res D}
theorem chkL_eq {l : Nat} {xs : List D} {S : Sto} (h : chkL l xs S = true) : S[l]? = some (.lst xs) := of_decide_eq_true h
theorem rvs_signs {K : PySem.W.Frag} {m : List Addr} {H : Hp} (z : Str) : RVs K m H (signsD z) (signs z) := by
  unfold signsD signs
  induction z.cps.toList with
  | nil => exact rfl
  | cons c cs ih => exact ⟨_, _, rfl, rfl, ih⟩
/-- a value that is walked is a source -/
theorem items_src {K : PySem.W.Frag} {m : List Addr} {S : Sto} {H : Hp} {d : D} {v : V} {it : ItD} (rs : RS cl K m S H) (rv : RV K m H d v) (h : itemsD d S = some it) :
    it.chk S = true ∧ ∃ (k : Sk), v = k.v ∧ ∀ m' S' H', Ext m m' → Keep H H' → RS cl K m' S' H' → it.chk S' = true → ∃ xs, k.Rd K H' xs ∧ RVs K m' H' it.items xs := by
  unfold itemsD at h
  split at h
  · rename_i ds
    cases h
    obtain ⟨a, vs, rfl, s1, r1⟩ := rv
    exact ⟨rfl, .t a, rfl, fun m' S' H' x k _ _ => ⟨vs, sqT_keep k s1, r1.mono x k⟩⟩
  · rename_i ds
    cases h
    obtain ⟨a, vs, rfl, s1, r1⟩ := rv
    exact ⟨rfl, .l a, rfl, fun m' S' H' x k _ _ => ⟨vs, (s1.keep k).sq, r1.mono x k⟩⟩
  · rename_i z
    cases h; cases rv
    exact ⟨rfl, .s z, rfl, fun m' S' H' x k _ _ => ⟨_, rfl, rvs_signs z⟩⟩
  · rename_i l
    split at h
    · rename_i ds e1
      cases h
      obtain ⟨a, h1, rfl⟩ := rv
      refine ⟨decide_eq_true e1, .l a, rfl, fun m' S' H' x k rs' hc => ?_⟩
      obtain ⟨a', h2, vs, hv, r1⟩ := rs'.adr (chkL_eq hc)
      rw [x l a h1] at h2; cases h2
      exact ⟨vs, SqL.of hv, r1⟩
    · cases h
  · cases h
def itS (K : PySem.W.Frag) : Sk → It
  | .l a => Itl K a
  | .t a => Itt K a
  | .s z => Its z
def iSrc (K : PySem.W.Frag) (te : TE) : TI := fun σ H R => te σ H fun v H1 => ∃ (k : Sk) (xs : List V), v = k.v ∧ k.Rd K H1 xs ∧ R (itS K k) H1
theorem pi_src {l : Expr} {tl : TE} (hl : PE X l tl) : PI X tg l (iSrc X.K tl) := by
  refine ⟨fun pins s σ H R I h => ?_⟩
  refine thn (hl.run pins s σ H _ I h) fun v s1 ⟨y, H1, I1, r1, q1⟩ => ?_
  obtain ⟨k, xs, e, hq, q⟩ := q1
  subst e
  cases k with
  | l a =>
    cases r1
    obtain ⟨its, rv, p, hz⟩ := I1.list hq
    refine wpAny_pyIter_list p.isList ?_
    refine ⟨s1.heap.objs.size, [s1.heap.objs.size], _, _, H1, rfl, I1.kept (t' := s1.toks) fun b o e => Heap.get?_push_of_some _ e, turn_list a _, ⟨_, Heap.get?_push_size _ rfl, rfl, rfl⟩, fun b hb => ?_, q⟩
    have e : b = s1.heap.objs.size := by simpa using hb
    subst e
    exact I1.fpOk (Nat.le_refl _) (I1.hok.fresh (Nat.le_refl _))
  | t a =>
    cases r1
    obtain ⟨its, rv, p, hz⟩ := I1.tuple hq
    refine wpAny_pyIter_tuple (show s1.heap.IsTuple a its.toArray from p) ?_
    refine ⟨s1.heap.objs.size, [s1.heap.objs.size], _, _, H1, rfl, I1.kept (t' := s1.toks) fun b o e => Heap.get?_push_of_some _ e, turn_tuple a _, ⟨_, Heap.get?_push_size _ rfl, rfl, rfl⟩, fun b hb => ?_, q⟩
    have e : b = s1.heap.objs.size := by simpa using hb
    subst e
    exact I1.fpOk (Nat.le_refl _) (I1.hok.fresh (Nat.le_refl _))
  | s x =>
    obtain ⟨t, rfl⟩ := r1
    cases ha : x.cps.all (· < 128)
    · exact wpAny_pyIter_wide ha (pi_one (tk := s1.toks) I1 _ (turn_str _ x t "str_iterator" (.inr rfl)) ⟨_, Heap.get?_push_size _ rfl, rfl, rfl⟩ q)
    · exact wpAny_pyIter_ascii ha (pi_one (tk := s1.toks) I1 _ (turn_str _ x t "str_ascii_iterator" (.inl rfl)) ⟨_, Heap.get?_push_size _ rfl, rfl, rfl⟩ q)
/-- an iterator over a source's items -/
theorem ir_src {K : PySem.W.Frag} {m : List Addr} {H : Hp} {it : ItD} {k : Sk} (src : ∀ m' S' H', Ext m m' → Keep H H' → RS cl K m' S' H' → it.chk S' = true → ∃ xs, k.Rd K H' xs ∧ RVs K m' H' it.items xs) : IR cl K m H it (itS K k) := by
  intro i m' S' H' x kp rs' hc'
  obtain ⟨ys, hr', hv'⟩ := src m' S' H' x kp rs' hc'
  cases k with
  | l a =>
    refine ⟨fun e => ⟨ys, hr', by rw [← hv'.length, e]; exact Nat.le_refl _⟩, fun d' hd => ?_⟩
    obtain ⟨w, hw, rw'⟩ := hv'.get hd
    exact ⟨⟨ys, w, hr', hw⟩, fun y H2 ⟨e, hy⟩ => by subst e; have := hy ys hr'; rw [hw] at this; cases this; exact ⟨Keep.refl _, rs', rw'⟩⟩
  | t a =>
    refine ⟨fun e => ⟨ys, hr', by rw [← hv'.length, e]; exact Nat.le_refl _⟩, fun d' hd => ?_⟩
    obtain ⟨w, hw, rw'⟩ := hv'.get hd
    exact ⟨⟨ys, w, hr', hw⟩, fun y H2 ⟨e, hy⟩ => by subst e; have := hy ys hr'; rw [hw] at this; cases this; exact ⟨Keep.refl _, rs', rw'⟩⟩
  | s z =>
    have hys : ys = signs z := hr'
    have hlen : it.items.length = z.cps.size := by rw [hv'.length, hys]; simp [signs]
    refine ⟨fun e => by show z.cps.size ≤ i; omega, fun d' hd => ?_⟩
    have hi : i < z.cps.size := by rw [← hlen]; exact (List.getElem?_eq_some_iff.mp hd).1
    refine ⟨hi, fun y H2 ⟨e, c, hc1, hc2⟩ => ?_⟩
    subst e
    obtain ⟨w, hw, rw'⟩ := hv'.get hd
    refine ⟨Keep.refl _, rs', ?_⟩
    rw [hys] at hw
    unfold signs at hw
    rw [List.getElem?_map, Array.getElem?_toList, hc1] at hw
    cases hw
    rw [hc2]; exact rw'
theorem di_val (he : DE cl X E e fa) : DI cl X E tg e (iVal fa) := by
  obtain ⟨t, p, he⟩ := he
  refine ⟨_, pi_src p, fun m S H sd σ R rs rl h => ?_⟩
  refine he m S H sd σ _ rs rl (Post.bind h fun d S1 m1 v H1 x1 k1 rs1 rv h1 => ?_)
  split at h1
  · rename_i it e1
    obtain ⟨hc, k, rfl, src⟩ := items_src rs1 rv e1
    obtain ⟨xs, hr, hv⟩ := src m1 S1 H1 (Ext.refl _) (Keep.refl _) rs1 hc
    exact ⟨k, xs, rfl, hr, h1.here rs1 (ir_src src)⟩
  · exact h1.elim
/-- enumerate -/
def enumL : Nat → List D → List D
  | _, [] => []
  | n, d :: ds => .tup [.int (n : Nat), d] :: enumL (n + 1) ds
theorem enumL_len : ∀ (n : Nat) (ds : List D), (enumL n ds).length = ds.length
  | _, [] => rfl
  | n, d :: ds => by simp [enumL, enumL_len (n + 1) ds]
theorem enumL_get : ∀ (n : Nat) (ds : List D) (i : Nat), (enumL n ds)[i]? = (ds[i]?).map fun d => D.tup [.int ((n + i : Nat) : Int), d]
  | _, [], i => by simp [enumL]
  | n, d :: ds, 0 => by simp [enumL]
  | n, d :: ds, i + 1 => by
    simp only [enumL, List.getElem?_cons_succ]
    rw [enumL_get (n + 1) ds i, show n + 1 + i = n + (i + 1) by omega]
def iEnumD (f : Sl → Sto → Res D) : Sl → Sto → Res ItD := fun sd S => (f sd S).bind fun d S1 => match itemsD d S1 with
  | some it => .ok ⟨enumL 0 it.items, it.chk⟩ S1
  | none => .stuck
theorem di_enum {p pos tpos : Pos} {elts : List Expr} {kk : Nat} (hg : Gl X "enumerate") (hm : X.mg "enumerate" = none) (he : DE cl X E e fa) (hs : starEach [e] X.env = [(false, eval e X.env)] := by rfl) :
    DI cl X E (.Tuple elts kk tpos) (.Call (.Name "enumerate" p) [e] [] pos) (iEnumD fa) := by
  obtain ⟨t, q, he⟩ := he
  refine ⟨_, pi_enumS hg hm (pa_cons q pa_nil hs) hs, fun m S H sd σ R rs rl h => ?_⟩
  refine he m S H sd σ _ rs rl (Post.bind h fun d S1 m1 v H1 x1 k1 rs1 rv h1 => ?_)
  split at h1
  · rename_i it e1
    obtain ⟨hc, k, rfl, src⟩ := items_src rs1 rv e1
    obtain ⟨xs, hr, hv⟩ := src m1 S1 H1 (Ext.refl _) (Keep.refl _) rs1 hc
    refine ⟨k, xs, rfl, hr, h1.here rs1 ?_⟩
    intro i m' S' H' x kp rs' hc'
    obtain ⟨ys, hr', hv'⟩ := src m' S' H' x kp rs' hc'
    refine ⟨fun e => ⟨ys, hr', by rw [← hv'.length, e, enumL_len]⟩, fun d' hd => ?_⟩
    have hd1 : (enumL 0 it.items)[i]? = some d' := hd
    rw [enumL_get] at hd1
    obtain ⟨d0, e0, rfl⟩ := Option.map_eq_some_iff.mp hd1
    obtain ⟨w, hw, rw'⟩ := hv'.get e0
    refine ⟨⟨ys, w, hr', hw⟩, ?_⟩
    rintro y H2 ⟨T, w', rfl, hT, rfl, hy⟩
    have := hy ys hr'
    rw [hw] at this; cases this
    have nt := newTup rs' (ds := [.int ((0 + i : Nat) : Int), d0]) (vs := [.int (i : Nat), w]) ⟨_, _, rfl, by show V.int _ = V.int _; rw [Nat.zero_add], _, _, rfl, rw', rfl⟩ hT
    exact ⟨Keep.new hT, nt.1, nt.2⟩
  · exact h1.elim
/-- zip of two -/
def zipL : List D → List D → List D
  | a :: as, b :: bs => .tup [a, b] :: zipL as bs
  | _, _ => []
theorem zipL_len : ∀ (as bs : List D), (zipL as bs).length = min as.length bs.length
  | [], _ => by simp [zipL]
  | _ :: _, [] => by simp [zipL]
  | a :: as, b :: bs => by simp only [zipL, List.length_cons, zipL_len as bs]; omega
theorem zipL_get : ∀ (as bs : List D) (i : Nat) (d : D), (zipL as bs)[i]? = some d → ∃ a b, as[i]? = some a ∧ bs[i]? = some b ∧ d = .tup [a, b]
  | [], _, i, d, h => by simp [zipL] at h
  | _ :: _, [], i, d, h => by simp [zipL] at h
  | a :: as, b :: bs, 0, d, h => by simp [zipL] at h; exact ⟨a, b, rfl, rfl, h.symm⟩
  | a :: as, b :: bs, i + 1, d, h => by
    simp only [zipL, List.getElem?_cons_succ] at h
    obtain ⟨x, y, e1, e2, e3⟩ := zipL_get as bs i d h
    exact ⟨x, y, by simpa using e1, by simpa using e2, e3⟩
def iZipD (f g : Sl → Sto → Res D) : Sl → Sto → Res ItD := fun sd S => (f sd S).bind fun d S1 => (g sd S1).bind fun e S2 => match itemsD d S2, itemsD e S2 with
  | some it, some jt => .ok ⟨zipL it.items jt.items, fun S => it.chk S && jt.chk S⟩ S2
  | _, _ => .stuck
theorem di_zip {p pos tpos : Pos} {elts : List Expr} {kk : Nat} (hg : Gl X "zip") (hm : X.mg "zip" = none) (he : DE cl X E e fa) (he2 : DE cl X E e2 fb)
    (hs : starEach [e, e2] X.env = (false, eval e X.env) :: starEach [e2] X.env := by rfl) (hs2 : starEach [e2] X.env = (false, eval e2 X.env) :: starEach [] X.env := by rfl) (hpl : (backTo pos (starEach [e2] X.env)).any (·.1) = false := by rfl) :
    DI cl X E (.Tuple elts kk tpos) (.Call (.Name "zip" p) [e, e2] [] pos) (iZipD fa fb) := by
  obtain ⟨t, q, he⟩ := he
  obtain ⟨t2, q2, he2⟩ := he2
  refine ⟨_, pi_zipS hg hm (pa_cons q (pa_cons q2 pa_nil hs2) hs) hs hpl, fun m S H sd σ R rs rl h => ?_⟩
  refine he m S H sd σ _ rs rl (Post.bind h fun d S1 m1 v H1 x1 k1 rs1 rv h1 => ?_)
  refine he2 m1 S1 H1 sd σ _ rs1 (rl.mono x1 k1) (Post.bind h1 fun d2 S2 m2 v2 H2 x2 k2 rs2 rv2 h2 => ?_)
  split at h2
  · rename_i it jt e1 e2
    obtain ⟨hc, k, rfl, src⟩ := items_src rs2 (RV.mono x2 k2 d rv) e1
    obtain ⟨hc2, k', rfl, src2⟩ := items_src rs2 rv2 e2
    obtain ⟨xs, hr, hv⟩ := src m2 S2 H2 (Ext.refl _) (Keep.refl _) rs2 hc
    obtain ⟨ys, hr2, hv2⟩ := src2 m2 S2 H2 (Ext.refl _) (Keep.refl _) rs2 hc2
    refine ⟨k, k', xs, ys, rfl, hr, hr2, h2.here rs2 ?_⟩
    intro i m' S' H' x kp rs' hc'
    rw [Bool.and_eq_true] at hc'
    obtain ⟨xs', hr', hv'⟩ := src m' S' H' x kp rs' hc'.1
    obtain ⟨ys', hr2', hv2'⟩ := src2 m' S' H' x kp rs' hc'.2
    have l1 := hv'.length
    have l2 := hv2'.length
    refine ⟨fun e => ?_, fun d' hd => ?_⟩
    · have e' : i = min it.items.length jt.items.length := by rw [e]; exact zipL_len _ _
      exact ⟨xs', ys', hr', hr2', by omega, by omega, by omega⟩
    · obtain ⟨a, b, ea, eb, rfl⟩ := zipL_get _ _ _ _ hd
      obtain ⟨w, hw, rw'⟩ := hv'.get ea
      obtain ⟨w2, hw2, rw2'⟩ := hv2'.get eb
      refine ⟨⟨xs', ys', w, w2, hr', hr2', hw, hw2⟩, ?_⟩
      rintro y H3 ⟨T, u, u2, rfl, hT, rfl, hy, hy2⟩
      have z1 := hy xs' hr'
      rw [hw] at z1; cases z1
      have z2 := hy2 ys' hr2'
      rw [hw2] at z2; cases z2
      have nt := newTup rs' (ds := [a, b]) (vs := [w, w2]) ⟨_, _, rfl, rw', _, _, rfl, rw2', rfl⟩ hT
      exact ⟨Keep.new hT, nt.1, nt.2⟩
  · exact h2.elim
/-- range -/
def rangeL (lo : Int) (n : Nat) : List D := (List.range n).map fun i => D.int (lo + (i : Nat))
theorem rangeL_len (lo : Int) (n : Nat) : (rangeL lo n).length = n := by simp [rangeL]
theorem ir_range {K : PySem.W.Frag} {m : List Addr} {H : Hp} (lo : Int) (n : Nat) : IR cl K m H ⟨rangeL lo n, yes⟩ (Itr lo n) := by
  intro i m' S' H' x kp rs' hc'
  refine ⟨fun e => by show n ≤ i; rw [e]; exact Nat.le_of_eq (rangeL_len lo n).symm, fun d hd => ?_⟩
  have hd1 : (rangeL lo n)[i]? = some d := hd
  have hi : i < n := by have := (List.getElem?_eq_some_iff.mp hd1).1; rw [rangeL_len] at this; exact this
  refine ⟨hi, fun y H2 ⟨e1, e2⟩ => ?_⟩
  subst e1 e2
  refine ⟨Keep.refl _, rs', ?_⟩
  unfold rangeL at hd1
  rw [List.getElem?_map, List.getElem?_range hi] at hd1
  cases hd1
  exact rfl
def iRngD1 (f : Sl → Sto → Res D) : Sl → Sto → Res ItD := fun sd S => (f sd S).bind fun d S1 => match d with
  | .int j => if -(2 ^ 62) ≤ j ∧ j < 2 ^ 62 then .ok ⟨rangeL 0 j.toNat, yes⟩ S1 else .stuck
  | _ => .stuck
def iRngD2 (f g : Sl → Sto → Res D) : Sl → Sto → Res ItD := fun sd S => (f sd S).bind fun d S1 => (g sd S1).bind fun e S2 => match d, e with
  | .int i, .int j => if -(2 ^ 62) ≤ i ∧ i < 2 ^ 62 ∧ -(2 ^ 62) ≤ j ∧ j < 2 ^ 62 then .ok ⟨rangeL i (j - i).toNat, yes⟩ S2 else .stuck
  | _, _ => .stuck
theorem di_range1 {p pos : Pos} (hg : Gl X "range") (hm : X.mg "range" = none) (he : DE cl X E e fa) (hs : starEach [e] X.env = [(false, eval e X.env)] := by rfl) : DI cl X E tg (.Call (.Name "range" p) [e] [] pos) (iRngD1 fa) := by
  obtain ⟨t, q, he⟩ := he
  refine ⟨_, pi_range1 hg hm (pa_cons q pa_nil hs) hs, fun m S H sd σ R rs rl h => ?_⟩
  refine he m S H sd σ _ rs rl (Post.bind h fun d S1 m1 v H1 x1 k1 rs1 rv h1 => ?_)
  cases d with
  | int j =>
    cases rv
    dsimp only at h1
    split at h1
    · rename_i hz
      exact ⟨j, rfl, hz.1, hz.2, h1.here rs1 (ir_range 0 j.toNat)⟩
    · exact h1.elim
  | _ => exact h1.elim
theorem di_range2 {p pos : Pos} (hg : Gl X "range") (hm : X.mg "range" = none) (he : DE cl X E e fa) (he2 : DE cl X E e2 fb) (hs : starEach [e, e2] X.env = [(false, eval e X.env), (false, eval e2 X.env)] := by rfl) (hs2 : starEach [e2] X.env = [(false, eval e2 X.env)] := by rfl) :
    DI cl X E tg (.Call (.Name "range" p) [e, e2] [] pos) (iRngD2 fa fb) := by
  obtain ⟨t, q, he⟩ := he
  obtain ⟨t2, q2, he2⟩ := he2
  refine ⟨_, pi_range2 hg hm (pa_cons q (pa_cons q2 pa_nil hs2) (by rw [hs, hs2])) hs hs2, fun m S H sd σ R rs rl h => ?_⟩
  refine he m S H sd σ _ rs rl (Post.bind h fun d S1 m1 v H1 x1 k1 rs1 rv h1 => ?_)
  refine he2 m1 S1 H1 sd σ _ rs1 (rl.mono x1 k1) (Post.bind h1 fun d2 S2 m2 v2 H2 x2 k2 rs2 rv2 h2 => ?_)
  split at h2
  · rename_i i j
    cases rv; cases rv2
    split at h2
    · rename_i hz
      exact ⟨i, j, rfl, hz, h2.here rs2 (ir_range i (j - i).toNat)⟩
    · exact h2.elim
  · exact h2.elim
/-! ### for -/
def loopD (chk : Sto → Bool) (ga : D → Sl → Sto → Res Sl) (fb : Sl → Sto → Res Fl) : List D → Sl → Sto → Res Fl
  | [], sd, S => if chk S then .ok (.nx sd) S else .stuck
  | x :: xs, sd, S => if chk S then (ga x sd S).bind fun sd1 S1 => (fb sd1 S1).bind fun fl S2 => match fl with
      | .nx sd2 => loopD chk ga fb xs sd2 S2
      | .cnt sd2 => loopD chk ga fb xs sd2 S2
      | .brk sd2 => .ok (.nx sd2) S2
      | .ret d => .ok (.ret d) S2
    else .stuck
def sFor (fi : Sl → Sto → Res ItD) (ga : D → Sl → Sto → Res Sl) (fb : Sl → Sto → Res Fl) : Sl → Sto → Res Fl := fun sd S => (fi sd S).bind fun it S1 => loopD it.chk ga fb it.items sd S1
theorem ds_for {body : List Stmt} {fi : Sl → Sto → Res ItD} {ga : D → Sl → Sto → Res Sl} {fb : Sl → Sto → Res Fl} {pos : Pos} (hp : PassesOwn (model X.prog X.w) X.A X.env X.xe) (hc : X.calm = true) (hi : DI cl X E tg e fi) (hg : DG cl X E tg ga) (hb : DSs cl X E body fb) (hs : ∀ x, foldedSetIterable e X.env x = pure x := by intro _; rfl) :
    DS cl X E (.For tg e body [] pos) (sFor fi ga fb) := by
  obtain ⟨wi, pi, hi⟩ := hi
  obtain ⟨g, pg, hg⟩ := hg
  obtain ⟨tb, pb, hb⟩ := hb
  refine ⟨_, ps_for hp hc pi pg pb hs, fun m S H sd σ D rs rl h => ?_⟩
  refine hi m S H sd σ _ rs rl (Post.bind h fun it S1 m1 J H1 x1 k1 rs1 ir h1 => ?_)
  refine ⟨fun i n σ' H' => n + i = it.items.length ∧ ∃ m' S' sd', Ext m1 m' ∧ Keep H1 H' ∧ RS cl X.K m' S' H' ∧ RSl X.K m' H' sd' σ' ∧ Post cl X.K (RFl X.K) m' H' E (endQ D) (loopD it.chk ga fb (it.items.drop i) sd' S'), ⟨it.items.length, rfl, m1, S1, sd, Ext.refl _, Keep.refl _, rs1, rl.mono x1 k1, h1⟩, ?_⟩
  rintro i n σ' H' ⟨hn, m', S', sd', x', k', rs', rl', h'⟩
  by_cases hlt : i < it.items.length
  · have e1 : it.items.drop i = it.items[i] :: it.items.drop (i + 1) := by rw [List.drop_eq_getElem_cons hlt]
    rw [e1] at h'
    unfold loopD at h'
    split at h'
    · rename_i hck
      obtain ⟨go, yl⟩ := (ir i m' S' H' x' k' rs' hck).2 it.items[i] (by simp [hlt])
      refine .inr ⟨go, fun σ3 H3 => ∃ m3 S3 sd3, Ext m1 m3 ∧ Keep H1 H3 ∧ RS cl X.K m3 S3 H3 ∧ RSl X.K m3 H3 sd3 σ3 ∧ Post cl X.K (RFl X.K) m3 H3 E (endQ D) (loopD it.chk ga fb (it.items.drop (i + 1)) sd3 S3), fun σ3 H3 z => ⟨n - 1, by omega, by omega, z⟩, fun x H2 hy => ?_⟩
      obtain ⟨ky, rsy, rvy⟩ := yl x H2 hy
      refine hg m' S' H2 sd' σ' _ x _ rsy (rl'.mono (Ext.refl _) ky) rvy (Post.bind (Post.mono (Ext.refl _) ky h') fun sd1 S3 m3 σ3 H3 x3 k3 rs3 rl3 h3 => ?_)
      refine hb m3 S3 H3 sd1 σ3 _ rs3 rl3 (Post.bind h3 fun fl S4 m4 v H4 x4 k4 rs4 rv4 h4 => ?_)
      cases fl with
      | nx sd4 =>
        cases v with
        | nx σ4 => exact ⟨m4, S4, sd4, (x'.trans x3).trans x4, ((k'.trans ky).trans k3).trans k4, rs4, rv4, h4⟩
        | _ => exact rv4.elim
      | cnt sd4 =>
        cases v with
        | cnt σ4 => exact ⟨m4, S4, sd4, (x'.trans x3).trans x4, ((k'.trans ky).trans k3).trans k4, rs4, rv4, h4⟩
        | _ => exact rv4.elim
      | brk sd4 =>
        cases v with
        | brk σ4 => exact h4.toNx rs4 rv4
        | _ => exact rv4.elim
      | ret d =>
        cases v with
        | ret w => exact h4.toRt rs4 rv4
        | _ => exact rv4.elim
    · exact h'.elim
  · have hi' : i = it.items.length := by omega
    have e1 : it.items.drop i = [] := by rw [hi']; simp
    rw [e1] at h'
    unfold loopD at h'
    split at h'
    · rename_i hck
      exact .inl ⟨(ir i m' S' H' x' k' rs' hck).1 hi', h'.toNx rs' rl'⟩
    · exact h'.elim
/-! ### while -/
def whileD (fc : Sl → Sto → Res Bool) (fb : Sl → Sto → Res Fl) : Nat → Sl → Sto → Res Fl
  | 0, _, _ => .stuck
  | n + 1, sd, S => (fc sd S).bind fun b S1 => if b then (fb sd S1).bind fun fl S2 => (match fl with
      | .nx sd2 => whileD fc fb n sd2 S2
      | .cnt sd2 => whileD fc fb n sd2 S2
      | .brk sd2 => .ok (.nx sd2) S2
      | .ret d => .ok (.ret d) S2) else .ok (.nx sd) S1
theorem ds_while {c : Expr} {body : List Stmt} {fc : Sl → Sto → Res Bool} {fb : Sl → Sto → Res Fl} {pos : Pos} (n : Nat) (hp : PassesOwn (model X.prog X.w) X.A X.env X.xe) (hc : DT cl X E c fc) (hb : DSs cl X E body fb) :
    DS cl X E (.While c body [] pos) (whileD fc fb n) := by
  obtain ⟨tc, pc, hc⟩ := hc
  obtain ⟨tb, pb, hb⟩ := hb
  refine ⟨_, ps_while hp pc pb, fun m S H sd σ D rs rl h => ?_⟩
  refine ⟨fun n σ' H' => ∃ m' S' sd', RS cl X.K m' S' H' ∧ RSl X.K m' H' sd' σ' ∧ Post cl X.K (RFl X.K) m' H' E (endQ D) (whileD fc fb n sd' S'), ⟨n, m, S, sd, rs, rl, h⟩, ?_⟩
  rintro n σ' H' ⟨m', S', sd', rs', rl', h'⟩
  cases n with
  | zero => exact h'.elim
  | succ n =>
    unfold whileD at h'
    refine hc m' S' H' sd' σ' _ rs' rl' (Post.bind h' fun b S1 m1 vb H1 x1 k1 rs1 rb h1 => ?_)
    cases rb
    cases b with
    | false => exact iteF (h1.toNx rs1 (rl'.mono x1 k1))
    | true =>
      refine iteT ⟨fun σ3 H3 => ∃ m' S' sd', RS cl X.K m' S' H3 ∧ RSl X.K m' H3 sd' σ3 ∧ Post cl X.K (RFl X.K) m' H3 E (endQ D) (whileD fc fb n sd' S'), fun σ3 H3 z => ⟨n, Nat.lt_succ_self _, z⟩, ?_⟩
      refine hb m1 S1 H1 sd' σ' _ rs1 (rl'.mono x1 k1) (Post.bind h1 fun fl S4 m4 v H4 x4 k4 rs4 rv4 h4 => ?_)
      cases fl with
      | nx sd4 =>
        cases v with
        | nx σ4 => exact ⟨m4, S4, sd4, rs4, rv4, h4⟩
        | _ => exact rv4.elim
      | cnt sd4 =>
        cases v with
        | cnt σ4 => exact ⟨m4, S4, sd4, rs4, rv4, h4⟩
        | _ => exact rv4.elim
      | brk sd4 =>
        cases v with
        | brk σ4 => exact h4.toNx rs4 rv4
        | _ => exact rv4.elim
      | ret d =>
        cases v with
        | ret w => exact h4.toRt rs4 rv4
        | _ => exact rv4.elim
end
end DL

namespace DL
open PySem PySem.Spec PyProof.Rows L2
/-! ### comprehensions -/
def wipeD (sd : Sl) : List Nat → Sl
  | [] => sd
  | v :: vs => (wipeD sd vs).set v none
theorem wipe_get (σ : L2.St) : ∀ (vs : List Nat) (j : Nat), j < σ.length → (wipe σ vs)[j]? = if j ∈ vs then some none else σ[j]?
  | [], j, h => by simp [wipe]
  | v :: vs, j, h => by
    unfold wipe
    by_cases e : v = j
    · subst e
      rw [List.getElem?_set_self (by rw [wipe_length]; exact h)]
      simp
    · rw [List.getElem?_set_ne e, wipe_get σ vs j h]
      have : (j ∈ v :: vs) ↔ j ∈ vs := by simp [Ne.symm e]
      simp only [this]
theorem wipe_ext {σ τ : L2.St} {vs : List Nat} (hl : σ.length = τ.length) (h : ∀ j, j ∉ vs → σ[j]? = τ[j]?) : wipe σ vs = wipe τ vs := by
  apply List.ext_getElem?
  intro j
  by_cases hj : j < σ.length
  · rw [wipe_get σ vs j hj, wipe_get τ vs j (by omega)]
    by_cases e : j ∈ vs
    · rw [if_pos e, if_pos e]
    · rw [if_neg e, if_neg e]; exact h j e
  · rw [List.getElem?_eq_none (by rw [wipe_length]; omega), List.getElem?_eq_none (by rw [wipe_length]; omega)]
theorem wipe_set {σ : L2.St} {vs : List Nat} {i : Nat} {x : Option V} (h : i ∈ vs) : wipe (σ.set i x) vs = wipe σ vs :=
  wipe_ext (by simp) fun j hj => List.getElem?_set_ne (fun (e : i = j) => hj (by rw [← e]; exact h))
theorem wipe_wipe (σ : L2.St) (vs : List Nat) : wipe (wipe σ vs) vs = wipe σ vs :=
  wipe_ext (by rw [wipe_length]) fun j hj => wipe_out hj
theorem RSl.wipe {K : PySem.W.Frag} {m : List Addr} {H : Hp} {sd : Sl} {σ : L2.St} (r : RSl K m H sd σ) : ∀ vs : List Nat, RSl K m H (wipeD sd vs) (L2.wipe σ vs)
  | [] => r
  | v :: vs => by
    unfold wipeD L2.wipe
    exact (RSl.wipe r vs).unset v
/-- a target that stores the names vs alone -/
structure Own (g : TG) (vs : List Nat) : Prop where
  mono : ∀ v σ H (Q Q' : L2.St → Hp → Prop), (∀ σ H, Q σ H → Q' σ H) → g v σ H Q → g v σ H Q'
  own : ∀ v σ H (Q : L2.St → Hp → Prop), g v σ H Q → g v σ H fun σ2 H2 => wipe σ2 vs = wipe σ vs ∧ Q σ2 H2
structure Owns (g : TGs) (vs : List Nat) : Prop where
  mono : ∀ v σ H (Q Q' : L2.St → Hp → Prop), (∀ σ H, Q σ H → Q' σ H) → g v σ H Q → g v σ H Q'
  own : ∀ v σ H (Q : L2.St → Hp → Prop), g v σ H Q → g v σ H fun σ2 H2 => wipe σ2 vs = wipe σ vs ∧ Q σ2 H2
def DGw (cl : Nat → Addr) (X : Cx) (E : XK) (vs : List Nat) (tg : Expr) (f : D → Sl → Sto → Res Sl) : Prop :=
  ∃ g, PG X tg g ∧ Own g vs ∧ ∀ m S H sd σ d v Q, RS cl X.K m S H → RSl X.K m H sd σ → RV X.K m H d v → Post cl X.K (RSl X.K) m H E Q (f d sd S) → g v σ H Q
def DGsw (cl : Nat → Addr) (X : Cx) (E : XK) (vs : List Nat) (tg : List Expr) (f : List D → Sl → Sto → Res Sl) : Prop :=
  ∃ g, PGs X tg g ∧ Owns g vs ∧ ∀ m S H sd σ d v Q, RS cl X.K m S H → RSl X.K m H sd σ → RVs X.K m H d v → Post cl X.K (RSl X.K) m H E Q (f d sd S) → g v σ H Q
section
variable {cl : Nat → Addr} {X : Cx} {E : XK} {vs : List Nat} {pos : Pos}
theorem dgw_name {i : Nat} {x : Str} (hv : i ∈ vs) (hN : X.N.Nodup) (hi : X.N[i]? = some x) (hx : Loc X.env.scope x) (hf : X.fn x = true ∨ X.env.scope.names.lookup x = some .local := by first | exact .inl rfl | exact .inr rfl | assumption) : DGw cl X E vs (.Name x pos) (gVar i) :=
  ⟨_, pg_name hN hi hx hf, ⟨fun v σ H Q Q' hq h => hq _ _ h, fun v σ H Q h => ⟨wipe_set hv, h⟩⟩, fun m S H sd σ d v Q rs rl rv h => h.here rs (rl.set i rv)⟩
theorem dgsw_nil : DGsw cl X E vs [] gsNil := by
  refine ⟨_, pgs_nil, ⟨fun v σ H Q Q' hq h => ⟨h.1, hq _ _ h.2⟩, fun v σ H Q h => ⟨h.1, rfl, h.2⟩⟩, fun m S H sd σ ds vs Q rs rl rv h => ?_⟩
  cases ds with
  | nil => exact ⟨rv, h.here rs rl⟩
  | cons _ _ => exact h.elim
theorem dgsw_cons {e : Expr} {es : List Expr} {g k} (h1 : DGw cl X E vs e g) (h2 : DGsw cl X E vs es k) (hs : (assignEach (e :: es) X.env).map (·.2) = assign e X.env :: (assignEach es X.env).map (·.2) := by rfl) : DGsw cl X E vs (e :: es) (gsCons g k) := by
  obtain ⟨t, p, o1, h1⟩ := h1
  obtain ⟨u, q, o2, h2⟩ := h2
  refine ⟨_, pgs_cons p q hs, ⟨fun v σ H Q Q' hq h => ?_, fun v σ H Q h => ?_⟩, fun m S H sd σ ds vs Q rs rl rv h => ?_⟩
  · obtain ⟨v1, r, e, h⟩ := h
    exact ⟨v1, r, e, o1.mono _ _ _ _ _ (fun σ2 H2 z => o2.mono _ _ _ _ _ hq z) h⟩
  · obtain ⟨v1, r, e, h⟩ := h
    refine ⟨v1, r, e, o1.mono _ _ _ _ _ (fun σ2 H2 z => ?_) (o1.own _ _ _ _ h)⟩
    obtain ⟨z1, z2⟩ := z
    exact o2.mono _ _ _ _ _ (fun σ3 H3 y => ⟨y.1.trans z1, y.2⟩) (o2.own _ _ _ _ z2)
  · cases ds with
    | nil => exact h.elim
    | cons d r =>
      obtain ⟨v, vr, rfl, r1, r2⟩ := rv
      refine ⟨v, vr, rfl, ?_⟩
      refine h1 m S H sd σ d v _ rs rl r1 (Post.bind h fun sd1 S1 m1 σ1 H1 x1 k1 rs1 rl1 h3 => ?_)
      exact h2 m1 S1 H1 sd1 σ1 r vr Q rs1 rl1 (r2.mono x1 k1) h3
theorem dgw_tup {es : List Expr} {k : Nat} {t} {n : Nat} (hc : X.calm = true) (h : DGsw cl X E vs es t)
    (hn : (assignEach es X.env).length = n := by rfl) (hst : (assignEach es X.env).findIdx? (·.1) = none := by rfl) : DGw cl X E vs (.Tuple es k pos) (gTupD n t) := by
  obtain ⟨u, q, o, h⟩ := h
  refine ⟨_, PG.or (pg_tup hc q hn hst) (pg_unl hc q hn hst), ⟨fun v σ H Q Q' hq hh => ?_, fun v σ H Q hh => ?_⟩, fun m S H sd σ d v Q rs rl rv hh => ?_⟩
  · rcases hh with ⟨a, xs, e, s1, hl, hh⟩ | ⟨a, xs, e, s1, hl, hh⟩
    · exact .inl ⟨a, xs, e, s1, hl, o.mono _ _ _ _ _ hq hh⟩
    · exact .inr ⟨a, xs, e, s1, hl, o.mono _ _ _ _ _ hq hh⟩
  · rcases hh with ⟨a, xs, e, s1, hl, hh⟩ | ⟨a, xs, e, s1, hl, hh⟩
    · exact .inl ⟨a, xs, e, s1, hl, o.own _ _ _ _ hh⟩
    · exact .inr ⟨a, xs, e, s1, hl, o.own _ _ _ _ hh⟩
  · unfold gTupD at hh
    split at hh
    · rename_i ds
      split at hh
      · rename_i hl
        obtain ⟨a, vs, rfl, s1, r1⟩ := rv
        exact .inl ⟨a, vs, rfl, s1, by rw [← r1.length]; exact hl, h m S H sd σ ds vs Q rs rl r1 hh⟩
      · exact hh.elim
    · rename_i l
      split at hh
      · rename_i ds e1
        split at hh
        · rename_i hl
          obtain ⟨a, h1, vs, hv, r1⟩ := rs.adr e1
          obtain ⟨a', h1', rfl⟩ := rv
          rw [h1] at h1'; cases h1'
          exact .inr ⟨a, vs, rfl, SqL.of hv, by rw [← r1.length]; exact hl, h m S H sd σ ds vs Q rs rl r1 hh⟩
        · exact hh.elim
      · exact hh.elim
    · exact hh.elim
end
def Res.noExc {α : Type} : Res α → Res α
  | .exc _ _ => .stuck
  | r => r
theorem Post.noExc {cl : Nat → Addr} {K : PySem.W.Frag} {α β : Type} {Rv : List Addr → Hp → α → β → Prop} {m : List Addr} {H : Hp} {E : XK} {Q : β → Hp → Prop} {r : Res α} (h : Post cl K Rv m H E Q r.noExc) : Post cl K Rv m H E0 Q r := by
  cases r with
  | ok a S => exact h
  | exc x S => exact h.elim
  | stuck => exact h
theorem Post.bindN {cl : Nat → Addr} {K : PySem.W.Frag} {α β γ δ : Type} {Rv : List Addr → Hp → α → β → Prop} {Rw : List Addr → Hp → γ → δ → Prop} {m : List Addr} {H : Hp} {E : XK} {Q : β → Hp → Prop}
    {r : Res α} {k : α → Sto → Res γ} {Q' : δ → Hp → Prop} (h : Post cl K Rw m H E Q' (r.noExc.bind k))
    (hk : ∀ d S1 m1 v H1, Ext m m1 → Keep H H1 → RS cl K m1 S1 H1 → Rv m1 H1 d v → Post cl K Rw m1 H1 E Q' (k d S1) → Q v H1) : Post cl K Rv m H E0 Q r := by
  cases r with
  | ok d S1 => exact fun m1 v H1 x1 k1 rs rv => hk d S1 m1 v H1 x1 k1 rs rv (Post.mono x1 k1 h)
  | exc x S1 => exact h.elim
  | stuck => exact h.elim
def compD (chk : Sto → Bool) (ga : D → Sl → Sto → Res Sl) (ft : Sl → Sto → Res Bool) (fe : Sl → Sto → Res D) (l : Nat) (sd : Sl) : List D → Sto → Res Unit
  | [], S => if chk S then .ok () S else .stuck
  | x :: xs, S => if chk S then (ga x sd S).noExc.bind fun sd1 S1 => (ft sd1 S1).noExc.bind fun b S2 => if b then (fe sd1 S2).noExc.bind fun y S3 => (match S3[l]? with
      | some (.lst acc) => if acc.length < sizeLine then compD chk ga ft fe l sd xs (S3.set l (.lst (acc ++ [y]))) else .stuck
      | _ => .stuck) else compD chk ga ft fe l sd xs S2
    else .stuck
def dComp (vs : List Nat) (fi : Sl → Sto → Res ItD) (ga : D → Sl → Sto → Res Sl) (ft : Sl → Sto → Res Bool) (fe : Sl → Sto → Res D) : Sl → Sto → Res D := fun sd S =>
  (fi sd S).bind fun it S1 => (compD it.chk ga ft fe S1.length (wipeD sd vs) it.items (S1 ++ [.lst []])).bind fun _ S2 => .ok (.ref S1.length) S2
def tYesD : Sl → Sto → Res Bool := fun _ S => .ok true S
def DTs (cl : Nat → Addr) (X : Cx) (E : XK) (ifs : List Expr) (f : Sl → Sto → Res Bool) : Prop :=
  ∃ t, PTs X ifs t ∧ ∀ m S H sd σ Q, RS cl X.K m S H → RSl X.K m H sd σ → Post cl X.K RBool m H E Q (f sd S) → t σ H Q
section
variable {cl : Nat → Addr} {X : Cx} {E : XK} {e : Expr} {f : Sl → Sto → Res Bool}
theorem dts_nil : DTs cl X E [] tYesD := ⟨_, pts_nil, fun m S H sd σ Q rs rl h => h.here rs rfl⟩
theorem dts_one (h : DT cl X E e f) : DTs cl X E [e] f := by
  obtain ⟨t, p, h⟩ := h
  exact ⟨_, pts_one p, h⟩
end
section
variable {cl : Nat → Addr} {X : Cx} {E : XK} {elt tg iter : Expr} {ifs : List Expr} {scope : Scope} {own : List (Str × Nat)} {pos : Pos} {fi : Sl → Sto → Res ItD} {ga : D → Sl → Sto → Res Sl} {ft : Sl → Sto → Res Bool} {fe : Sl → Sto → Res D}
/-- the core: what a comprehension's reading asks -/
theorem comp_core {wi : TI} {g : TG} {tt : TT} {te : TE} {vs : List Nat} (X' : Cx) (hK : X'.K = X.K)
    (hi : ∀ m S H sd σ R, RS cl X.K m S H → RSl X.K m H sd σ → Post cl X.K (IR cl X.K) m H E R (fi sd S) → wi σ H R)
    (og : Own g vs) (hg : ∀ m S H sd σ d v Q, RS cl X.K m S H → RSl X.K m H sd σ → RV X.K m H d v → Post cl X.K (RSl X.K) m H E0 Q (ga d sd S) → g v σ H Q)
    (ht : ∀ m S H sd σ Q, RS cl X.K m S H → RSl X.K m H sd σ → Post cl X.K RBool m H E0 Q (ft sd S) → tt σ H Q)
    (he : ∀ m S H sd σ Q, RS cl X.K m S H → RSl X.K m H sd σ → Post cl X.K (RV X.K) m H E0 Q (fe sd S) → te σ H Q) :
    ∀ m S H sd σ Q, RS cl X.K m S H → RSl X.K m H sd σ → Post cl X.K (RV X.K) m H E Q (dComp vs fi ga ft fe sd S) → tLc wi g tt te vs σ H Q := by
  intro m S H sd σ Q rs rl h
  refine hi m S H sd σ _ rs rl (Post.bind h fun it S1 m1 J H1 x1 k1 rs1 ir h1 => ?_)
  intro D hD
  obtain ⟨nl1, nl2⟩ := newLst rs1 (ds := []) (vs := []) rfl hD
  obtain ⟨aD, hmD, eD⟩ := nl2
  cases eD
  have x2 := Ext.snoc m1 D
  have k2 : Keep H1 (upd H1 D (.lst [])) := Keep.new hD
  refine ⟨fun i n H' => n + i = it.items.length ∧ ∃ m' S', Ext (m1 ++ [D]) m' ∧ Keep (upd H1 D (.lst [])) H' ∧ RS cl X.K m' S' H' ∧ Post cl X.K (RV X.K) m' H' E Q ((compD it.chk ga ft fe S1.length (wipeD sd vs) (it.items.drop i) S').bind fun _ S2 => .ok (.ref S1.length) S2),
    ⟨it.items.length, rfl, m1 ++ [D], S1 ++ [.lst []], Ext.refl _, Keep.refl _, nl1, by rw [List.drop_zero]; exact Post.mono x2 k2 h1⟩, ?_⟩
  rintro i n H' ⟨hn, m', S', x', k', rs', h'⟩
  have rlw : RSl X.K m' H' (wipeD sd vs) (wipe σ vs) := ((rl.mono x1 k1).wipe vs).mono (x2.trans x') (k2.trans k')
  by_cases hlt : i < it.items.length
  · have e1 : it.items.drop i = it.items[i] :: it.items.drop (i + 1) := by rw [List.drop_eq_getElem_cons hlt]
    rw [e1] at h'
    unfold compD at h'
    split at h'
    · rename_i hck
      obtain ⟨go, yl⟩ := (ir i m' S' H' (x2.trans x') (k2.trans k') rs' hck).2 it.items[i] (by simp [hlt])
      refine .inr ⟨go, fun H3 => ∃ m3 S3, Ext (m1 ++ [D]) m3 ∧ Keep (upd H1 D (.lst [])) H3 ∧ RS cl X.K m3 S3 H3 ∧ Post cl X.K (RV X.K) m3 H3 E Q ((compD it.chk ga ft fe S1.length (wipeD sd vs) (it.items.drop (i + 1)) S3).bind fun _ S2 => .ok (.ref S1.length) S2), fun H3 z => ⟨n - 1, by omega, by omega, z⟩, fun x H2 hy => ?_⟩
      obtain ⟨ky, rsy, rvy⟩ := yl x H2 hy
      rw [bind_assoc] at h'
      refine og.mono _ _ _ _ _ (fun σ2 H2' z => ⟨z.1.trans (wipe_wipe σ vs), z.2⟩) (og.own _ _ _ _ (hg m' S' H2 (wipeD sd vs) (wipe σ vs) _ x _ rsy (rlw.mono (Ext.refl _) ky) rvy (Post.bindN (Post.mono (Ext.refl _) ky h') fun sd1 S3 m3 σ3 H3 x3 k3 rs3 rl3 h3 => ?_)))
      rw [bind_assoc] at h3
      refine ht m3 S3 H3 sd1 σ3 _ rs3 rl3 (Post.bindN h3 fun b S4 m4 vb H4 x4 k4 rs4 rb h4 => ?_)
      cases rb
      cases b with
      | false => exact iteF ⟨m4, S4, (x'.trans x3).trans x4, ((k'.trans ky).trans k3).trans k4, rs4, h4⟩
      | true =>
        refine iteT ?_
        have h4' : Post cl X.K (RV X.K) m4 H4 E Q (((fe sd1 S4).noExc.bind fun y S3 => (match S3[S1.length]? with
            | some (.lst acc) => if acc.length < sizeLine then compD it.chk ga ft fe S1.length (wipeD sd vs) (it.items.drop (i + 1)) (S3.set S1.length (.lst (acc ++ [y]))) else .stuck
            | _ => .stuck)).bind fun _ S2 => .ok (.ref S1.length) S2) := h4
        rw [bind_assoc] at h4'
        refine he m4 S4 H4 sd1 σ3 _ rs4 (rl3.mono x4 k4) (Post.bindN h4' fun y S5 m5 vy H5 x5 k5 rs5 ry h5 => ?_)
        split at h5
        · rename_i acc ea
          split at h5
          · rename_i hz
            obtain ⟨a, ha, ws, hw, rw'⟩ := rs5.adr ea
            have xx : Ext (m1 ++ [D]) m5 := ((x'.trans x3).trans x4).trans x5
            rw [xx _ _ hmD] at ha; cases ha
            have hk5 := rs5.keepPut (u := .lst (ws ++ [vy])) ea (xx _ _ hmD)
            refine ⟨ws, hw, by rw [← rw'.length]; exact hz, m5, List.set S5 S1.length (.lst (acc ++ [y])), xx, (((k'.trans ky).trans k3).trans k4).trans (k5.trans hk5), rs5.put ea (xx _ _ hmD) ⟨_, upd_same, (rw'.snoc ry).mono (Ext.refl _) hk5⟩, Post.mono (Ext.refl _) hk5 h5⟩
          · exact h5.elim
        · exact h5.elim
    · exact h'.elim
  · have hi' : i = it.items.length := by omega
    have e1 : it.items.drop i = [] := by rw [hi']; simp
    rw [e1] at h'
    unfold compD at h'
    split at h'
    · rename_i hck
      exact .inl ⟨(ir i m' S' H' (x2.trans x') (k2.trans k') rs' hck).1 hi', h' m' (.ref D) H' (Ext.refl _) (Keep.refl _) rs' ⟨D, x' _ _ hmD, rfl⟩⟩
    · exact h'.elim
/-- [elt for target in iter if ..] -/
theorem de_comp (hc : X.calm = true) (hN : X.N.Nodup) (hi : DI cl X E tg iter fi) (ok : BlkOk X.N X.env.scope scope own)
    (hg : ∀ (s : Shared) (H : Hp) (C : Addr) (c : List (Str × Addr)) (fp : List Addr), DGw cl (X.blk s H scope (compEnvC scope c C X.env) fp) E0 (own.map (·.2)) tg ga)
    (ht : ∀ (s : Shared) (H : Hp) (C : Addr) (c : List (Str × Addr)) (fp : List Addr), DTs cl (X.blk s H scope (compEnvC scope c C X.env) fp) E0 ifs ft)
    (he : ∀ (s : Shared) (H : Hp) (C : Addr) (c : List (Str × Addr)) (fp : List Addr), DE cl (X.blk s H scope (compEnvC scope c C X.env) fp) E0 elt fe)
    (hs : ∀ x, foldedSetIterable iter X.env x = pure x := by intro _; rfl) :
    DE cl X E (.ListComp elt [⟨tg, iter, ifs, 0⟩] scope pos) (dComp (own.map (·.2)) fi ga ft fe) := by
  obtain ⟨wi, pi, hi⟩ := hi
  -- one reading for all blocks: every reading that the block's rules allow
  refine ⟨tLc wi (fun v σ H Q => ∃ m S sd d, RS cl X.K m S H ∧ RSl X.K m H sd σ ∧ RV X.K m H d v ∧ Post cl X.K (RSl X.K) m H E0 (fun σ2 H2 => wipe σ2 (own.map (·.2)) = wipe σ (own.map (·.2)) → Q σ2 H2) (ga d sd S))
      (fun σ H Q => ∃ m S sd, RS cl X.K m S H ∧ RSl X.K m H sd σ ∧ Post cl X.K RBool m H E0 Q (ft sd S))
      (fun σ H Q => ∃ m S sd, RS cl X.K m S H ∧ RSl X.K m H sd σ ∧ Post cl X.K (RV X.K) m H E0 Q (fe sd S)) (own.map (·.2)), pe_lc hc hN pi ok (fun s H C c fp => ?_) (fun s H C c fp => ?_) (fun s H C c fp => ?_) hs, ?_⟩
  · obtain ⟨g, pg, og, hg⟩ := hg s H C c fp
    exact ⟨fun pins s σ H v u Q I r ⟨m, S, sd, d, rs, rl, rv, h⟩ => pg.run pins s σ H v u Q I r (og.mono _ _ _ _ _ (fun σ2 H2 z => z.2 z.1) (og.own _ _ _ _ (hg m S H sd σ d v _ rs rl rv h)))⟩
  · obtain ⟨t, p, ht⟩ := ht s H C c fp
    exact ⟨fun pins s σ H Q I ⟨m, S, sd, rs, rl, h⟩ => p.run pins s σ H Q I (ht m S H sd σ Q rs rl h)⟩
  · obtain ⟨t, p, he⟩ := he s H C c fp
    exact ⟨fun pins s σ H Q I ⟨m, S, sd, rs, rl, h⟩ => p.run pins s σ H Q I (he m S H sd σ Q rs rl h)⟩
  · refine comp_core X rfl hi ⟨fun v σ H Q Q' hq ⟨m, S, sd, d, rs, rl, rv, h⟩ => ⟨m, S, sd, d, rs, rl, rv, h.imp fun σ2 H2 z w => hq _ _ (z w)⟩, fun v σ H Q ⟨m, S, sd, d, rs, rl, rv, h⟩ => ⟨m, S, sd, d, rs, rl, rv, h.imp fun σ2 H2 z w => ⟨w, z w⟩⟩⟩
      (fun m S H sd σ d v Q rs rl rv h => ⟨m, S, sd, d, rs, rl, rv, Post.imp (Q' := fun σ2 H2 => wipe σ2 (own.map (·.2)) = wipe σ (own.map (·.2)) → Q σ2 H2) (fun σ2 H2 z _ => z) h⟩) (fun m S H sd σ Q rs rl h => ⟨m, S, sd, rs, rl, h⟩) (fun m S H sd σ Q rs rl h => ⟨m, S, sd, rs, rl, h⟩)
/-- name = [elt for ..] on one line, the name a plain local -/
theorem ds_comp {i : Nat} {y : Str} {py spos : Pos} (hc : X.calm = true) (hN : X.N.Nodup) (hy : X.N[i]? = some y) (hyl : X.env.scope.names.lookup y = some .local)
    (hsw : swapsWith (.ListComp elt [⟨tg, iter, ifs, 0⟩] scope pos) (some (.Name y py)) spos.line X.env = pure true) (hi : DI cl X E tg iter fi) (ok : BlkOk X.N X.env.scope scope own)
    (hg : ∀ (s : Shared) (H : Hp) (C : Addr) (c : List (Str × Addr)) (fp : List Addr), DGw cl (X.blk s H scope (compEnvC scope c C X.env) fp) E0 (own.map (·.2)) tg ga)
    (ht : ∀ (s : Shared) (H : Hp) (C : Addr) (c : List (Str × Addr)) (fp : List Addr), DTs cl (X.blk s H scope (compEnvC scope c C X.env) fp) E0 ifs ft)
    (he : ∀ (s : Shared) (H : Hp) (C : Addr) (c : List (Str × Addr)) (fp : List Addr), DE cl (X.blk s H scope (compEnvC scope c C X.env) fp) E0 elt fe)
    (hs : ∀ x, foldedSetIterable iter X.env x = pure x := by intro _; rfl) :
    DS cl X E (.Assign [.Name y py] (.ListComp elt [⟨tg, iter, ifs, 0⟩] scope pos) spos) (sAsg (dComp (own.map (·.2)) fi ga ft fe) (gVar i)) := by
  obtain ⟨wi, pi, hi⟩ := hi
  refine ⟨tAsg (tLc wi (fun v σ H Q => ∃ m S sd d, RS cl X.K m S H ∧ RSl X.K m H sd σ ∧ RV X.K m H d v ∧ Post cl X.K (RSl X.K) m H E0 (fun σ2 H2 => wipe σ2 (own.map (·.2)) = wipe σ (own.map (·.2)) → Q σ2 H2) (ga d sd S))
      (fun σ H Q => ∃ m S sd, RS cl X.K m S H ∧ RSl X.K m H sd σ ∧ Post cl X.K RBool m H E0 Q (ft sd S))
      (fun σ H Q => ∃ m S sd, RS cl X.K m S H ∧ RSl X.K m H sd σ ∧ Post cl X.K (RV X.K) m H E0 Q (fe sd S)) (own.map (·.2))) (gName i), ps_setLc hc hN hy hyl hsw pi ok (fun s H C c fp => ?_) (fun s H C c fp => ?_) (fun s H C c fp => ?_) hs, ?_⟩
  · obtain ⟨g, pg, og, hg⟩ := hg s H C c fp
    exact ⟨fun pins s σ H v u Q I r ⟨m, S, sd, d, rs, rl, rv, h⟩ => pg.run pins s σ H v u Q I r (og.mono _ _ _ _ _ (fun σ2 H2 z => z.2 z.1) (og.own _ _ _ _ (hg m S H sd σ d v _ rs rl rv h)))⟩
  · obtain ⟨t, p, ht⟩ := ht s H C c fp
    exact ⟨fun pins s σ H Q I ⟨m, S, sd, rs, rl, h⟩ => p.run pins s σ H Q I (ht m S H sd σ Q rs rl h)⟩
  · obtain ⟨t, p, he⟩ := he s H C c fp
    exact ⟨fun pins s σ H Q I ⟨m, S, sd, rs, rl, h⟩ => p.run pins s σ H Q I (he m S H sd σ Q rs rl h)⟩
  · intro m S H sd σ D rs rl h
    refine comp_core X rfl hi ⟨fun v σ H Q Q' hq ⟨m, S, sd, d, rs, rl, rv, h⟩ => ⟨m, S, sd, d, rs, rl, rv, h.imp fun σ2 H2 z w => hq _ _ (z w)⟩, fun v σ H Q ⟨m, S, sd, d, rs, rl, rv, h⟩ => ⟨m, S, sd, d, rs, rl, rv, h.imp fun σ2 H2 z w => ⟨w, z w⟩⟩⟩
      (fun m S H sd σ d v Q rs rl rv h => ⟨m, S, sd, d, rs, rl, rv, Post.imp (Q' := fun σ2 H2 => wipe σ2 (own.map (·.2)) = wipe σ (own.map (·.2)) → Q σ2 H2) (fun σ2 H2 z _ => z) h⟩) (fun m S H sd σ Q rs rl h => ⟨m, S, sd, rs, rl, h⟩) (fun m S H sd σ Q rs rl h => ⟨m, S, sd, rs, rl, h⟩) m S H sd σ _ rs rl (Post.bind h fun y S1 m1 vx H1 x1 k1 rs1 rx h1 => ?_)
    exact h1.toNx rs1 ((rl.mono x1 k1).set i rx)
end
end DL

namespace DL
open PySem PySem.Spec PyProof.Rows L2
/-! ### subscripts -/
def ixD : D → D → Sto → Res D
  | .tup ds, .int i, S => match atI ds i with
    | some d => .ok d S
    | none => .stuck
  | .frl ds, .int i, S => match atI ds i with
    | some d => .ok d S
    | none => .stuck
  | .str z, .int i, S => if z.length ≤ sizeLine then match atI z.cps.toList i with
      | some c => .ok (.str ⟨#[c]⟩) S
      | none => .stuck
    else .stuck
  | .ref l, .int i, S => match S[l]? with
    | some (.lst ds) => match atI ds i with
      | some d => .ok d S
      | none => .stuck
    | _ => .stuck
  | _, _, _ => .stuck
section
variable {cl : Nat → Addr} {X : Cx} {E : XK} {a b : Expr} {fa fb : Sl → Sto → Res D} {pos : Pos}
theorem atI_rv {K : PySem.W.Frag} {m : List Addr} {H : Hp} {ds : List D} {vs : List V} {i : Int} {d : D} (r : RVs K m H ds vs) (h : atI ds i = some d) : ∃ v, atI vs i = some v ∧ RV K m H d v := by
  unfold atI at h ⊢
  rw [← r.length]
  cases e : ixN ds.length i with
  | none => rw [e] at h; cases h
  | some j =>
    rw [e] at h
    exact r.get h
theorem ix_seqD {m : List Addr} {S : Sto} {H : Hp} {x y : D} {vx vy : V} {Q : VK} {E : XK} (rs : RS cl X.K m S H) (rx : RV X.K m H x vx) (ry : RV X.K m H y vy) (h : Post cl X.K (RV X.K) m H E Q (ixD x y S)) : rIx X.K vx vy H Q := by
  unfold ixD at h
  split at h
  · cases ry
    obtain ⟨a, vs, rfl, s1, r1⟩ := rx
    split at h
    · rename_i d e
      obtain ⟨v, e1, rv⟩ := atI_rv r1 e
      exact .inr (.inl ⟨a, vs, _, v, rfl, rfl, s1, e1, h.here rs rv⟩)
    · exact h.elim
  · cases ry
    obtain ⟨a, vs, rfl, s1, r1⟩ := rx
    split at h
    · rename_i d e
      obtain ⟨v, e1, rv⟩ := atI_rv r1 e
      exact .inl ⟨a, vs, _, v, rfl, rfl, s1.sq, e1, h.here rs rv⟩
    · exact h.elim
  · cases ry; cases rx
    split at h
    · rename_i hz
      split at h
      · rename_i c e
        exact .inr (.inr ⟨_, _, c, rfl, rfl, hz, e, h.here rs rfl⟩)
      · exact h.elim
    · exact h.elim
  · cases ry
    split at h
    · rename_i ds e1
      obtain ⟨a, h1, vs, hv, r1⟩ := rs.adr e1
      obtain ⟨a', h2, rfl⟩ := rx
      rw [h1] at h2; cases h2
      split at h
      · rename_i d e
        obtain ⟨v, e1, rv⟩ := atI_rv r1 e
        exact .inl ⟨a, vs, _, v, rfl, rfl, SqL.of hv, e1, h.here rs rv⟩
      · exact h.elim
    · exact h.elim
  · exact h.elim
theorem de_ix (ha : DE cl X E a fa) (hb : DE cl X E b fb) (hs : PlainIx b := by intro _ _; rfl) : DE cl X E (.Subscript a b pos) (d2 ixD fa fb) := by
  obtain ⟨t, p, ha⟩ := ha
  obtain ⟨u, q, hb⟩ := hb
  refine ⟨_, pe_ix ix_seq p q hs, fun m S H sd σ Q rs rl h => ?_⟩
  refine ha m S H sd σ _ rs rl (Post.bind h fun x S1 m1 vx H1 x1 k1 rs1 rx h1 => ?_)
  refine hb m1 S1 H1 sd σ _ rs1 (rl.mono x1 k1) (Post.bind h1 fun y S2 m2 vy H2 x2 k2 rs2 ry h2 => ?_)
  exact ix_seqD rs2 (RV.mono x2 k2 x rx) ry h2
/-- o[i] = v -/
def setD (o i v : D) (S : Sto) : Res Unit := match o, i with
  | .ref l, .int k => match S[l]? with
    | some (.lst ds) => match ixN ds.length k with
      | some j => .ok () (S.set l (.lst (ds.set j v)))
      | none => .stuck
    | _ => .stuck
  | _, _ => .stuck
def gSubD (set : D → D → D → Sto → Res Unit) (fo fi : Sl → Sto → Res D) : D → Sl → Sto → Res Sl := fun v sd S => (fo sd S).bind fun o S1 => (fi sd S1).bind fun i S2 => (set o i v S2).bind fun _ S3 => .ok sd S3
def SetD (cl : Nat → Addr) (X : Cx) (g : D → D → D → Sto → Res Unit) : Prop :=
  ∃ t, PSet X t ∧ ∀ (E : XK) m S H o i v vo vi vv (Q : Hp → Prop), RS cl X.K m S H → RV X.K m H o vo → RV X.K m H i vi → RV X.K m H v vv → Post cl X.K (fun _ _ (_ _ : Unit) => True) m H E (fun _ H => Q H) (g o i v S) → t vo vi vv H Q
theorem set_lstD : SetD cl X setD := by
  refine ⟨_, set_list, fun E m S H o i v vo vi vv Q rs ro ri rv h => ?_⟩
  unfold setD at h
  split at h
  · rename_i l k
    cases ri
    split at h
    · rename_i ds e1
      obtain ⟨a, h1, vs, hv, r1⟩ := rs.adr e1
      obtain ⟨a', h2, rfl⟩ := ro
      rw [h1] at h2; cases h2
      split at h
      · rename_i j ej
        have kp := rs.keepPut (u := .lst (vs.set j vv)) e1 h1
        exact ⟨a, vs, k, j, rfl, rfl, hv, by rw [← r1.length]; exact ej, h m () _ (Ext.refl _) kp (rs.put e1 h1 ⟨_, upd_same, (r1.set rv j).mono (Ext.refl _) kp⟩) trivial⟩
      · exact h.elim
    · exact h.elim
  · exact h.elim
theorem dg_sub {o i : Expr} {fo fi set} (ho : DE cl X E o fo) (hi : DE cl X E i fi) (hs : SetD cl X set)
    (ha : ∀ v, assign (.Subscript o i pos) X.env v = (do
      let ov ← holding [v] (eval o X.env)
      let iv ← holding [v, ov] (eval i X.env)
      standAt pos
      holding [v, ov, iv] (setItem ov iv v)
      release [v, ov, iv] []) := by intro _; rfl) : DG cl X E (.Subscript o i pos) (gSubD set fo fi) := by
  obtain ⟨t, p, ho⟩ := ho
  obtain ⟨u, q, hi⟩ := hi
  obtain ⟨w, ps, hs⟩ := hs
  refine ⟨_, pg_sub p q ps ha, fun m S H sd σ d v Q rs rl rv h => ?_⟩
  refine ho m S H sd σ _ rs rl (Post.bind h fun x S1 m1 vx H1 x1 k1 rs1 rx h1 => ?_)
  refine hi m1 S1 H1 sd σ _ rs1 (rl.mono x1 k1) (Post.bind h1 fun y S2 m2 vy H2 x2 k2 rs2 ry h2 => ?_)
  refine hs E m2 S2 H2 x y d vx vy v _ rs2 (RV.mono x2 k2 x rx) ry (RV.mono (x1.trans x2) (k1.trans k2) d rv) (Post.bind h2 fun _ S3 m3 _ H3 x3 k3 rs3 _ h3 => ?_)
  exact h3.here rs3 (rl.mono ((x1.trans x2).trans x3) ((k1.trans k2).trans k3))
/-! ### slices -/
def cutL (ds : List D) (lo hi : Option Int) : List D := (ds.drop (HT.sIx ds.length 0 lo)).take (HT.sIx ds.length ds.length hi - HT.sIx ds.length 0 lo)
def sliceD (x : D) (lo hi : Option Int) (S : Sto) : Res D := match x with
  | .tup ds => .ok (.tup (cutL ds lo hi)) S
  | .frl ds => .ok (.ref S.length) (S ++ [.lst (cutL ds lo hi)])
  | .str z => if z.length ≤ sizeLine then .ok (.str (cutS z lo hi)) S else .stuck
  | .ref l => match S[l]? with
    | some (.lst ds) => .ok (.ref S.length) (S ++ [.lst (cutL ds lo hi)])
    | _ => .stuck
  | _ => .stuck
def DPO (cl : Nat → Addr) (X : Cx) (E : XK) (e : Option Expr) (f : Sl → Sto → Res (Option Int)) : Prop :=
  ∃ t, PO X e t ∧ ∀ m S H sd σ Q, RS cl X.K m S H → RSl X.K m H sd σ → Post cl X.K (fun _ _ (a b : Option Int) => a = b) m H E Q (f sd S) → t σ H Q
def oNone : Sl → Sto → Res (Option Int) := fun _ S => .ok none S
def oSome (f : Sl → Sto → Res D) : Sl → Sto → Res (Option Int) := fun sd S => (f sd S).bind fun d S1 => match d with
  | .int i => .ok (some i) S1
  | _ => .stuck
theorem dpo_none : DPO cl X E none oNone := ⟨_, po_none, fun m S H sd σ Q rs rl h => h.here rs rfl⟩
theorem dpo_some (ha : DE cl X E a fa) : DPO cl X E (some a) (oSome fa) := by
  obtain ⟨t, p, ha⟩ := ha
  refine ⟨_, po_some p, fun m S H sd σ Q rs rl h => ?_⟩
  refine ha m S H sd σ _ rs rl (Post.bind h fun x S1 m1 vx H1 x1 k1 rs1 rx h1 => ?_)
  cases x with
  | int i => exact ⟨i, rx, h1.here rs1 rfl⟩
  | _ => exact h1.elim
def dSlice (f : Sl → Sto → Res D) (g h : Sl → Sto → Res (Option Int)) : Sl → Sto → Res D := fun sd S => (f sd S).bind fun x S1 => (g sd S1).bind fun lo S2 => (h sd S2).bind fun hi S3 => sliceD x lo hi S3
theorem cut_rv {K : PySem.W.Frag} {m : List Addr} {H : Hp} {ds : List D} {vs : List V} (r : RVs K m H ds vs) (lo hi : Option Int) : RVs K m H (cutL ds lo hi) (cutV vs lo hi) := by
  unfold cutL cutV
  rw [← r.length]
  exact (r.drop _).take _
theorem sIx_whole {ds : List D} {lo hi : Option Int} (h : HT.sIx ds.length 0 lo = 0 ∧ HT.sIx ds.length ds.length hi = ds.length) : cutL ds lo hi = ds := by
  unfold cutL
  rw [h.1, h.2]
  simp
theorem de_slice {lo hi : Option Expr} {p2 : Pos} {fl fh} (ha : DE cl X E a fa) (hl : DPO cl X E lo fl) (hh : DPO cl X E hi fh) : DE cl X E (.Subscript a (.Slice lo hi none p2) pos) (dSlice fa fl fh) := by
  obtain ⟨t, p, ha⟩ := ha
  obtain ⟨t1, p1, hl⟩ := hl
  obtain ⟨t2, p2', hh⟩ := hh
  refine ⟨_, pe_slice ((sl_list.or sl_tupA).or sl_str) p p1 p2', fun m S H sd σ Q rs rl h => ?_⟩
  refine ha m S H sd σ _ rs rl (Post.bind h fun x S1 m1 vx H1 x1 k1 rs1 rx h1 => ?_)
  refine hl m1 S1 H1 sd σ _ rs1 (rl.mono x1 k1) (Post.bind h1 fun l S2 m2 vl H2 x2 k2 rs2 rll h2 => ?_)
  refine hh m2 S2 H2 sd σ _ rs2 (rl.mono (x1.trans x2) (k1.trans k2)) (Post.bind h2 fun u S3 m3 vu H3 x3 k3 rs3 ru h3 => ?_)
  cases rll; cases ru
  have rx3 := RV.mono (x2.trans x3) (k2.trans k3) x rx
  unfold sliceD at h3
  split at h3
  · obtain ⟨a, vs, rfl, s1, r1⟩ := rx3
    refine .inl (.inr ⟨a, vs, rfl, s1, fun e => ?_, fun e p' hp => ?_⟩)
    · rw [← r1.length] at e
      rw [sIx_whole e] at h3
      exact h3.here rs3 ⟨a, vs, rfl, s1, r1⟩
    · obtain ⟨a1, b1⟩ := newTup rs3 (cut_rv r1 l u) hp
      exact h3 _ _ _ (Ext.refl _) (Keep.new hp) a1 b1
  · obtain ⟨a, vs, rfl, s1, r1⟩ := rx3
    refine .inl (.inl ⟨a, vs, rfl, s1.sq, fun p' hp => ?_⟩)
    obtain ⟨a1, b1⟩ := newLst rs3 (cut_rv r1 l u) hp
    exact h3 _ _ _ (Ext.snoc _ _) (Keep.new hp) a1 b1
  · cases rx3
    split at h3
    · rename_i hz
      exact .inr ⟨_, rfl, hz, h3.here rs3 rfl⟩
    · exact h3.elim
  · split at h3
    · rename_i ds e1
      obtain ⟨a, h1, vs, hv, r1⟩ := rs3.adr e1
      obtain ⟨a', h2, rfl⟩ := rx3
      rw [h1] at h2; cases h2
      refine .inl (.inl ⟨a, vs, rfl, SqL.of hv, fun p' hp => ?_⟩)
      obtain ⟨a1, b1⟩ := newLst rs3 (cut_rv r1 l u) hp
      exact h3 _ _ _ (Ext.snoc _ _) (Keep.new hp) a1 b1
    · exact h3.elim
  · exact h3.elim
/-! ### built-ins by values -/
def CallD (cl : Nat → Addr) (X : Cx) (f : Value) (g : List D → Sto → Res D) : Prop :=
  ∃ r, CallR X f r ∧ ∀ (E : XK) m S H ds vs Q, RS cl X.K m S H → RVs X.K m H ds vs → Post cl X.K (RV X.K) m H E Q (g ds S) → r vs H Q
def dCall (g : List D → Sto → Res D) (f : Sl → Sto → Res (List D)) : Sl → Sto → Res D := fun sd S => (f sd S).bind fun ds S1 => g ds S1
theorem de_callB {x : Str} {p : Pos} {id : String} {e : Expr} {es : List Expr} {g f} (hc : CallD cl X (.builtin id) g) (hg : Gl X x) (hm : X.mg x = none) (hv : bootBuiltins x = some (.builtin id)) (ha : DA cl X E (e :: es) f) (hn : x ≠ "__name__" := by decide) (hdb : (x == ("__debug__" : Str)) = false := by decide)
    (he : starEach (e :: es) X.env = (false, eval e X.env) :: starEach es X.env := by rfl) (hpl : (backTo pos (starEach es X.env)).any (·.1) = false := by rfl) : DE cl X E (.Call (.Name x p) (e :: es) [] pos) (dCall g f) := by
  obtain ⟨r, cr, hr⟩ := hc
  obtain ⟨t, q, ha⟩ := ha
  refine ⟨_, pe_callB cr hg hm hv q hn hdb he hpl, fun m S H sd σ Q rs rl h => ?_⟩
  exact ha m S H sd σ _ rs rl (Post.bind h fun ds S1 m1 vs H1 x1 k1 rs1 rv h1 => hr E m1 S1 H1 ds vs Q rs1 rv h1)
theorem de_callTy {x : Str} {p : Pos} {T : String} {e : Expr} {es : List Expr} {g f} (hc : CallD cl X (.type T) g) (hg : Gl X x) (hm : X.mg x = none) (hv : bootBuiltins x = some (.type T)) (ha : DA cl X E (e :: es) f) (hn : x ≠ "__name__" := by decide) (hdb : (x == ("__debug__" : Str)) = false := by decide)
    (he : starEach (e :: es) X.env = (false, eval e X.env) :: starEach es X.env := by rfl) (hpl : (backTo pos (starEach es X.env)).any (·.1) = false := by rfl) : DE cl X E (.Call (.Name x p) (e :: es) [] pos) (dCall g f) := by
  obtain ⟨r, cr, hr⟩ := hc
  obtain ⟨t, q, ha⟩ := ha
  refine ⟨_, pe_callTy cr hg hm hv q hn hdb he hpl, fun m S H sd σ Q rs rl h => ?_⟩
  exact ha m S H sd σ _ rs rl (Post.bind h fun ds S1 m1 vs H1 x1 k1 rs1 rv h1 => hr E m1 S1 H1 ds vs Q rs1 rv h1)
def lenD : List D → Sto → Res D
  | [.str z], S => if z.length ≤ sizeLine then .ok (.int (z.length : Nat)) S else .stuck
  | [.tup ds], S => .ok (.int (ds.length : Nat)) S
  | [.frl ds], S => .ok (.int (ds.length : Nat)) S
  | [.ref l], S => match S[l]? with
    | some (.lst ds) => .ok (.int (ds.length : Nat)) S
    | _ => .stuck
  | _, _ => .stuck
theorem rvs1 {K : PySem.W.Frag} {m : List Addr} {H : Hp} {d : D} {vs : List V} (r : RVs K m H [d] vs) : ∃ v, vs = [v] ∧ RV K m H d v := by
  obtain ⟨v, vs', rfl, rv, e⟩ := r
  cases e
  exact ⟨v, rfl, rv⟩
theorem rvs2 {K : PySem.W.Frag} {m : List Addr} {H : Hp} {d e : D} {vs : List V} (r : RVs K m H [d, e] vs) : ∃ v w, vs = [v, w] ∧ RV K m H d v ∧ RV K m H e w := by
  obtain ⟨v, vs', rfl, rv, w, vs2, rfl, rw', e⟩ := r
  cases e
  exact ⟨v, w, rfl, rv, rw'⟩
theorem cd_len : CallD cl X (.builtin "len") lenD := by
  refine ⟨_, call_len, fun E m S H ds vs Q rs rv h => ?_⟩
  unfold lenD at h
  split at h
  · obtain ⟨v, rfl, r⟩ := rvs1 rv
    cases r
    split at h
    · rename_i hz
      exact ⟨_, _, rfl, ⟨hz, rfl⟩, h.here rs rfl⟩
    · exact h.elim
  · obtain ⟨v, rfl, a, ws, rfl, s1, r1⟩ := rvs1 rv
    exact ⟨_, _, rfl, .inr ⟨ws, s1, r1.length⟩, h.here rs rfl⟩
  · obtain ⟨v, rfl, a, ws, rfl, s1, r1⟩ := rvs1 rv
    exact ⟨_, _, rfl, .inl ⟨ws, s1.sq, r1.length⟩, h.here rs rfl⟩
  · obtain ⟨v, rfl, r⟩ := rvs1 rv
    split at h
    · rename_i ds e1
      obtain ⟨a, h1, ws, hv, r1⟩ := rs.adr e1
      obtain ⟨a', h2, rfl⟩ := r
      rw [h1] at h2; cases h2
      exact ⟨_, _, rfl, .inl ⟨ws, SqL.of hv, r1.length⟩, h.here rs rfl⟩
    · exact h.elim
  · exact h.elim
/-- the items of a list or tuple -/
def seqD (d : D) (S : Sto) : Option (List D) := match d with
  | .tup ds => some ds
  | .frl ds => some ds
  | .ref l => match S[l]? with
    | some (.lst ds) => some ds
    | _ => none
  | _ => none
theorem seq_rv {K : PySem.W.Frag} {m : List Addr} {S : Sto} {H : Hp} {d : D} {v : V} {ds : List D} (rs : RS cl K m S H) (rv : RV K m H d v) (h : seqD d S = some ds) :
    ∃ a vs, v = .ref a ∧ (SqL K H a vs ∨ SqT K H a vs) ∧ RVs K m H ds vs := by
  unfold seqD at h
  split at h
  · cases h
    obtain ⟨a, vs, rfl, s1, r1⟩ := rv
    exact ⟨a, vs, rfl, .inr s1, r1⟩
  · cases h
    obtain ⟨a, vs, rfl, s1, r1⟩ := rv
    exact ⟨a, vs, rfl, .inl s1.sq, r1⟩
  · split at h
    · rename_i es e1
      cases h
      obtain ⟨a, h1, ws, hv, r1⟩ := rs.adr e1
      obtain ⟨a', h2, rfl⟩ := rv
      rw [h1] at h2; cases h2
      exact ⟨a, ws, rfl, .inl (SqL.of hv), r1⟩
    · cases h
  · cases h
def tupleD : List D → Sto → Res D
  | [d], S => match seqD d S with
    | some ds => .ok (.tup ds) S
    | none => .stuck
  | _, _ => .stuck
theorem cd_tuple : CallD cl X (.type "tuple") tupleD := by
  refine ⟨_, call_tuple_of, fun E m S H ds vs Q rs rv h => ?_⟩
  unfold tupleD at h
  split at h
  · rename_i d
    obtain ⟨v, rfl, r⟩ := rvs1 rv
    split at h
    · rename_i es e1
      obtain ⟨a, ws, rfl, hs, r1⟩ := seq_rv rs r e1
      refine ⟨a, ws, rfl, ?_⟩
      rcases hs with hs | hs
      · refine .inl ⟨hs, fun l hl => ?_⟩
        obtain ⟨a1, b1⟩ := newTup rs r1 hl
        exact h _ _ _ (Ext.refl _) (Keep.new hl) a1 b1
      · exact .inr ⟨hs, h.here rs ⟨a, ws, rfl, hs, r1⟩⟩
    · exact h.elim
  · exact h.elim
def listD : List D → Sto → Res D
  | [d], S => match seqD d S with
    | some ds => .ok (.ref S.length) (S ++ [.lst ds])
    | none => .stuck
  | _, _ => .stuck
theorem cd_list : CallD cl X (.type "list") listD := by
  refine ⟨_, call_list_of, fun E m S H ds vs Q rs rv h => ?_⟩
  unfold listD at h
  split at h
  · rename_i d
    obtain ⟨v, rfl, r⟩ := rvs1 rv
    split at h
    · rename_i es e1
      obtain ⟨a, ws, rfl, hs, r1⟩ := seq_rv rs r e1
      refine ⟨a, ws, rfl, hs, fun l hl => ?_⟩
      obtain ⟨a1, b1⟩ := newLst rs r1 hl
      exact h _ _ _ (Ext.snoc _ _) (Keep.new hl) a1 b1
    · exact h.elim
  · exact h.elim
def intD : List D → Sto → Res D
  | [.int i], S => .ok (.int i) S
  | [.bl b], S => .ok (.int (if b then 1 else 0)) S
  | [.str a], S => match PySem.intText? a with
    | some n => if a.length ≤ 640 then .ok (.int n) S else .stuck
    | none => .stuck
  | _, _ => .stuck
theorem cd_int : CallD cl X (.type "int") intD := by
  refine ⟨_, call_int1.or call_int_str, fun E m S H ds vs Q rs rv h => ?_⟩
  unfold intD at h
  split at h
  · obtain ⟨v, rfl, r⟩ := rvs1 rv
    cases r
    exact .inl (.inl ⟨_, rfl, h.here rs rfl⟩)
  · obtain ⟨v, rfl, r⟩ := rvs1 rv
    cases r
    exact .inl (.inr ⟨_, rfl, h.here rs rfl⟩)
  · obtain ⟨v, rfl, r⟩ := rvs1 rv
    cases r
    split at h
    · rename_i n e
      split at h
      · rename_i hz
        exact .inr ⟨_, n, rfl, e, hz, h.here rs rfl⟩
      · exact h.elim
    · exact h.elim
  · exact h.elim
def strD : List D → Sto → Res D
  | [.int i], S => if i.natAbs.log2 < 1920 then .ok (.str (toString i)) S else .stuck
  | _, _ => .stuck
theorem cd_str : CallD cl X (.type "str") strD := by
  refine ⟨_, call_str_int, fun E m S H ds vs Q rs rv h => ?_⟩
  unfold strD at h
  split at h
  · obtain ⟨v, rfl, r⟩ := rvs1 rv
    cases r
    split at h
    · rename_i hz
      exact ⟨_, rfl, hz, h.here rs rfl⟩
    · exact h.elim
  · exact h.elim
def min2D : List D → Sto → Res D
  | [.int i, .int j], S => .ok (.int (if j < i then j else i)) S
  | _, _ => .stuck
def max2D : List D → Sto → Res D
  | [.int i, .int j], S => .ok (.int (if j > i then j else i)) S
  | _, _ => .stuck
theorem cd_min2 (hc : X.calm = true) : CallD cl X (.builtin "min") min2D := by
  refine ⟨_, call_min2 hc, fun E m S H ds vs Q rs rv h => ?_⟩
  unfold min2D at h
  split at h
  · obtain ⟨v, w, rfl, r, r'⟩ := rvs2 rv
    cases r; cases r'
    exact ⟨_, _, rfl, h.here rs rfl⟩
  · exact h.elim
theorem cd_max2 (hc : X.calm = true) : CallD cl X (.builtin "max") max2D := by
  refine ⟨_, call_max2 hc, fun E m S H ds vs Q rs rv h => ?_⟩
  unfold max2D at h
  split at h
  · obtain ⟨v, w, rfl, r, r'⟩ := rvs2 rv
    cases r; cases r'
    exact ⟨_, _, rfl, h.here rs rfl⟩
  · exact h.elim
/-! ### in -/
def flatD : D → Bool
  | .non => true
  | .bl _ => true
  | .int _ => true
  | .str _ => true
  | _ => false
def eqF : D → D → Bool
  | .non, .non => true
  | .bl a, .bl b => a == b
  | .bl a, .int b => (if a then 1 else 0) == b
  | .int a, .bl b => a == (if b then 1 else 0)
  | .int a, .int b => a == b
  | .str a, .str b => a == b
  | _, _ => false
def hasD (x y : D) (S : Sto) : Option Bool := match y with
  | .str z => match x with
    | .str w => match w.cps.toList with
      | [c] => some (decide (c ∈ z.cps.toList))
      | _ => none
    | _ => none
  | .tup ds => if flatD x && ds.all flatD then some (ds.any fun d => eqF d x) else none
  | .ref l => match S[l]? with
    | some (.lst ds) => match toP S 60 x, mapO (toP S 60) ds with
      | some p, some ps => if SeqAt.shaped p && SeqAt.shaped (.list ps) then some (ps.any fun z => PyData.eqv z p) else none
      | _, _ => none
    | _ => none
  | _ => none
def inD (x y : D) (S : Sto) : Res D := match hasD x y S with
  | some b => .ok (.bl b) S
  | none => .stuck
def notInD (x y : D) (S : Sto) : Res D := match hasD x y S with
  | some b => .ok (.bl (!b)) S
  | none => .stuck
theorem flat_rv {K : PySem.W.Frag} {m : List Addr} {H : Hp} {d : D} {v : V} (r : RV K m H d v) (f : flatD d = true) : flatV v = true ∧ (∀ e w, RV K m H e w → flatD e = true → eqV w v = eqF e d) := by
  cases d with
  | non => cases r; refine ⟨rfl, fun e w rw' fe => ?_⟩; cases e <;> first | (cases rw'; rfl) | cases fe
  | bl b => cases r; refine ⟨rfl, fun e w rw' fe => ?_⟩; cases e <;> first | (cases rw'; rfl) | cases fe
  | int b => cases r; refine ⟨rfl, fun e w rw' fe => ?_⟩; cases e <;> first | (cases rw'; rfl) | cases fe
  | str b => cases r; refine ⟨rfl, fun e w rw' fe => ?_⟩; cases e <;> first | (cases rw'; rfl) | cases fe
  | _ => cases f
theorem flat_all {K : PySem.W.Frag} {m : List Addr} {H : Hp} {x : D} {vx : V} (rx : RV K m H x vx) (fx : flatD x = true) : ∀ {ds : List D} {vs : List V}, RVs K m H ds vs → ds.all flatD = true → vs.all flatV = true ∧ (vs.any fun y => eqV y vx) = ds.any fun d => eqF d x
  | [], _, r, _ => by cases r; exact ⟨rfl, rfl⟩
  | d :: ds, _, ⟨v, vs', e, r, t⟩, f => by
    subst e
    rw [List.all_cons, Bool.and_eq_true] at f
    obtain ⟨h1, h2⟩ := flat_all rx fx t f.2
    rw [List.all_cons, List.any_cons, List.any_cons, h1, h2, (flat_rv r f.1).1, (flat_rv rx fx).2 d v r f.1]
    exact ⟨rfl, rfl⟩
theorem str_one {w : Str} {c : Nat} (h : w.cps.toList = [c]) : w = ⟨#[c]⟩ := by
  cases w with
  | mk a =>
    congr 1
    exact Array.toList_inj.mp (by simpa using h)
theorem hasD_cases {m : List Addr} {S : Sto} {H : Hp} {x y : D} {vx vy : V} {b : Bool} {K : PySem.W.Frag} (rs : RS cl K m S H) (rx : RV K m H x vx) (ry : RV K m H y vy) (h : hasD x y S = some b) :
    (∃ c z, vx = .str ⟨#[c]⟩ ∧ vy = .str z ∧ b = decide (c ∈ z.cps.toList)) ∨ (∃ p xs, vy = .ref p ∧ (SqL K H p xs ∨ SqT K H p xs) ∧ flatV vx = true ∧ xs.all flatV = true ∧ b = inV vx xs) ∨
    ∃ d ds, Dp K H vx d ∧ Dp K H vy (.list ds) ∧ SeqAt.shaped d = true ∧ SeqAt.shaped (.list ds) = true ∧ b = ds.any fun z => PyData.eqv z d := by
  unfold hasD at h
  split at h
  · cases ry
    split at h
    · cases rx
      split at h
      · rename_i c e
        cases h
        rw [str_one e]
        exact .inl ⟨c, _, rfl, rfl, rfl⟩
      · cases h
    · cases h
  · rename_i ds
    split at h
    · rename_i hf
      cases h
      rw [Bool.and_eq_true] at hf
      obtain ⟨a, vs, rfl, s1, r1⟩ := ry
      obtain ⟨f1, f2⟩ := flat_all rx hf.1 r1 hf.2
      exact .inr (.inl ⟨a, vs, rfl, .inr s1, (flat_rv rx hf.1).1, f1, f2.symm⟩)
    · cases h
  · rename_i l
    split at h
    · rename_i ds e1
      obtain ⟨a, h1, vs, hv, r1⟩ := rs.adr e1
      obtain ⟨a', h2, rfl⟩ := ry
      rw [h1] at h2; cases h2
      split at h
      · rename_i p ps e2 e3
        split at h
        · rename_i hs
          rw [Bool.and_eq_true] at hs
          cases h
          exact .inr (.inr ⟨p, ps, toP_dp rs _ _ _ _ e2 rx, .lst (SqL.of hv) (dpAll (toP_dp rs 60) ds ps vs e3 r1), hs.1, hs.2, rfl⟩)
        · cases h
      · cases h
    · cases h
  · cases h
theorem op_inDD (hu : X.A.units + 65 < cLine) : OpD cl X (compareOp .In) inD := by
  refine ⟨_, (op_in_sign.or op_in_seq).or (op_inD hu), fun E m S H x y vx vy Q rs rx ry h => ?_⟩
  unfold inD at h
  split at h
  · rename_i b e
    rcases hasD_cases rs rx ry e with ⟨c, z, rfl, rfl, rfl⟩ | ⟨p, xs, rfl, hs, f1, f2, rfl⟩ | ⟨d, ds, d1, d2, s1, s2, rfl⟩
    · exact .inl (.inl ⟨c, z, rfl, rfl, h.here rs rfl⟩)
    · exact .inl (.inr ⟨p, xs, rfl, hs, f1, f2, h.here rs rfl⟩)
    · exact .inr ⟨d, ds, d1, d2, s1, s2, h.here rs rfl⟩
  · exact h.elim
theorem op_notInDD (hu : X.A.units + 65 < cLine) : OpD cl X (compareOp .NotIn) notInD := by
  refine ⟨_, (op_notIn_sign.or op_notIn_seq).or (op_notInD hu), fun E m S H x y vx vy Q rs rx ry h => ?_⟩
  unfold notInD at h
  split at h
  · rename_i b e
    rcases hasD_cases rs rx ry e with ⟨c, z, rfl, rfl, rfl⟩ | ⟨p, xs, rfl, hs, f1, f2, rfl⟩ | ⟨d, ds, d1, d2, s1, s2, rfl⟩
    · exact .inl (.inl ⟨c, z, rfl, rfl, h.here rs rfl⟩)
    · exact .inl (.inr ⟨p, xs, rfl, hs, f1, f2, h.here rs rfl⟩)
    · exact .inr ⟨d, ds, d1, d2, s1, s2, h.here rs rfl⟩
  · exact h.elim
end
end DL

namespace DL
open PySem PySem.Spec PyProof.Rows L2
/-! ### where one stands -/
structure Cok (X : Cx) (E : XK) (k : Nat) : Prop where
  calm : X.calm = true
  px : Passes (L2.CX X.prog X.w) X E
  tk : Takes X (fun cls d _ H => E cls d H)
  po : PassesOwn (model X.prog X.w) X.A X.env X.xe
  hr : Room k X.A
  nd : X.N.Nodup
theorem Cok.hu {X : Cx} {E : XK} {k : Nat} (c : Cok X E k) : X.A.units + 64 < cLine := c.hr.units
theorem Cok.hu5 {X : Cx} {E : XK} {k : Nat} (c : Cok X E k) : X.A.units + 65 < cLine := by have := c.hr.un; omega
theorem Cok.hu1 {X : Cx} {E : XK} {k : Nat} (c : Cok X E k) : X.A.units + 1 < cLine := by have := c.hr.un; omega
theorem Cok.blk {X : Cx} {E : XK} {k : Nat} (c : Cok X E k) (s : Shared) (H : Hp) (scope : Scope) (cenv : Env) (fp : List Addr) : Cok (X.blk s H scope cenv fp) E0 k :=
  ⟨c.calm, passL, takes0, PassesOwn.never, c.hr, c.nd⟩
/-! ### globals -/
section
variable {cl : Nat → Addr} {X : Cx} {E : XK} {a b : Expr} {fa fb : Sl → Sto → Res D} {pos : Pos}
theorem de_glob {x : Str} {d : D} {v : V} {u : Value} (hg : Gl X x) (hm : X.mg x = some u) (r : RelV v u) (rv : ∀ m H, RV X.K m H d v) (hd : (x == ("__debug__" : Str)) = false := by decide) : DE cl X E (.Name x pos) (dC d) :=
  ⟨_, pe_glob hg hm r hd, fun m S H sd σ Q rs rl h => h.here rs (rv m H)⟩
/-! ### fields -/
def getF (cs : List Nat) (f : Str) (d : D) (S : Sto) : Res D := match d with
  | .ref l => match S[l]? with
    | some (.ins c fs) => if c ∈ cs then (match fs.lookup f with
      | some v => .ok v S
      | none => .stuck) else .stuck
    | _ => .stuck
  | _ => .stuck
def dFld (cs : List Nat) (f : Str) (fo : Sl → Sto → Res D) : Sl → Sto → Res D := fun sd S => (fo sd S).bind fun d S1 => getF cs f d S1
theorem RF.look {K : PySem.W.Frag} {m : List Addr} {H : Hp} {f : Str} : ∀ {fs : List (Str × D)} {gs : List (Str × V)} {d : D}, RF K m H fs gs → fs.lookup f = some d → ∃ v, gs.lookup f = some v ∧ RV K m H d v
  | [], _, _, _, e => by cases e
  | (g, d0) :: fs, _, d, ⟨v, gs', e, r, t⟩, h => by
    subst e
    rw [List.lookup_cons] at h ⊢
    dsimp only at h ⊢
    cases q : (f == g) with
    | true => rw [q] at h; cases h; exact ⟨v, rfl, r⟩
    | false => rw [q] at h; exact RF.look t h
theorem RF.nolook {K : PySem.W.Frag} {m : List Addr} {H : Hp} {f : Str} : ∀ {fs : List (Str × D)} {gs : List (Str × V)}, RF K m H fs gs → fs.lookup f = none → gs.lookup f = none
  | [], _, r, _ => by cases r; rfl
  | (g, d0) :: fs, _, ⟨v, gs', e, r, t⟩, h => by
    subst e
    rw [List.lookup_cons] at h ⊢
    dsimp only at h ⊢
    cases q : (f == g) with
    | true => rw [q] at h; cases h
    | false => rw [q] at h; exact RF.nolook t h
theorem RF.length {K : PySem.W.Frag} {m : List Addr} {H : Hp} : ∀ {fs : List (Str × D)} {gs : List (Str × V)}, RF K m H fs gs → fs.length = gs.length
  | [], _, r => by cases r; rfl
  | _ :: _, _, ⟨v, gs', e, r, t⟩ => by subst e; simp [RF.length t]
theorem de_fld {f : Str} {cs : List Nat} (hc : ∀ c ∈ cs, Cls X.K (cl c) ∧ NoAttr X.K (cl c) f) (ha : DE cl X E a fa) (hb : attributeBase a f X.env (eval a X.env) = eval a X.env := by rfl) : DE cl X E (.Attribute a f pos) (dFld cs f fa) := by
  obtain ⟨t, p, ha⟩ := ha
  refine ⟨_, pe_fld p hb, fun m S H sd σ Q rs rl h => ?_⟩
  refine ha m S H sd σ _ rs rl (Post.bind h fun x S1 m1 vx H1 x1 k1 rs1 rx h1 => ?_)
  unfold getF at h1
  split at h1
  · rename_i l
    split at h1
    · rename_i c fs e1
      split at h1
      · rename_i hcs
        split at h1
        · rename_i d ed
          obtain ⟨p', hm', dx, gs, hv, r1⟩ := rs1.adr e1
          obtain ⟨p2, h2, rfl⟩ := rx
          rw [hm'] at h2; cases h2
          obtain ⟨v, ev, rv⟩ := r1.look ed
          exact ⟨p', _, dx, gs, v, rfl, hv, (hc c hcs).1, (hc c hcs).2, ev, h1.here rs1 rv⟩
        · exact h1.elim
      · exact h1.elim
    · exact h1.elim
  · exact h1.elim
def putFD (f : Str) (v : D) : List (Str × D) → List (Str × D)
  | [] => [(f, v)]
  | (g, u) :: r => if g = f then (g, v) :: r else (g, u) :: putFD f v r
theorem putF_eq (f : Str) (v : V) : ∀ fs : List (Str × V), putF f v fs = match fs with
    | [] => [(f, v)]
    | (g, u) :: r => if g = f then (g, v) :: r else (g, u) :: putF f v r
  | [] => rfl
  | (g, u) :: r => rfl
theorem RF.putF {K : PySem.W.Frag} {m : List Addr} {H : Hp} {f : Str} {d : D} {v : V} (rv : RV K m H d v) : ∀ {fs : List (Str × D)} {gs : List (Str × V)}, RF K m H fs gs → RF K m H (putFD f d fs) (L2.putF f v gs)
  | [], _, r => by cases r; exact ⟨v, [], rfl, rv, rfl⟩
  | (g, d0) :: fs, _, ⟨w, gs', e, r, t⟩ => by
    subst e
    rw [putF_eq]
    unfold putFD
    dsimp only
    split
    · exact ⟨v, gs', rfl, rv, t⟩
    · exact ⟨w, _, rfl, r, RF.putF rv t⟩
def setF (cs : List Nat) (f : Str) (o v : D) (S : Sto) : Res Unit := match o with
  | .ref l => match S[l]? with
    | some (.ins c fs) => if c ∈ cs ∧ fs.length < 1000 then .ok () (S.set l (.ins c (putFD f v fs))) else .stuck
    | _ => .stuck
  | _ => .stuck
theorem setF_ok {f : Str} {cs : List Nat} (hc : ∀ c ∈ cs, Cls X.K (cl c) ∧ NoAttr X.K (cl c) f) {m : List Addr} {S : Sto} {H : Hp} {o v : D} {vo vv : V} {Q : Hp → Prop} (rs : RS cl X.K m S H) (ro : RV X.K m H o vo) (rv : RV X.K m H v vv)
    (h : Post cl X.K (fun _ _ (_ _ : Unit) => True) m H E (fun _ H => Q H) (setF cs f o v S)) :
    ∃ a C dx fs, vo = .ref a ∧ H a = some (.ins C dx fs) ∧ Cls X.K C ∧ NoAttr X.K C f ∧ fs.length < 1000 ∧ Q (upd H a (.ins C dx (putF f vv fs))) := by
  unfold setF at h
  split at h
  · rename_i l
    split at h
    · rename_i c fs e1
      split at h
      · rename_i hz
        obtain ⟨p', hm', dx, gs, hv, r1⟩ := rs.adr e1
        obtain ⟨p2, h2, rfl⟩ := ro
        rw [hm'] at h2; cases h2
        have kp := rs.keepPut (u := .ins (cl c) dx (putF f vv gs)) e1 hm'
        exact ⟨p', _, dx, gs, rfl, hv, (hc c hz.1).1, (hc c hz.1).2, by rw [← r1.length]; exact hz.2, h m () _ (Ext.refl _) kp (rs.put e1 hm' ⟨dx, _, upd_same, (r1.mono (Ext.refl _) kp).putF (RV.mono (Ext.refl _) kp v rv)⟩) trivial⟩
      · exact h.elim
    · exact h.elim
  · exact h.elim
def sFldD (cs : List Nat) (f : Str) (fo fv : Sl → Sto → Res D) : Sl → Sto → Res Fl := fun sd S => (fv sd S).bind fun v S1 => (fo sd S1).bind fun o S2 => (setF cs f o v S2).bind fun _ S3 => .ok (.nx sd) S3
theorem ds_fld {f : Str} {cs : List Nat} {o value : Expr} {fo fv} {pos' : Pos} (hc : ∀ c ∈ cs, Cls X.K (cl c) ∧ NoAttr X.K (cl c) f) (ho : DE cl X E o fo) (hv : DE cl X E value fv) (hs : swapsWith value (some (.Attribute o f pos')) pos.line X.env = pure false := by rfl) :
    DS cl X E (.Assign [.Attribute o f pos'] value pos) (sFldD cs f fo fv) := by
  obtain ⟨t, p, ho⟩ := ho
  obtain ⟨u, q, hv⟩ := hv
  refine ⟨_, ps_fld p q hs, fun m S H sd σ D rs rl h => ?_⟩
  refine hv m S H sd σ _ rs rl (Post.bind h fun v S1 m1 vv H1 x1 k1 rs1 rv h1 => ?_)
  refine ho m1 S1 H1 sd σ _ rs1 (rl.mono x1 k1) (Post.bind h1 fun o S2 m2 vo H2 x2 k2 rs2 ro h2 => ?_)
  refine setF_ok hc rs2 ro (RV.mono x2 k2 v rv) (Post.bind h2 fun _ S3 m3 _ H3 x3 k3 rs3 _ h3 => ?_)
  exact h3.toNx rs3 (rl.mono ((x1.trans x2).trans x3) ((k1.trans k2).trans k3))
theorem pg_fld {o : Expr} {f : Str} {to : TE} (ho : PE X o to)
    (ha : ∀ v, assign (.Attribute o f pos) X.env v = (do
      let ov ← holding [v] (eval o X.env)
      standAt pos.atName
      holding [v, ov] (setAttr ov f v)
      release [v, ov] []) := by intro _; rfl) : PG X (.Attribute o f pos) (fun y σ H Q => to σ H fun x H2 => ∃ a C dx fs, x = .ref a ∧ H2 a = some (.ins C dx fs) ∧ Cls X.K C ∧ NoAttr X.K C f ∧ fs.length < 1000 ∧ Q σ (upd H2 a (.ins C dx (putF f y fs)))) := by
  refine ⟨fun pins s σ H v u Q I r h => ?_⟩
  rw [ha]
  refine wpAny_bind (wpAny_holding (thn (ho.run pins s σ H _ I h) fun ov s1 ⟨x, H1, I1, r1, q1⟩ => ?_))
  obtain ⟨a, C, dx, fs, rfl, ea, c, n, hl, q⟩ := q1
  obtain rfl : ov = Value.ref a := r1
  refine wpAny_bind (wpAny_standAt (wpAny_bind (wpAny_holding (setattr_ok I1 ea c n hl r fun s2 I2 => ?_))))
  exact wpAny_release ⟨σ, _, I2, q⟩
def gFldD (cs : List Nat) (f : Str) (fo : Sl → Sto → Res D) : D → Sl → Sto → Res Sl := fun v sd S => (fo sd S).bind fun o S2 => (setF cs f o v S2).bind fun _ S3 => .ok sd S3
theorem dg_fld {f : Str} {cs : List Nat} {o : Expr} {fo} (hc : ∀ c ∈ cs, Cls X.K (cl c) ∧ NoAttr X.K (cl c) f) (ho : DE cl X E o fo)
    (ha : ∀ v, assign (.Attribute o f pos) X.env v = (do
      let ov ← holding [v] (eval o X.env)
      standAt pos.atName
      holding [v, ov] (setAttr ov f v)
      release [v, ov] []) := by intro _; rfl) : DG cl X E (.Attribute o f pos) (gFldD cs f fo) := by
  obtain ⟨t, p, ho⟩ := ho
  refine ⟨_, pg_fld p ha, fun m S H sd σ d v Q rs rl rv h => ?_⟩
  refine ho m S H sd σ _ rs rl (Post.bind h fun o S2 m2 vo H2 x2 k2 rs2 ro h2 => ?_)
  refine setF_ok hc rs2 ro (RV.mono x2 k2 d rv) (Post.bind h2 fun _ S3 m3 _ H3 x3 k3 rs3 _ h3 => ?_)
  exact h3.here rs3 (rl.mono (x2.trans x3) (k2.trans k3))
end
/-! ### defs -/
def spD (cl : Nat → Addr) (K : PySem.W.Frag) (n : Nat) (F : List D → Sto → Res D) : Sp := fun vs H Q E => ∃ m S ds, ds.length = n ∧ RS cl K m S H ∧ RVs K m H ds vs ∧ Post cl K (RV K) m H E Q (F ds S)
/-- the def at f does what F does -/
structure FnD (P : Program) (w : World) (cl : Nat → Addr) (K : PySem.W.Frag) (mg : Str → Option Value) (base : Heap) (k : Nat) (f : Addr) (n : Nat) (F : List D → Sto → Res D) : Prop where
  kp : PySem.W.keepIn K (.ref f) = true
  ex : ∃ fd ps, ps.length = n ∧ Binds K fd ps [] ∧ FnOk P w K mg base (L2.CX P w) k f fd ps (spD cl K n F)
def startD (n : Nat) (ds : List D) : Sl := ds.map some ++ List.replicate (n - ds.length) none
/-- a body as a def -/
def fnRes : Res Fl → Res D
  | .ok (.nx _) S => .ok .non S
  | .ok (.ret d) S => .ok d S
  | .exc x S => .exc x S
  | _ => .stuck
def dFn (n : Nat) (Fb : Sl → Sto → Res Fl) : List D → Sto → Res D := fun ds S => fnRes (Fb (startD n ds) S)
theorem start_rl {K : PySem.W.Frag} {m : List Addr} {H : Hp} {ds : List D} {vs : List V} {N : List Str} (r : RVs K m H ds vs) : RSl K m H (startD N.length ds) (L2.start N vs) := by
  have hl := r.length
  refine ⟨by simp [startD, L2.start, hl], fun i d e => ?_⟩
  unfold startD at e
  unfold L2.start
  by_cases hi : i < ds.length
  · rw [List.getElem?_append_left (by simpa using hi), List.getElem?_map] at e
    obtain ⟨d', e1, e2⟩ := Option.map_eq_some_iff.mp e
    cases e2
    obtain ⟨v, ev, rv⟩ := r.get e1
    exact ⟨v, by rw [List.getElem?_append_left (by simp; omega), List.getElem?_map, ev]; rfl, rv⟩
  · rw [List.getElem?_append_right (by simpa using hi)] at e
    rw [List.getElem?_replicate] at e
    split at e <;> cases e
section
variable {P : Program} {w : World} {cl : Nat → Addr} {K : PySem.W.Frag} {mg : Str → Option Value} {base : Heap} {f : Addr} {fd : FuncData}
theorem cok_of {k : Nat} {N : List Str} {ps : List Str} {qual : Str} {scope : Scope} {cdv : Value} {A : Around} {outer : List Env} {s : Shared} {H : Hp} {E : XK} (S : FnScope N ps scope)
    (hr : Room k (A.deeper (envOfC qual scope s.heap.objs.size f cdv))) : Cok (cxOf (L2.CX P w) P w K mg base N qual scope f cdv A outer s H E) E k := by
  have tk : Takes (cxOf (L2.CX P w) P w K mg base N qual scope f cdv A outer s H E) (fun cls d _ H => E cls d H) := takes_of rfl rfl rfl rfl
  exact ⟨rfl, passes_call tk fun _ _ _ _ h => h, tk, passes_of rfl, hr, S.nd⟩
/-- THE RULE for a def: by its body -/
theorem fnD_of {k : Nat} {x qual : Str} {params : Arguments} {body : List Stmt} {scope : Scope} {N ps : List Str} {Fb : Sl → Sto → Res Fl} (Fu : FunD K x qual params body scope [] [] f fd) (S : FnScope N ps scope)
    (hb : ∀ (kV doc pm : Value) (an : Option Addr) (cdv ct : Value) (us : List Value), us.length = ps.length → bindArgs (PySem.W.fnOf x qual params body scope .none kV doc pm an cdv ct) ⟨us, []⟩ = pure (ps.zip us))
    (hbody : ∀ (cdv : Value) (A : Around) (outer : List Env) (s : Shared) (H : Hp) (E : XK), Cok (cxOf (L2.CX P w) P w K mg base N qual scope f cdv A outer s H E) E k → DSs cl (cxOf (L2.CX P w) P w K mg base N qual scope f cdv A outer s H E) E body Fb) :
    FnD P w cl K mg base (k + 1) f ps.length (dFn N.length Fb) := by
  refine ⟨Fu.kp, fd, ps, rfl, Fu.bindsN hb, ?_⟩
  refine Fu.ok S (fun vs H Q E h => ?_) (fun cdv A outer s H vs Q E hr h => ?_)
  · obtain ⟨m, St, ds, hl, rs, rv, _⟩ := h
    rw [← rv.length, hl]
  · obtain ⟨m, St, ds, hl, rs, rv, h⟩ := h
    obtain ⟨t, p, hh⟩ := hbody cdv A outer s H E (cok_of S hr)
    refine ⟨t, p, hh m St H (startD N.length ds) (L2.start N vs) _ rs (start_rl rv) ?_⟩
    unfold dFn at h
    cases hres : Fb (startD N.length ds) St with
    | ok fl S1 =>
      rw [hres] at h
      intro m1 v H1 x1 k1 rs1 rv1
      cases fl with
      | nx sd =>
        cases v with
        | nx σ1 => exact h m1 .non H1 x1 k1 rs1 rfl
        | _ => exact rv1.elim
      | ret d =>
        cases v with
        | ret u => exact h m1 u H1 x1 k1 rs1 rv1
        | _ => exact rv1.elim
      | brk sd => exact h.elim
      | cnt sd => exact h.elim
    | exc x S1 =>
      rw [hres] at h
      exact h
    | stuck =>
      rw [hres] at h
      exact h.elim
theorem FnD.mono {j k n : Nat} {F} (h : FnD P w cl K mg base j f n F) (hk : j ≤ k) : FnD P w cl K mg base k f n F := by
  obtain ⟨kp, fd, ps, hl, hb, F⟩ := h
  exact ⟨kp, fd, ps, hl, hb, F.mono hk⟩
end
/-! ### calls of own defs -/
section
variable {cl : Nat → Addr} {X : Cx} {E : XK} {k n : Nat} {f C : Addr} {x m : Str} {p pos apos : Pos} {e o : Expr} {es : List Expr} {fa fo : Sl → Sto → Res D} {fs : Sl → Sto → Res (List D)} {F : List D → Sto → Res D}
def dCallF (n : Nat) (F : List D → Sto → Res D) (fs : Sl → Sto → Res (List D)) : Sl → Sto → Res D := fun sd S => (fs sd S).bind fun ds S1 => if ds.length = n then F ds S1 else .stuck
theorem de_call (hF : FnD X.prog X.w cl X.K X.mg X.base k f n F) (hr : Room k X.A) (hx : Passes (L2.CX X.prog X.w) X E) (hg : Gl X x) (hm : X.mg x = some (.ref f)) (ha : DA cl X E (e :: es) fs) (hdb : (x == ("__debug__" : Str)) = false := by decide)
    (he : starEach (e :: es) X.env = (false, eval e X.env) :: starEach es X.env := by rfl) (hpl : (backTo pos (starEach es X.env)).any (·.1) = false := by rfl) : DE cl X E (.Call (.Name x p) (e :: es) [] pos) (dCallF n F fs) := by
  obtain ⟨kp, fd, ps, hl, hb, hF⟩ := hF
  obtain ⟨t, q, ha⟩ := ha
  refine ⟨_, pe_call hF hr hg hm kp hb .nil hx q hdb he hpl, fun m S H sd σ Q rs rl h => ?_⟩
  refine ha m S H sd σ _ rs rl (Post.bind h fun ds S1 m1 vs H1 x1 k1 rs1 rv h1 => ?_)
  split at h1
  · rename_i hz
    rw [List.append_nil]
    exact ⟨m1, S1, ds, hz, rs1, rv, h1⟩
  · exact h1.elim
theorem de_call0 (hF : FnD X.prog X.w cl X.K X.mg X.base k f 0 F) (hr : Room k X.A) (hx : Passes (L2.CX X.prog X.w) X E) (hg : Gl X x) (hm : X.mg x = some (.ref f)) (hdb : (x == ("__debug__" : Str)) = false := by decide) : DE cl X E (.Call (.Name x p) [] [] pos) (dCallF 0 F dNil) := by
  obtain ⟨kp, fd, ps, hl, hb, hF⟩ := hF
  refine ⟨_, pe_call0 hF hr hg hm kp hb .nil hx hdb, fun m S H sd σ Q rs rl h => ?_⟩
  exact ⟨m, S, [], rfl, rs, rfl, h⟩
/-- o.m(..), o of the class c -/
def dMeth (c : Nat) (m : Str) (n : Nat) (F : List D → Sto → Res D) (fo : Sl → Sto → Res D) (fs : Sl → Sto → Res (List D)) : Sl → Sto → Res D := fun sd S => (fo sd S).bind fun d S1 => match d with
  | .ref l => match S1[l]? with
    | some (.ins c' gs) => if c' = c ∧ gs.lookup m = none then (fs sd S1).bind fun ds S2 => if ds.length + 1 = n then F (d :: ds) S2 else .stuck else .stuck
    | _ => .stuck
  | _ => .stuck
theorem de_meth {c : Nat} {pl : Sem Bool} (ho : DE cl X E o fo) (hc : Cls X.K (cl c)) (hm : Meth X.K (cl c) m f) (hF : FnD X.prog X.w cl X.K X.mg X.base k f n F) (hr : Room k X.A) (hx : Passes (L2.CX X.prog X.w) X E) (ha : DA cl X E (e :: es) fs)
    (hst : starEach (e :: es) X.env = (false, eval e X.env) :: starEach es X.env := by rfl) (hpl : (backTo pos (starEach es X.env)).any (·.1) = false := by rfl)
    (ht : eval (.Call (.Attribute o m apos) (e :: es) [] pos) X.env = (do
      let ov ← eval o X.env
      standAt apos.atName
      let (f, first) ← holding [ov] (getMethod ov m pl)
      callWith pos f first (backTo pos (starEach (e :: es) X.env)) (backToKw pos (keywordEach [] X.env))) := by rfl) : DE cl X E (.Call (.Attribute o m apos) (e :: es) [] pos) (dMeth c m n F fo fs) := by
  obtain ⟨kp, fd, ps, hl, hb, hF⟩ := hF
  obtain ⟨t, q, ha⟩ := ha
  obtain ⟨to, po, ho⟩ := ho
  refine ⟨_, pe_meth po hc hm hF hr hb .nil hx q hst hpl ht, fun m0 S H sd σ Q rs rl h => ?_⟩
  refine ho m0 S H sd σ _ rs rl (Post.bind h fun d S1 m1 vd H1 x1 k1 rs1 rd h1 => ?_)
  cases d with
  | ref l =>
    dsimp only at h1
    split at h1
    · rename_i c' gs e1
      split at h1
      · rename_i hz
        obtain ⟨rfl, hno⟩ := hz
        obtain ⟨p', hm', dx, gv, hv, r1⟩ := rs1.adr e1
        obtain ⟨p2, h2, rfl⟩ := id rd
        rw [hm'] at h2; cases h2
        refine ⟨p', dx, gv, rfl, hv, r1.nolook hno, ?_⟩
        refine ha m1 S1 H1 sd σ _ rs1 (rl.mono x1 k1) (Post.bind h1 fun ds S2 m2 vs H2 x2 k2 rs2 rv h3 => ?_)
        split at h3
        · rename_i hn
          have hn' : (DL.D.ref l :: ds).length = n := hn
          have e0 : (V.ref p' :: vs) ++ [] = V.ref p' :: vs := List.append_nil _
          show spD cl X.K n F ((V.ref p' :: vs) ++ []) H2 Q E
          rw [e0]
          exact ⟨m2, S2, .ref l :: ds, hn', rs2, ⟨_, _, rfl, RV.mono x2 k2 (.ref l) rd, rv⟩, h3⟩
        · exact h3.elim
      · exact h1.elim
    · exact h1.elim
  | _ => exact h1.elim
theorem de_meth0 {c : Nat} {pl : Sem Bool} (ho : DE cl X E o fo) (hc : Cls X.K (cl c)) (hm : Meth X.K (cl c) m f) (hF : FnD X.prog X.w cl X.K X.mg X.base k f 1 F) (hr : Room k X.A) (hx : Passes (L2.CX X.prog X.w) X E)
    (ht : eval (.Call (.Attribute o m apos) [] [] pos) X.env = (do
      let ov ← eval o X.env
      standAt apos.atName
      let (f, first) ← holding [ov] (getMethod ov m pl)
      callWith pos f first (backTo pos (starEach [] X.env)) (backToKw pos (keywordEach [] X.env))) := by rfl) : DE cl X E (.Call (.Attribute o m apos) [] [] pos) (dMeth c m 1 F fo dNil) := by
  obtain ⟨kp, fd, ps, hl, hb, hF⟩ := hF
  obtain ⟨to, po, ho⟩ := ho
  refine ⟨_, pe_meth0 po hc hm hF hr hb .nil hx ht, fun m0 S H sd σ Q rs rl h => ?_⟩
  refine ho m0 S H sd σ _ rs rl (Post.bind h fun d S1 m1 vd H1 x1 k1 rs1 rd h1 => ?_)
  cases d with
  | ref l =>
    dsimp only at h1
    split at h1
    · rename_i c' gs e1
      split at h1
      · rename_i hz
        obtain ⟨rfl, hno⟩ := hz
        obtain ⟨p', hm', dx, gv, hv, r1⟩ := rs1.adr e1
        obtain ⟨p2, h2, rfl⟩ := id rd
        rw [hm'] at h2; cases h2
        exact ⟨p', dx, gv, rfl, hv, r1.nolook hno, m1, S1, [.ref l], rfl, rs1, ⟨_, _, rfl, rd, rfl⟩, h1⟩
      · exact h1.elim
    · exact h1.elim
  | _ => exact h1.elim
/-- C(..) -/
def dMake (c : Nat) (n : Nat) (F : List D → Sto → Res D) (fs : Sl → Sto → Res (List D)) : Sl → Sto → Res D := fun sd S => (fs sd S).bind fun ds S1 => if ds.length + 1 = n then (F (.ref S1.length :: ds) (S1 ++ [.ins c []])).bind fun r S2 => match r with
    | .non => .ok (.ref S1.length) S2
    | _ => .stuck
  else .stuck
theorem make_core {c : Nat} {m0 : List Addr} {S : Sto} {H : Hp} {ds : List D} {vs : List V} {Q : VK} (rs : RS cl X.K m0 S H) (rv : RVs X.K m0 H ds vs) (hn : ds.length + 1 = n)
    (h : Post cl X.K (RV X.K) m0 H E Q ((F (.ref S.length :: ds) (S ++ [.ins c []])).bind fun r S2 => match r with | .non => .ok (.ref S.length) S2 | _ => .stuck)) :
    ∀ x dx, H x = none → H dx = none → dx ≠ x → spD cl X.K n F (.ref x :: (vs ++ [])) (upd (upd H dx (.own x)) x (.ins (cl c) dx [])) (fun v H2 => v = .non ∧ Q (.ref x) H2) E := by
  intro x dx hx hd hne
  have hx2 : (upd H dx (.own x)) x = none := by rw [upd_ne (Ne.symm hne)]; exact hx
  have k2 : Keep H (upd (upd H dx (.own x)) x (.ins (cl c) dx [])) := (Keep.new hd).trans (Keep.new hx2)
  have rs2 := (rs.ext (u := .own x) hd).new (u := .ins (cl c) dx []) (o := .ins c []) hx2 ⟨dx, [], upd_same, rfl⟩
  have x2 := Ext.snoc m0 x
  have em : (m0 ++ [x])[S.length]? = some x := by rw [← rs.len]; simp
  rw [List.append_nil]
  refine ⟨m0 ++ [x], S ++ [.ins c []], .ref S.length :: ds, by simpa using hn, rs2, ⟨_, _, rfl, ⟨x, em, rfl⟩, rv.mono x2 k2⟩, Post.bind (Post.mono x2 k2 h) fun r S3 m3 v H3 x3 k3 rs3 rv3 h3 => ?_⟩
  cases r with
  | non => exact ⟨rv3, h3.here rs3 ⟨x, x3 _ _ em, rfl⟩⟩
  | _ => exact h3.elim
theorem de_make {c : Nat} (M : Mk X.K (cl c) f) (hF : FnD X.prog X.w cl X.K X.mg X.base k f n F) (hr : Room (k + 1) X.A) (hx : Passes (L2.CX X.prog X.w) X E) (hg : Gl X x) (hm : X.mg x = some (.ref (cl c))) (ha : DA cl X E (e :: es) fs) (hdb : (x == ("__debug__" : Str)) = false := by decide)
    (he : starEach (e :: es) X.env = (false, eval e X.env) :: starEach es X.env := by rfl) (hpl : (backTo pos (starEach es X.env)).any (·.1) = false := by rfl) : DE cl X E (.Call (.Name x p) (e :: es) [] pos) (dMake c n F fs) := by
  obtain ⟨kp, fd, ps, hl, hb, hF⟩ := hF
  obtain ⟨t, q, ha⟩ := ha
  refine ⟨_, pe_make M hF hr hg hm hb .nil hx q hdb he hpl, fun m S H sd σ Q rs rl h => ?_⟩
  refine ha m S H sd σ _ rs rl (Post.bind h fun ds S1 m1 vs H1 x1 k1 rs1 rv h1 => ?_)
  split at h1
  · rename_i hz
    exact make_core rs1 rv hz h1
  · exact h1.elim
theorem de_make0 {c : Nat} (M : Mk X.K (cl c) f) (hF : FnD X.prog X.w cl X.K X.mg X.base k f 1 F) (hr : Room (k + 1) X.A) (hx : Passes (L2.CX X.prog X.w) X E) (hg : Gl X x) (hm : X.mg x = some (.ref (cl c))) (hdb : (x == ("__debug__" : Str)) = false := by decide) :
    DE cl X E (.Call (.Name x p) [] [] pos) (dMake c 1 F dNil) := by
  obtain ⟨kp, fd, ps, hl, hb, hF⟩ := hF
  refine ⟨_, pe_make0 M hF hr hg hm hb .nil hx hdb, fun m S H sd σ Q rs rl h => ?_⟩
  exact make_core rs (ds := []) (vs := []) rfl rfl h
end
end DL

namespace DL
open PySem PySem.Spec PyProof.Rows L2
/-! ### exceptions of the text's own -/
section
variable {X : Cx} {o e : Expr} {es : List Expr} {to te : TE} {ta : TA} {f : Str} {p p' p1 p2 pos : Pos}
/-- B.__init__(self, ..), B an own class over ValueError without __init__ -/
theorem pe_beinit {B : Str} {C0 : Addr} {pl : Sem Bool} (hg : Gl X B) (hm : X.mg B = some (.ref C0)) (hs1 : PySem.W.specialIn X.K (.ref C0) "__getattribute__" = some (some (.builtin "type.__getattribute__"))) (hrd : PySem.W.readsIn X.K C0 (.type "type") = true)
    (vV : PySem.W.findCls X.K (.ref C0) (.type "type") "__init__" = some (.val (.builtin "ValueError.__init__"))) (ha : PA X (e :: es) ta) (hdb : (B == ("__debug__" : Str)) = false := by decide)
    (hc : eval (.Call (.Attribute (.Name B p1) "__init__" p2) (e :: es) [] pos) X.env = (do
      let ov ← eval (.Name B p1) X.env
      standAt p2.atName
      let (f, first) ← holding [ov] (getMethod ov "__init__" pl)
      callWith pos f first (backTo pos (starEach (e :: es) X.env)) (backToKw pos (keywordEach [] X.env))) := by rfl)
    (he : starEach (e :: es) X.env = (false, eval e X.env) :: starEach es X.env := by rfl) (hpl : (backTo pos (starEach es X.env)).any (·.1) = false := by rfl) :
    PE X (.Call (.Attribute (.Name B p1) "__init__" p2) (e :: es) [] pos) (tVeI X.K ta) := by
  refine ⟨fun pins s σ H Q I h => ?_⟩
  refine PySem.W.methodCall_KW (ld_glob I hg hm ?_ hdb) hc
  refine PySem.W.method_cls I.kIn hs1 (PySem.W.cls_value I.kIn hrd vV (by decide +kernel) ?_)
  show wpAny _ _ (callWith pos (Value.builtin "ValueError.__init__") [] (backTo pos (starEach (e :: es) X.env)) []) _ _ _
  refine PyProof.Rows.callWith_method1 (thn (ha.run pos pins _ σ H _ (I.tok _) h) fun us s1 ⟨vs, H1, I1, r1, a, C, ws, ev, hl, T, ea, q⟩ => ?_) he hpl
  subst ev
  cases r1 with
  | @cons _ u0 _ ur ra rw' =>
    obtain rfl : u0 = Value.ref a := ra
    have hlen : ur.length ≤ sizeLine := by
      rw [← Paired.length rw', sizeLine_eq]
      omega
    exact oinit_ok T I1 ea hlen fun s' J => ⟨.non, H1, J, rfl, q⟩
end
/-- what an __init__ of one field promises; of two -/
def spEx1 (K : PySem.W.Frag) (C : Addr) (f : Str) : Sp := fun vs H Q _ => ∃ a y, vs = [.ref a, y] ∧ OexC K C ∧ PySem.W.findIn K (.ref C) f = some none ∧ H a = some (exo a C none) ∧
  ∀ dx, H dx = none → dx ≠ a → Q .non (upd (upd H dx (exd dx [(f, y)])) a (exo a C (some dx)))
def spEx2 (K : PySem.W.Frag) (C : Addr) (f g : Str) : Sp := fun vs H Q _ => ∃ a y z, vs = [.ref a, y, z] ∧ OexC K C ∧ PySem.W.findIn K (.ref C) f = some none ∧ PySem.W.findIn K (.ref C) g = some none ∧ H a = some (exo a C none) ∧
  ∀ dx, H dx = none → dx ≠ a → Q .non (upd (upd (upd H dx (exd dx [(f, y)])) a (exo a C (some dx))) dx (exd dx [(g, z), (f, y)]))
structure ExB (K : PySem.W.Frag) (C0 : Addr) : Prop where
  hs1 : PySem.W.specialIn K (.ref C0) "__getattribute__" = some (some (.builtin "type.__getattribute__"))
  hrd : PySem.W.readsIn K C0 (.type "type") = true
  vV : PySem.W.findCls K (.ref C0) (.type "type") "__init__" = some (.val (.builtin "ValueError.__init__"))
/-- an own exception class, by its __init__ -/
structure ExC (P : Program) (w : World) (cl : Nat → Addr) (K : PySem.W.Frag) (mg : Str → Option Value) (base : Heap) (c n : Nat) (fs : List Str) : Prop where
  oex : OexC K (cl c)
  nof : ∀ f ∈ fs, PySem.W.findIn K (.ref (cl c)) f = some none
  ex : ∃ fI fd ps sp, PySem.W.findIn K (.ref (cl c)) "__init__" = some (some (.ref fI)) ∧ PySem.W.typeIn K (.ref fI) = some (.type "function") ∧ Binds K fd ps [] ∧ FnOk P w K mg base (L2.CX P w) n fI fd ps sp ∧
    (match fs with
      | [f] => sp = spEx1 K (cl c) f
      | [f, g] => sp = spEx2 K (cl c) f g
      | _ => False)
/-- raise X(e, ..): what is raised -/
def sRaise (c : Nat) (fs : List Str) (fa : Sl → Sto → Res (List D)) : Sl → Sto → Res Fl := fun sd S => (fa sd S).bind fun ds S1 => match fs, ds with
  | [f], [d] => .exc ⟨c, some [(f, d)]⟩ S1
  | [f, g], [d, e] => .exc ⟨c, some [(g, e), (f, d)]⟩ S1
  | _, _ => .stuck
def sRaiseT (c : Nat) : Sl → Sto → Res Fl := fun _ S => .exc ⟨c, none⟩ S
section
variable {cl : Nat → Addr} {X : Cx} {E : XK} {k : Nat} {x : Str} {e : Expr} {es : List Expr} {fa : Sl → Sto → Res (List D)} {p pos pos' : Pos}
theorem del_upd {H : Hp} {a dx : Addr} {u v w : HO} (ha : H a = none) (hd : H dx = none) (hne : dx ≠ a) : upd (del (upd (upd (upd H a u) dx v) a w) a) dx (.xd [] : HO) = upd H dx (.xd []) := by
  funext b
  by_cases h1 : b = dx
  · subst h1; rw [upd_same, upd_same]
  · rw [upd_ne h1, upd_ne h1]
    by_cases h2 : b = a
    · subst h2; rw [del_same, ha]
    · rw [del_ne h2, upd_ne h2, upd_ne h1, upd_ne h2]
theorem heap_eq {H G : Hp} {a dx : Addr} {u : HO} (ha : H a = none) (hg : ∀ b, b ≠ a → b ≠ dx → G b = H b) : upd (del G a) dx u = upd H dx u := by
  funext b
  by_cases h1 : b = dx
  · subst h1; rw [upd_same, upd_same]
  · rw [upd_ne h1, upd_ne h1]
    by_cases h2 : b = a
    · subst h2; rw [del_same, ha]
    · rw [del_ne h2, hg b h2 h1]
theorem ds_raise {c : Nat} {fs : List Str} (hE : ExC X.prog X.w cl X.K X.mg X.base c k fs) (co : Cok X E (k + 1)) (hg : Gl X x) (hm : X.mg x = some (.ref (cl c))) (ha : DA cl X E (e :: es) fa)
    (hdb : (x == ("__debug__" : Str)) = false := by decide) (he : starEach (e :: es) X.env = (false, eval e X.env) :: starEach es X.env := by rfl) (hpl : (backTo pos (starEach es X.env)).any (·.1) = false := by rfl) :
    DS cl X E (.Raise (some (.Call (.Name x p) (e :: es) [] pos)) none pos') (sRaise c fs fa) := by
  obtain ⟨oex, nof, fI, fd, ps, sp, iC, tI, hb, hF, hsp⟩ := hE
  obtain ⟨t, q, ha⟩ := ha
  have hx : Passes (L2.CX X.prog X.w) X (fun _ _ _ => False) := passL
  refine ⟨_, ps_raise co.calm co.tk (pmk_oex oex iC tI hF co.hr hb .nil hx hg hm q hdb he hpl), fun m S H sd σ D rs rl h => ?_⟩
  refine ha m S H sd σ _ rs rl (Post.bind h fun ds S1 m1 vs H1 x1 k1 rs1 rv h1 => ?_)
  split at h1
  · rename_i f d
    obtain ⟨v, rfl, r1⟩ := rvs1 rv
    have hsp' : sp = spEx1 X.K (cl c) f := hsp
    subst hsp'
    refine ⟨by show 1 ≤ 1000; decide, fun a na => ⟨a, v, rfl, oex, nof f (by simp), upd_same, fun dx hdx hne => ?_⟩⟩
    have hdx1 : H1 dx = none := by rw [upd_ne hne] at hdx; exact hdx
    refine ⟨rfl, dx, [(f, v)], upd_same, ?_, hdx1, ?_⟩
    · rw [upd_ne hne, upd_same]
    · rw [heap_eq na fun b b1 b2 => by rw [upd_ne b1, upd_ne b2, upd_ne b1]]
      exact h1 m1 (some dx) _ (Ext.refl _) (Keep.new hdx1) (rs1.ext hdx1) ⟨dx, _, rfl, upd_same, v, [], rfl, RV.mono (Ext.refl _) (Keep.new hdx1) d r1, rfl⟩
  · rename_i f g d d'
    obtain ⟨v, v', rfl, r1, r2⟩ := rvs2 rv
    have hsp' : sp = spEx2 X.K (cl c) f g := hsp
    subst hsp'
    refine ⟨by show 2 ≤ 1000; decide, fun a na => ⟨a, v, v', rfl, oex, nof f (by simp), nof g (by simp), upd_same, fun dx hdx hne => ?_⟩⟩
    have hdx1 : H1 dx = none := by rw [upd_ne hne] at hdx; exact hdx
    refine ⟨rfl, dx, [(g, v'), (f, v)], ?_, upd_same, hdx1, ?_⟩
    · rw [upd_ne (Ne.symm hne), upd_same]
    · rw [heap_eq na fun b b1 b2 => by rw [upd_ne b2, upd_ne b1, upd_ne b2, upd_ne b1]]
      exact h1 m1 (some dx) _ (Ext.refl _) (Keep.new hdx1) (rs1.ext hdx1) ⟨dx, _, rfl, upd_same, v', _, rfl, RV.mono (Ext.refl _) (Keep.new hdx1) d' r2, v, [], rfl, RV.mono (Ext.refl _) (Keep.new hdx1) d r1, rfl⟩
  · exact h1.elim
/-- raise X('..') without own __init__ -/
structure ExT (K : PySem.W.Frag) (C : Addr) : Prop where
  xP : PySem.W.excIn K C [.type "ValueError", .type "Exception", .type "BaseException", .type "object"] "ValueError.__new__" = true
  kP : PySem.W.keepIn K (.ref C) = true
  bP : PySem.W.subIn K (.ref C) (.type "BaseException") = some true
  tP : PySem.W.typeIn K (.ref C) = some (.type "type")
theorem ds_raiseT {c : Nat} {msg : Str} {j : Nat} {p2 : Pos} (T : ExT X.K (cl c)) (co : Cok X E k) (hg : Gl X x) (hm : X.mg x = some (.ref (cl c))) (hdb : (x == ("__debug__" : Str)) = false := by decide) :
    DS cl X E (.Raise (some (.Call (.Name x p) [.Constant (.str msg) j p2] [] pos)) none pos') (sRaiseT c) := by
  refine ⟨_, ps_raise co.calm co.tk (pmk_own PySem.F.excBase_ValueError T.xP hm T.kP (raises_own T.bP T.tP) hg hdb), fun m S H sd σ D rs rl h => ?_⟩
  exact h m none H (Ext.refl _) (Keep.refl _) rs rfl
end
end DL

namespace DL
open PySem PySem.Spec PyProof.Rows L2
/-! ### what the top has left: more facts by a Bool -/
/-- the written part: what the module's names reach, and the machine's own words -/
def frE (n : Nat) (g : Addr → Option Obj) : PySem.W.Frag := He.frG g (cStatics :: He.asD g n)
def hookE (n : Nat) (fa : List He.Fa) (fn : List He.DefD) (ex : PySem.W.Frag → Bool) : PySem.W.Hook where
  α := He.AlD × Bool
  obs := fun s => (He.obsD fa fn (frE n s.heap.get?), ex (frE n s.heap.get?))
  val := fun _ => (He.valD fn, true)
  says := fun _ h => ∃ K : PySem.W.Frag, K.In h ∧ He.SaysD fa fn K ∧ ex K = true
  of := fun _ s e => ⟨frE n s.heap.get?, He.frG_in, congrArg (fun z : He.AlD × Bool => z.1) e, congrArg (fun z : He.AlD × Bool => z.2) e⟩
  keeps := fun _ _ _ ⟨K, hK, c⟩ k => ⟨K, PySem.W.Frag.In.keeps hK k, c⟩
def obE (n : Nat) (fa : List He.Fa) (fn : List He.DefD) (ex : PySem.W.Frag → Bool) (g : Addr → Option Obj) : He.AlD × Bool := (He.obsD fa fn (frE n g), ex (frE n g))
theorem obE_eq {n : Nat} {fa : List He.Fa} {fn : List He.DefD} {ex : PySem.W.Frag → Bool} {g : Addr → Option Obj} {s : Shared} (h : ∀ a, g a = s.heap.get? a) : obE n fa fn ex g = (hookE n fa fn ex).obs s := by
  have e : g = s.heap.get? := funext h
  subst e
  rfl
/-! ### constants of the module -/
def constB (K : PySem.W.Frag) : Nat → D → Value → Bool
  | _, .non, .none => true
  | _, .bl b, .bool c => b == c
  | _, .int i, .int j _ => decide (i = j)
  | _, .str x, .str y _ => decide (x = y)
  | n + 1, .tup ds, .ref a => match K.lookup a with
    | some o => decide (o.cls = .type "tuple") && (match o.data with
      | .seq its _ => decide (its.size ≤ sizeLine) && allB (constB K n) ds its.toList
      | _ => false)
    | none => false
  | _, _, _ => false
where allB (f : D → Value → Bool) : List D → List Value → Bool
  | [], [] => true
  | d :: ds, u :: us => f d u && allB f ds us
  | _, _ => false
theorem const_all {K : PySem.W.Frag} {f : D → Value → Bool} (hf : ∀ d u, f d u = true → ∃ v, RelV v u ∧ ∀ m H, RV K m H d v) : ∀ (ds : List D) (us : List Value), constB.allB f ds us = true → ∃ vs, Vals vs us ∧ ∀ m H, RVs K m H ds vs
  | [], [], _ => ⟨[], .nil, fun _ _ => rfl⟩
  | [], _ :: _, h => by cases h
  | _ :: _, [], h => by cases h
  | d :: ds, u :: us, h => by
    have h' : (f d u && constB.allB f ds us) = true := h
    rw [Bool.and_eq_true] at h'
    obtain ⟨v, r, rv⟩ := hf d u h'.1
    obtain ⟨vs, r2, rv2⟩ := const_all hf ds us h'.2
    exact ⟨v :: vs, .cons r r2, fun m H => ⟨v, vs, rfl, rv m H, rv2 m H⟩⟩
theorem constB_ok {K : PySem.W.Frag} : ∀ (n : Nat) (d : D) (u : Value), constB K n d u = true → ∃ v, RelV v u ∧ ∀ m H, RV K m H d v := by
  have base : ∀ (n : Nat) (d : D) (u : Value), (∀ ds, d ≠ .tup ds) → constB K n d u = true → ∃ v, RelV v u ∧ ∀ m H, RV K m H d v := by
    intro n d u hd h
    cases d with
    | tup ds => exact absurd rfl (hd ds)
    | non =>
      cases u <;> first | exact ⟨.non, rfl, fun _ _ => rfl⟩ | (cases n <;> cases h)
    | bl b =>
      cases u with
      | bool c =>
        have e : b = c := by
          have : (b == c) = true := by cases n <;> exact h
          exact eq_of_beq this
        subst e
        exact ⟨.bl b, rfl, fun _ _ => rfl⟩
      | _ => cases n <;> cases h
    | int b =>
      cases u with
      | int c t =>
        have e : b = c := by
          have : decide (b = c) = true := by cases n <;> exact h
          exact of_decide_eq_true this
        subst e
        exact ⟨.int b, ⟨t, rfl⟩, fun _ _ => rfl⟩
      | _ => cases n <;> cases h
    | str b =>
      cases u with
      | str c t =>
        have e : b = c := by
          have : decide (b = c) = true := by cases n <;> exact h
          exact of_decide_eq_true this
        subst e
        exact ⟨.str b, ⟨t, rfl⟩, fun _ _ => rfl⟩
      | _ => cases n <;> cases h
    | _ => cases u <;> (cases n <;> cases h)
  intro n
  induction n with
  | zero =>
    intro d u h
    cases d with
    | tup ds => cases u <;> cases h
    | _ => exact base 0 _ u (by intro ds e; cases e) h
  | succ n ih =>
    intro d u h
    cases d with
    | tup ds =>
      cases u with
      | ref a =>
        unfold constB at h
        split at h
        · rename_i o hk
          rw [Bool.and_eq_true] at h
          have hc := of_decide_eq_true h.1
          have h2 := h.2
          split at h2
          · rename_i its nn hd
            rw [Bool.and_eq_true] at h2
            obtain ⟨vs, r, rv⟩ := const_all ih ds its.toList h2.2
            exact ⟨.ref a, rfl, fun m H => ⟨a, vs, rfl, .inr ⟨o, its, nn, hk, hc, hd, of_decide_eq_true h2.1, r⟩, rv m H⟩⟩
          · cases h2
        · cases h
      | _ => cases h
    | _ => exact base (n + 1) _ u (by intro ds e; cases e) h
def globB (K : PySem.W.Frag) (x : Str) (d : D) : Bool := match PySem.W.nsIn K mainGlobals x with
  | some (some u) => constB K 9 d u
  | _ => false
structure Con0 (K : PySem.W.Frag) (mg : Str → Option Value) (x : Str) (d : D) : Prop where
  ex : ∃ u v, mg x = some u ∧ RelV v u ∧ ∀ m H, RV K m H d v
theorem globB_ok {K : PySem.W.Frag} {h : Heap} {mg : Str → Option Value} {x : Str} {d : D} (X : K.In h) (G : h.Ns mainGlobals mg) (c : globB K x d = true) : Con0 K mg x d := by
  unfold globB at c
  split at c
  · rename_i u e
    obtain ⟨v, r, rv⟩ := constB_ok 9 d u c
    exact ⟨u, v, PySem.W.mg_of X G e, r, rv⟩
  · cases c
theorem de_con {cl : Nat → Addr} {X : Cx} {E : XK} {pos : Pos} {x : Str} {d : D} (c : Con0 X.K X.mg x d) (hg : Gl X x) (hd : (x == ("__debug__" : Str)) = false := by decide) : DE cl X E (.Name x pos) (dC d) := by
  obtain ⟨u, v, hm, r, rv⟩ := c.ex
  exact de_glob hg hm r rv hd
/-! ### exception classes with an own __init__ -/
def oexB (K : PySem.W.Frag) (C : Addr) : Bool := (match K.lookup C with
  | some ⟨c, dd, .cls ⟨nm, bs, mro, ns, qn, hd, sn, sub, ab, col, del⟩, sl⟩ => decide (c = .type "type") && ((match mro with
    | .ref C' :: bm => decide (C' = C) && PySem.HandSPX.refsVE bm
    | _ => false) && (hd && (!del && (match sl.toList with
    | [_, _, _, _, some (.builtin n), _] => decide (n = "ValueError.__new__")
    | _ => false))))
  | _ => false) && (He.eqO (PySem.W.findIn K (.ref C) "__setattr__") (some (some (.builtin "object.__setattr__"))) && (decide (PySem.W.subIn K (.ref C) (.type "BaseException") = some true) && (decide (PySem.W.typeIn K (.ref C) = some (.type "type")) && PySem.W.keepIn K (.ref C))))
theorem oexB_ok {K : PySem.W.Frag} {C : Addr} (h : oexB K C = true) : OexC K C := by
  unfold oexB at h
  obtain ⟨h1, h⟩ := He.ba h
  obtain ⟨h2, h⟩ := He.ba h
  obtain ⟨h3, h⟩ := He.ba h
  obtain ⟨h4, h5⟩ := He.ba h
  refine ⟨?_, He.eqO_ok h2, of_decide_eq_true h3, of_decide_eq_true h4, h5⟩
  split at h1
  · rename_i c dd nm bs mro ns qn hd sn sub ab col del sl hk
    obtain ⟨a1, a⟩ := He.ba h1
    obtain ⟨a2, a⟩ := He.ba a
    obtain ⟨a3, a⟩ := He.ba a
    obtain ⟨a4, a5⟩ := He.ba a
    have a1' := of_decide_eq_true a1
    subst a1'
    split at a2
    · rename_i C' bm
      obtain ⟨b1, b2⟩ := He.ba a2
      have b1' := of_decide_eq_true b1
      subst b1'
      split at a5
      · rename_i k0 k1 k2 k3 n k5 hs
        have a5' := of_decide_eq_true a5
        subst a5'
        have hd' : hd = true := a3
        subst hd'
        have del' : del = false := by simpa using a4
        subst del'
        have hsl : sl = #[k0, k1, k2, k3, some (.builtin "ValueError.__new__"), k5] := by
          obtain ⟨l⟩ := sl
          simp only at hs
          rw [hs]
        subst hsl
        exact ⟨nm, qn, ns, bs, bm, sn, sub, ab, col, dd, k0, k1, k2, k3, k5, hk, b2⟩
      · cases a5
    · cases a2
  · cases h1
def exBB (K : PySem.W.Frag) (C0 : Addr) : Bool := He.eqO (PySem.W.specialIn K (.ref C0) "__getattribute__") (some (some (.builtin "type.__getattribute__"))) && (PySem.W.readsIn K C0 (.type "type") && (match PySem.W.findCls K (.ref C0) (.type "type") "__init__" with
  | some (.val (.builtin n)) => decide (n = "ValueError.__init__")
  | _ => false))
theorem exBB_ok {K : PySem.W.Frag} {C0 : Addr} (h : exBB K C0 = true) : ExB K C0 := by
  unfold exBB at h
  obtain ⟨h1, h⟩ := He.ba h
  obtain ⟨h2, h3⟩ := He.ba h
  refine ⟨He.eqO_ok h1, h2, ?_⟩
  split at h3
  · rename_i n e
    have e' := of_decide_eq_true h3
    subst e'
    exact e
  · cases h3
theorem exT_ok {K : PySem.W.Frag} {x : Str} (c : (He.Fa.exc x).ok K = true) : ExT K (He.ga K x) :=
  let ⟨a, b, d, e⟩ := He.exc_ok c
  ⟨a, b, d, e⟩
/-- the init's facts of an exception class -/
def initB (K : PySem.W.Frag) (C : Addr) (fs : List Str) : Bool := (fs.all fun f => He.eqO (PySem.W.findIn K (.ref C) f) (some none)) && (He.eqO (PySem.W.findIn K (.ref C) "__init__") (some (some (.ref (He.ma K C "__init__")))) && decide (PySem.W.typeIn K (.ref (He.ma K C "__init__")) = some (.type "function")))
theorem initB_ok {K : PySem.W.Frag} {C : Addr} {fs : List Str} (h : initB K C fs = true) : (∀ f ∈ fs, PySem.W.findIn K (.ref C) f = some none) ∧ PySem.W.findIn K (.ref C) "__init__" = some (some (.ref (He.ma K C "__init__"))) ∧ PySem.W.typeIn K (.ref (He.ma K C "__init__")) = some (.type "function") := by
  unfold initB at h
  obtain ⟨h1, h⟩ := He.ba h
  obtain ⟨h2, h3⟩ := He.ba h
  exact ⟨fun f hf => He.eqO_ok (List.all_eq_true.mp h1 f hf), He.eqO_ok h2, of_decide_eq_true h3⟩
end DL

namespace DL
open PySem PySem.Spec PyProof.Rows L2
section
variable {cl : Nat → Addr} {X : Cx} {E : XK} {pos : Pos}
theorem ds_par {i j : Nat} {x y : Str} {a b : Expr} {fa : Sl → Sto → Res (List D)} {px py pt : Pos} {kt k2 pt2} (hc : X.calm = true) (hN : X.N.Nodup) (hi : X.N[i]? = some x) (hj : X.N[j]? = some y) (hij : i ≠ j)
    (hx : X.env.scope.names.lookup x = some .local) (hy : X.env.scope.names.lookup y = some .local) (ha : DA cl X E [a, b] fa)
    (hw : swappedStores [.Tuple [.Name x px, .Name y py] kt pt] (.Tuple [a, b] k2 pt2) X.env = pure (some [x, y]) := by rfl)
    (hs : swapsWithSole [.Tuple [.Name x px, .Name y py] kt pt] (.Tuple [a, b] k2 pt2) pos.line X.env = pure false := by rfl) :
    DS cl X E (.Assign [.Tuple [.Name x px, .Name y py] kt pt] (.Tuple [a, b] k2 pt2) pos) (sPar i j fa) := by
  obtain ⟨t, p, ha⟩ := ha
  refine ⟨_, ps_par hc hN hi hj hij hx hy p hw hs, fun m S H sd σ D rs rl h => ?_⟩
  refine ha m S H sd σ _ rs rl (Post.bind h fun ds S1 m1 vs H1 x1 k1 rs1 rv h1 => ?_)
  split at h1
  · rename_i d e
    obtain ⟨v, w, rfl, r1, r2⟩ := rvs2 rv
    exact ⟨v, w, rfl, h1.toNx rs1 (((rl.mono x1 k1).set i r1).set j r2)⟩
  · exact h1.elim
end
section
variable {P : Program} {w : World} {cl : Nat → Addr} {K : PySem.W.Frag} {mg : Str → Option Value} {base : Heap} {f : Addr} {fd : FuncData}
/-- a def of which nothing is told -/
theorem fnD_stuck {k : Nat} {x qual : Str} {params : Arguments} {body : List Stmt} {scope : Scope} {ps : List Str} (Fu : FunD K x qual params body scope [] [] f fd)
    (hb : ∀ (kV doc pm : Value) (an : Option Addr) (cdv ct : Value) (us : List Value), us.length = ps.length → bindArgs (PySem.W.fnOf x qual params body scope .none kV doc pm an cdv ct) ⟨us, []⟩ = pure (ps.zip us)) :
    FnD P w cl K mg base k f ps.length (fun _ _ => .stuck) := by
  refine ⟨Fu.kp, fd, ps, rfl, Fu.bindsN hb, fun vs H Q E h => ?_, fun A outer s H args us vs Q E hr e0 hbb hv h => ?_⟩
  · obtain ⟨m, S, ds, hl, rs, rv, z⟩ := h
    exact z.elim
  · obtain ⟨m, S, ds, hl, rs, rv, z⟩ := h
    exact z.elim
end
/-! ### the end -/
theorem only_rv {K : PySem.W.Frag} {H : Hp} {a : Addr} {ns : List Int} (hO : Only H) (hS : SqL K H a (ns.map V.int)) : Fz K H a (ns.map V.int) := by
  rcases hS with (h | h) | h
  · rcases hO a with z | ⟨o, xs, z⟩
    · rw [z] at h; cases h
    · rw [z] at h; cases h
  · exact .inl h
  · exact .inr h
theorem ints_rv {K : PySem.W.Frag} {m : List Addr} {H : Hp} : ∀ ns : List Int, RVs K m H (ns.map D.int) (ns.map V.int)
  | [] => rfl
  | n :: ns => ⟨_, _, rfl, rfl, ints_rv ns⟩
theorem walk_D {l : PySem.W.OpenLaw} {k : Nat} {q : Program} {loose : List Str} {XP : (Str → Option Value) → Heap → Prop} {YP : World → Heap → Prop} {d : DefRec} {x : Str} {Fl : List D → Sto → Res D}
    (hn : l.most = some 63) (hdf : d.params.defaults = []) (hr : Room k callerA) (plain : ∀ ns : List Int, ns.length ≤ 63 → ∃ S', Fl [.frl (ns.map .int)] [] = .ok (.bl true) S')
    (F : ∀ (w : World) (mg : Str → Option Value) (fa : Addr) (h : Heap), YP w h → h.Ns mainGlobals mg → mg d.name = some (.ref fa) →
      ∃ (K : PySem.W.Frag) (cl : Nat → Addr) (fd : FuncData), K.In h ∧ (∀ (s : Shared) (u : Value), BindsTo s fd ⟨[u], []⟩ [(x, u)]) ∧
        ∀ base : Heap, K.In base → base.Ns mainGlobals mg → FnOk l.prog w K mg base (L2.CX l.prog w) k fa fd [x] (spD cl K 1 Fl)) :
    PySem.W.WalkO q loose XP YP l.row.toRowW d [] (fun f vs => PySem.call f vs) := by
  refine Att.attach_call hn hdf fun w s₀ s₁ mg mb fa o pm cd doc a vs ns G Y ho hd hcd hmg hobj hints hlen hg => ?_
  obtain ⟨K, cl, fd, KX, hb, hF⟩ := F w mg fa _ Y G.T.g hmg
  have h63 : ns.length ≤ 63 := hlen
  refine law_call KX G.T.g G.T.b G.T.builtins G.T.nolimit hg hobj hints (Nat.le_trans hlen (by decide)) hr hF hb (fun H hO hS => ?_) fun H e s' z => ?_
  · obtain ⟨S', e⟩ := plain ns h63
    refine ⟨[], [], [.frl (ns.map .int)], rfl, ⟨rfl, fun i j b hi => by simp at hi, fun l o b hl => by simp at hl⟩, ⟨_, _, rfl, ⟨a, _, rfl, only_rv hO hS, ints_rv ns⟩, rfl⟩, ?_⟩
    rw [e]
    exact fun m' v H' _ _ _ rv => rv
  · obtain ⟨_, _, _, _, _, _, _, _, _, _, _, _, z⟩ := z
    exact z
/-- the law's def: FnOk with its data -/
theorem fnD_law {P : Program} {w : World} {cl : Nat → Addr} {K : PySem.W.Frag} {mg : Str → Option Value} {f : Addr} {fd : FuncData} {k : Nat} {x qual p : Str} {params : Arguments} {body : List Stmt} {scope : Scope} {N : List Str} {Fb : Sl → Sto → Res Fl}
    (Fu : FunD K x qual params body scope [] [] f fd) (S : FnScope N [p] scope)
    (hb : ∀ (kV doc pm : Value) (an : Option Addr) (cdv ct : Value) (us : List Value), us.length = [p].length → bindArgs (PySem.W.fnOf x qual params body scope .none kV doc pm an cdv ct) ⟨us, []⟩ = pure ([p].zip us))
    (hbody : ∀ (base : Heap) (cdv : Value) (A : Around) (outer : List Env) (s : Shared) (H : Hp) (E : XK), Cok (cxOf (L2.CX P w) P w K mg base N qual scope f cdv A outer s H E) E k → DSs cl (cxOf (L2.CX P w) P w K mg base N qual scope f cdv A outer s H E) E body Fb) :
    (∀ (s : Shared) (u : Value), BindsTo s fd ⟨[u], []⟩ [(p, u)]) ∧ ∀ base : Heap, FnOk P w K mg base (L2.CX P w) (k + 1) f fd [p] (spD cl K 1 (dFn N.length Fb)) := by
  refine ⟨fun s u => Fu.bindsA hb s [u] rfl, fun base => ?_⟩
  refine Fu.ok S (fun vs H Q E h => ?_) (fun cdv A outer s H vs Q E hr h => ?_)
  · obtain ⟨m, St, ds, hl, rs, rv, _⟩ := h
    rw [← rv.length, hl]
    rfl
  · obtain ⟨m, St, ds, hl, rs, rv, h⟩ := h
    obtain ⟨t, p, hh⟩ := hbody base cdv A outer s H E (cok_of S hr)
    refine ⟨t, p, hh m St H (startD N.length ds) (L2.start N vs) _ rs (start_rl rv) ?_⟩
    unfold dFn at h
    cases hres : Fb (startD N.length ds) St with
    | ok fl S1 =>
      rw [hres] at h
      intro m1 v H1 x1 k1 rs1 rv1
      cases fl with
      | nx sd =>
        cases v with
        | nx σ1 => exact h m1 .non H1 x1 k1 rs1 rfl
        | _ => exact rv1.elim
      | ret d =>
        cases v with
        | ret u => exact h m1 u H1 x1 k1 rs1 rv1
        | _ => exact rv1.elim
      | brk sd => exact h.elim
      | cnt sd => exact h.elim
    | exc x S1 =>
      rw [hres] at h
      exact h
    | stuck =>
      rw [hres] at h
      exact h.elim
end DL
namespace DL
open PySem PySem.Spec PyProof.Rows L2
theorem Cok.at {X : Cx} {E : XK} {j k : Nat} (c : Cok X E k) (h : j ≤ k) : Cok X E j := ⟨c.calm, c.px, c.tk, c.po, c.hr.mono h, c.nd⟩
end DL

namespace DL
open PySem PySem.Spec PyProof.Rows L2
/-! ### try .. except B as e: .. (the suite ends in return) -/
theorem takes_all {X : Cx} {W : WX} (tk : Takes X W) : Takes X (fun cls d _ H => ∀ σ : L2.St, σ.length = X.N.length → W cls d σ H) := fun u s' x => by
  obtain ⟨a, B, sI, pins, σ, H, cls, d, rfl, I, nb, up, sky, na, os, ag, w⟩ := x
  exact tk _ _ ⟨a, B, sI, pins, σ, H, cls, d, rfl, I, nb, up, sky, na, os, ag, w σ I.len⟩
def excD (a : Addr) (dd : Addr) (x : Exc) : D := match x.fs with
  | none => .exn a dd [] []
  | some fs => .exn a dd (fs.map Prod.fst) (fs.map Prod.snd)
theorem RF.split {K : PySem.W.Frag} {m : List Addr} {H : Hp} : ∀ {fs : List (Str × D)} {gs : List (Str × V)}, RF K m H fs gs → ∃ vs, gs = (fs.map Prod.fst).zip vs ∧ RVs K m H (fs.map Prod.snd) vs
  | [], _, r => by cases r; exact ⟨[], rfl, rfl⟩
  | p :: fs, _, ⟨v, gs', e, r, t⟩ => by
    subst e
    obtain ⟨vs, e1, r1⟩ := RF.split t
    exact ⟨v :: vs, by simp [e1], v, vs, rfl, r, r1⟩
theorem excD_rv {K : PySem.W.Frag} {m : List Addr} {H : Hp} {x : Exc} {d : Option Addr} (a : Addr) (r : RX K m H x d) : RV K m H (excD a (d.getD 0) x) (.ref a) := by
  unfold RX at r
  unfold excD
  split at r
  · rename_i e
    try rw [e]
    exact ⟨rfl, [], rfl, fun n => absurd rfl n⟩
  · rename_i fs e
    try rw [e]
    obtain ⟨dd, gs, rfl, hd, rf⟩ := r
    obtain ⟨vs, rfl, rv⟩ := rf.split
    exact ⟨rfl, vs, rv, fun _ => hd⟩
def sTry (Fb : Sl → Sto → Res Fl) (Fx : Exc → Sto → Res D) : Sl → Sto → Res Fl := fun sd S => match Fb sd S with
  | .ok fl S1 => .ok fl S1
  | .exc x S1 => (Fx x S1).bind fun d S2 => .ok (.ret d) S2
  | .stuck => .stuck
def exSl (n i : Nat) (d : D) : Sl := (List.replicate n none).set i (some d)
/-- the exception's dict is there or there's none -/
def ExOk (d : Option Addr) (x : Exc) : Prop := match x.fs with
  | none => d = none
  | some fs => d.isSome = true ∧ fs ≠ []
theorem ds_tryR {cl : Nat → Addr} {X : Cx} {E : XK} {k i : Nat} {x n : Str} {c : Value} {body suite : List Stmt} {b₀ : Stmt} {np pos pos' : Pos} {Fb : Sl → Sto → Res Fl} {Fx : Exc → Sto → Res D} {suF : Exc → Addr → Option Addr → Sl → Sto → Res Fl} {ok : Exc → Prop}
    (co : Cok X E k) (hs : X.stack = X.env :: X.outer) (hf : X.env.frame = some X.env.locals) (hi : X.N[i]? = some n) (hln : X.env.kindOf n = some .local) (hc : Names X x c)
    (hb : ∀ (pn : List (Addr × Obj)) (xe : Value → Shared → Prop) (E' : XK), Cok (X.tr pn xe) E' k → DSs cl (X.tr pn xe) E' body Fb)
    (hex : ∀ (q : Exc) (S : Sto), Fx q S ≠ .stuck → ok q ∧ PySem.W.exmOne X.K (.ref (cl q.c)) c = some true ∧ q.fs ≠ some [])
    (hsu : ∀ (q : Exc) (a : Addr) (oe : Obj) (d : Option Addr) (pn : List (Addr × Obj)), ok q → ExOk d q → Zc (.ref (cl q.c)) d oe → (∃ vs, oe.data = .fields vs) → DSs cl (X.suite a ((a, oe) :: pn)) E (b₀ :: suite) (suF q a d))
    (hF : ∀ (q : Exc) (a : Addr) (d : Option Addr) (S : Sto), Fx q S ≠ .stuck → ExOk d q → suF q a d (exSl X.N.length i (excD a (d.getD 0) q)) S = (Fx q S).bind fun d S2 => .ok (.ret d) S2) :
    DS cl X E (.Try body [.ExceptHandler (some (.Name x np)) (some n) (b₀ :: suite) pos'] [] [] pos) (sTry Fb Fx) := by
  let ts : Addr → Value → Option Addr → TS := fun a cls d D σ H => ∃ (q : Exc) (m : List Addr) (S : Sto) (sd : Sl), cls = .ref (cl q.c) ∧ ok q ∧ ExOk d q ∧ RS cl X.K m S H ∧ RSl X.K m H sd σ ∧
    Post cl X.K (RFl X.K) m H E (endQ D) (suF q a d sd S)
  let tb : WX → TS := fun W D σ H => ∃ m S sd, RS cl X.K m S H ∧ RSl X.K m H sd σ ∧ Post cl X.K (RFl X.K) m H (fun cls d H => ∀ σ : L2.St, σ.length = X.N.length → W cls d σ H) (endQ D) (Fb sd S)
  refine ⟨_, ps_try_as (i := i) (tb := tb) (ts := ts) (Wout := fun cls d _ H => E cls d H) hs hf co.nd hi hln hc co.tk (fun W pn xe tk po => ?_) (fun a oe cls d pn hz hd => ?_), fun m S H sd σ D rs rl h => ?_⟩
  · have tk' := takes_all tk
    have cc : Cok (X.tr pn xe) (fun cls d H => ∀ σ : L2.St, σ.length = X.N.length → W cls d σ H) k := ⟨co.calm, passes_call tk' fun _ _ _ _ h => h, tk', po, co.hr, co.nd⟩
    obtain ⟨t, p, hh⟩ := hb pn xe _ cc
    refine ⟨fun pins s σ H D I h => ?_⟩
    obtain ⟨m, S, sd, rs, rl, h⟩ := h
    exact p.run pins s σ H D I (hh m S H sd σ D rs rl h)
  · refine ⟨fun pins s σ H D I h => ?_⟩
    obtain ⟨q, m, S, sd, rfl, hq, hok, rs, rl, h⟩ := h
    obtain ⟨t, p, hh⟩ := hsu q a oe d pn hq hok hz hd
    exact p.run pins s σ H D I (hh m S H sd σ D rs rl h)
  · refine ⟨m, S, sd, rs, rl, ?_⟩
    unfold sTry at h
    cases hres : Fb sd S with
    | ok fl S1 => rw [hres] at h; exact h
    | stuck => rw [hres] at h; exact h.elim
    | exc q S1 =>
      rw [hres] at h
      dsimp only at h
      have hns : Fx q S1 ≠ .stuck := fun z => by rw [z] at h; exact h.elim
      intro m1 d H1 x1 k1 rs1 rx σ1 hσ
      obtain ⟨hokq, hexm, hne⟩ := hex q S1 hns
      refine ⟨true, hexm, fun _ a na => ?_, fun z => Bool.noConfusion z⟩
      have hok : ExOk d q := by
        unfold ExOk
        unfold RX at rx
        split at rx
        · rename_i e; try rw [e]
          exact rx
        · rename_i fs e
          try rw [e]
          obtain ⟨dd, gs, rfl, _⟩ := rx
          exact ⟨rfl, fun z => hne (by rw [e, z])⟩
      refine ⟨q, m1, S1, exSl X.N.length i (excD a (d.getD 0) q), rfl, hokq, hok, rs1, ⟨?_, fun j d' e => ?_⟩, ?_⟩
      · simp [exSl, hσ]
      · unfold exSl at e
        by_cases hj : j = i
        · subst hj
          by_cases hlt : j < X.N.length
          · rw [List.getElem?_set_self (by simpa using hlt)] at e
            cases e
            exact ⟨.ref a, by rw [List.getElem?_set_self (by rw [hσ]; exact hlt)], excD_rv a rx⟩
          · rw [List.getElem?_eq_none (by simpa using hlt)] at e; cases e
        · rw [List.getElem?_set_ne (Ne.symm hj), List.getElem?_replicate] at e
          split at e <;> cases e
      · rw [hF q a d S1 hns hok]
        have h' := Post.mono x1 k1 h
        cases hr : Fx q S1 with
        | stuck => exact absurd hr hns
        | exc y S2 => rw [hr] at h'; exact h'
        | ok r S2 =>
          rw [hr] at h'
          intro m2 v H2 x2 k2 rs2 rv2
          have z := h' m2 v H2 x2 k2 rs2 rv2
          cases v with
          | ret u => exact z
          | _ => exact rv2.elim
theorem de_stuck {cl : Nat → Addr} {X : Cx} {E : XK} {e : Expr} : DE cl X E e (fun _ _ => .stuck) := ⟨fun _ _ _ => False, ⟨fun _ _ _ _ _ _ h => h.elim⟩, fun _ _ _ _ _ _ _ _ h => h⟩
/-! ### e.f, isinstance(e, C) in the suite -/
def excB (K : PySem.W.Frag) (C : Addr) : Bool :=
  xfB K C && (decide (PySem.W.findIn K (.ref C) "__class__" = some (some (.builtin "object.__class__"))) && (decide (PySem.W.specialIn K (.builtin "object.__class__") "__get__" = some (some (.builtin "getset_descriptor.__get__"))) &&
    (decide (PySem.W.takesIn K (.builtin "object.__class__") = some true) && decide (PySem.W.mroIn K C (.type "object") = some true))))
theorem excB_ok {K : PySem.W.Frag} {C : Addr} (h : excB K C = true) : L2.ExcC K C := by
  unfold excB at h
  simp only [Bool.and_eq_true, decide_eq_true_eq] at h
  obtain ⟨h0, h1, h2, h3, h4⟩ := h
  have X := xfB_ok h0
  exact ⟨X.ga, X.gg, X.exC, X.hdC, h1, h2, h3, h4⟩
/-- all the text's exceptions: 0 is the one above the others -/
def exAllB (K : PySem.W.Frag) (cl : Nat → Addr) (n : Nat) : Bool := (List.range n).all fun c => excB K (cl c) && (decide (PySem.W.exmOne K (.ref (cl c)) (.ref (cl 0)) = some true) && ((List.range n).all fun c' => decide (PySem.W.kitOne K (.ref (cl c)) (.ref (cl c')) = some (c == c' || c' == 0))))
structure ExAll (K : PySem.W.Frag) (cl : Nat → Addr) (n : Nat) : Prop where
  exc : ∀ c, c < n → L2.ExcC K (cl c)
  exm : ∀ c, c < n → PySem.W.exmOne K (.ref (cl c)) (.ref (cl 0)) = some true
  kit : ∀ c c', c < n → c' < n → PySem.W.kitOne K (.ref (cl c)) (.ref (cl c')) = some (c == c' || c' == 0)
theorem exAllB_ok {K : PySem.W.Frag} {cl : Nat → Addr} {n : Nat} (h : exAllB K cl n = true) : ExAll K cl n := by
  unfold exAllB at h
  simp only [List.all_eq_true, List.mem_range, Bool.and_eq_true, decide_eq_true_eq] at h
  exact ⟨fun c hc => excB_ok (h c hc).1, fun c hc => (h c hc).2.1, fun c c' hc hc' => (h c hc).2.2 c' hc'⟩
theorem xfC_of {K : PySem.W.Frag} {C : Addr} (h : L2.ExcC K C) : XfC K C := ⟨h.hg, h.hk, h.hs, h.hd⟩
def lookN : List Str → List D → Str → Option D
  | n :: ns, d :: ds, f => if f = n then some d else lookN ns ds f
  | _, _, _ => none
theorem lookN_rv {K : PySem.W.Frag} {m : List Addr} {H : Hp} {f : Str} {d : D} : ∀ {ns : List Str} {ds : List D} {vs : List V}, RVs K m H ds vs → lookN ns ds f = some d → ∃ v, (ns.zip vs).lookup f = some v ∧ RV K m H d v
  | [], _, _, _, e => by cases e
  | _ :: _, [], _, _, e => by cases e
  | n :: ns, d0 :: ds, _, ⟨v, vs', e, r, t⟩, h => by
    subst e
    unfold lookN at h
    rw [List.zip_cons_cons, List.lookup_cons]
    by_cases q : f = n
    · rw [if_pos q] at h; cases h
      rw [beq_iff_eq.mpr q]
      exact ⟨v, rfl, r⟩
    · rw [if_neg q] at h
      rw [beq_eq_false_iff_ne.mpr q]
      exact lookN_rv t h
/-- the caught one, in slot i -/
def dExF (i : Nat) (a : Addr) (d : Option Addr) (f : Str) : Sl → Sto → Res D := fun sd S => match sd[i]? with
  | some (some (.exn a' dd ns ds)) => if a' = a ∧ d = some dd ∧ ns ≠ [] then (match lookN ns ds f with
    | some v => .ok v S
    | none => .stuck) else .stuck
  | _ => .stuck
def dExI (i : Nat) (a : Addr) (d : Option Addr) (b : Bool) : Sl → Sto → Res D := fun sd S => match sd[i]? with
  | some (some (.exn a' dd ns _)) => if a' = a ∧ (d = none ∨ (d = some dd ∧ ns ≠ [])) then .ok (.bl b) S else .stuck
  | _ => .stuck
section
variable {cl : Nat → Addr} {X : Cx} {E : XK} {a C : Addr} {oe : Obj} {d : Option Addr} {pn : List (Addr × Obj)} {i : Nat} {n f : Str} {p p1 p2 p3 pos : Pos}
theorem de_exF (T : L2.ExcC X.K C) (hno : PySem.W.findIn X.K (.ref C) f = some none) (hz : Zc (.ref C) d oe) (hf : ∃ vs, oe.data = .fields vs) (hn : X.N[i]? = some n) (hl : Vis X.env.scope n) (hd1 : (n == ("__debug__" : Str)) = false) (hd2 : (n == ("__classdict__" : Str)) = false)
    (hb : attributeBase (.Name n p) f X.env (eval (.Name n p) X.env) = eval (.Name n p) X.env := by rfl) :
    DE cl (X.suite a ((a, oe) :: pn)) E (.Attribute (.Name n p) f pos) (dExF i a d f) := by
  refine ⟨_, pe_xf (a := a) (C := C) (cls := .ref C) (d := d) (xfC_of T) hno hz hf (pe_var (i := i) hn hl hd1 hd2) hb, fun m S H sd σ Q rs rl h => ?_⟩
  unfold dExF at h
  split at h
  · rename_i a' dd ns ds e
    split at h
    · rename_i hz'
      obtain ⟨rfl, rfl, hns⟩ := hz'
      split at h
      · rename_i v ev
        obtain ⟨u, eu, ru, vs, rvs, hd⟩ := rl.at_ i _ e
        obtain ⟨w, ew, rw'⟩ := lookN_rv (f := f) rvs ev
        exact ⟨u, eu, ru, rfl, dd, _, w, rfl, hd hns, ew, h.here rs rw'⟩
      · exact h.elim
    · exact h.elim
  · exact h.elim
/-- isinstance(e, c) -/
theorem call_isX (T : L2.ExcC X.K C) (hz : Zc (.ref C) d oe) (hf : ∃ vs, oe.data = .fields vs) : CallR (X.suite a ((a, oe) :: pn)) (.builtin "isinstance") (fun xs H Q => (d = none ∨ ∃ dd fs, d = some dd ∧ H dd = some (.xd fs)) ∧
    ∃ (c : V) (cv : Value) (b : Bool), xs = [.ref a, c] ∧ (∀ u, RelV c u → u = cv) ∧ PySem.W.kitOne X.K (.ref C) cv = some b ∧ Q (.bl b) H) := by
  intro pins s σ H xs us Q I r h
  obtain ⟨hdd, c, cv, b, rfl, hcv, e, q⟩ := h
  cases r with
  | cons rx rr =>
    cases rr with
    | cons rt rr =>
      cases rr
      cases rx
      have ec := hcv _ rt
      subst ec
      obtain ⟨hget, _⟩ := I.pin (a, oe) (List.mem_append.mpr (.inl List.mem_cons_self))
      obtain ⟨vs, hv⟩ := hf
      obtain ⟨od, J⟩ : ∃ od, PySem.W.InstAt s.heap a oe C od := by
        rcases hdd with rfl | ⟨dd, fs, rfl, hd⟩
        · refine ⟨none, hget, hz.1, by unfold PySem.W.notCls; rw [hv] <;> rfl, ?_⟩
          rw [hz.2]; trivial
        · have hx : ObjOk X.prog X.w H s.heap dd (.xd fs) := I.hok dd _ hd
          obtain ⟨mA, hns, hr⟩ := hx
          obtain ⟨od, ho, hl⟩ := lookIn_ns hns
          exact ⟨some od, hget, hz.1, by unfold PySem.W.notCls; rw [hv] <;> rfl, by rw [hz.2]; exact ho⟩
      have hcl : (PySem.W.clsIn X.K C).isSome = true := by
        obtain ⟨cd, hc, _⟩ := PySem.W.any_some T.hd
        rw [hc]; rfl
      exact PySem.W.kia_one (PySem.W.kitx_exc hcl T.hg T.hk T.hs T.ha T.hn T.ht T.hm) I.kIn J e (fun z => nomatch z) fun tk => ⟨.bl b, H, I.kept (t' := tk) fun _ _ z => z, rfl, q⟩
theorem de_exI {x : Str} {C' : Addr} {b : Bool} (T : L2.ExcC X.K C) (hz : Zc (.ref C) d oe) (hf : ∃ vs, oe.data = .fields vs) (hn : X.N[i]? = some n) (hl : Vis X.env.scope n) (hd1 : (n == ("__debug__" : Str)) = false) (hd2 : (n == ("__classdict__" : Str)) = false) (hgi : Gl X "isinstance") (hmi : X.mg "isinstance" = none)
    (hgc : Gl X x) (hmc : X.mg x = some (.ref C')) (hk : PySem.W.kitOne X.K (.ref C) (.ref C') = some b) (hdb : (x == ("__debug__" : Str)) = false := by decide) :
    DE cl (X.suite a ((a, oe) :: pn)) E (.Call (.Name "isinstance" p) [.Name n p1, .Name x p2] [] pos) (dExI i a d b) := by
  have pa : PA (X.suite a ((a, oe) :: pn)) [.Name n p1, .Name x p2] _ := pa_cons (pe_var (i := i) hn hl hd1 hd2) (pa_cons (pe_glob (v := .ref C') hgc hmc rfl hdb) pa_nil)
  refine ⟨_, pe_callB (call_isX T hz hf) hgi hmi (by rfl) pa, fun m S H sd σ Q rs rl h => ?_⟩
  unfold dExI at h
  split at h
  · rename_i a' dd ns ds e
    split at h
    · rename_i hz'
      obtain ⟨rfl, hd'⟩ := hz'
      obtain ⟨u, eu, ru, vs, rvs, hd⟩ := rl.at_ i _ e
      subst ru
      refine ⟨.ref a', eu, ?_⟩
      refine ⟨?_, .ref C', .ref C', b, rfl, fun u r => r, hk, h.here rs rfl⟩
      rcases hd' with hd' | ⟨hd', hns⟩
      · exact .inl hd'
      · exact .inr ⟨dd, _, hd', hd hns⟩
    · exact h.elim
  · exact h.elim
end
end DL

namespace DL
open PySem PySem.Spec PyProof.Rows L2
/-! ### a plain logic of the plain functions: Wp -/
def Wp {α : Type} (r : Res α) (Q : α → Sto → Prop) (X : Exc → Sto → Prop) : Prop := match r with
  | .ok a S => Q a S
  | .exc x S => X x S
  | .stuck => False
def kB {α β : Type} (k : α → Sto → Res β) (Q : β → Sto → Prop) (X : Exc → Sto → Prop) (a : α) (S : Sto) : Prop := Wp (k a S) Q X
theorem kB_ap {α β : Type} {k : α → Sto → Res β} {Q : β → Sto → Prop} {X : Exc → Sto → Prop} {a : α} {S : Sto} : kB k Q X a S = Wp (k a S) Q X := rfl
theorem w_bind {α β : Type} {r : Res α} {k : α → Sto → Res β} {Q : β → Sto → Prop} {X : Exc → Sto → Prop} : Wp (r.bind k) Q X = Wp r (kB k Q X) X := by cases r <;> rfl
theorem w_ok {α : Type} {a : α} {S : Sto} {Q : α → Sto → Prop} {X : Exc → Sto → Prop} : Wp (.ok a S) Q X = Q a S := rfl
theorem w_exc {α : Type} {x : Exc} {S : Sto} {Q : α → Sto → Prop} {X : Exc → Sto → Prop} : Wp (.exc x S) Q X = X x S := rfl
theorem w_stuck {α : Type} {Q : α → Sto → Prop} {X : Exc → Sto → Prop} : Wp .stuck Q X = False := rfl
theorem w_ite {α : Type} {c : Prop} [Decidable c] {r s : Res α} {Q : α → Sto → Prop} {X : Exc → Sto → Prop} (h : c) : Wp (if c then r else s) Q X = Wp r Q X := by rw [if_pos h]
theorem Wp.mono {α : Type} {r : Res α} {Q Q' : α → Sto → Prop} {X X' : Exc → Sto → Prop} (h : Wp r Q X) (hq : ∀ a S, Q a S → Q' a S) (hx : ∀ x S, X x S → X' x S) : Wp r Q' X' := by
  cases r with
  | ok a S => exact hq a S h
  | exc x S => exact hx x S h
  | stuck => exact h
theorem Wp.then_ {α : Type} {r : Res α} {Q Q' : α → Sto → Prop} {X : Exc → Sto → Prop} (h : Wp r Q (fun _ _ => False)) (hq : ∀ a S, Q a S → Q' a S) : Wp r Q' X := Wp.mono h hq fun _ _ z => z.elim
/-- it ends with a value -/
theorem Wp.ok {α : Type} {r : Res α} {Q : α → Sto → Prop} (h : Wp r Q (fun _ _ => False)) : ∃ a S, r = .ok a S ∧ Q a S := by
  cases r with
  | ok a S => exact ⟨a, S, rfl, h⟩
  | exc x S => exact h.elim
  | stuck => exact h.elim
def kFn (Q : D → Sto → Prop) : Fl → Sto → Prop
  | .nx _, S => Q .non S
  | .ret d, S => Q d S
  | _, _ => False
theorem w_dFn {n : Nat} {Fb : Sl → Sto → Res Fl} {ds : List D} {S : Sto} {Q : D → Sto → Prop} {X : Exc → Sto → Prop} : Wp (dFn n Fb ds S) Q X = Wp (Fb (startD n ds) S) (kFn Q) X := by
  unfold dFn
  cases h : Fb (startD n ds) S with
  | ok fl S1 => cases fl <;> rfl
  | exc x S1 => rfl
  | stuck => rfl
theorem kFn_nx {Q : D → Sto → Prop} {sd : Sl} {S : Sto} : kFn Q (.nx sd) S = Q .non S := rfl
theorem kFn_ret {Q : D → Sto → Prop} {d : D} {S : Sto} : kFn Q (.ret d) S = Q d S := rfl
theorem w_sTry {Fb : Sl → Sto → Res Fl} {Fx : Exc → Sto → Res D} {sd : Sl} {S : Sto} {Q : Fl → Sto → Prop} {X : Exc → Sto → Prop} : Wp (sTry Fb Fx sd S) Q X = Wp (Fb sd S) Q (fun x S => Wp (Fx x S) (fun d S => Q (.ret d) S) X) := by
  unfold sTry
  cases Fb sd S with
  | ok fl S1 => rfl
  | exc x S1 =>
    show Wp ((Fx x S1).bind _) Q X = _
    rw [w_bind]; rfl
  | stuck => rfl
theorem w_sFor {fi : Sl → Sto → Res ItD} {ga : D → Sl → Sto → Res Sl} {fb : Sl → Sto → Res Fl} {sd : Sl} {S : Sto} {Q : Fl → Sto → Prop} {X : Exc → Sto → Prop} :
    Wp (sFor fi ga fb sd S) Q X = Wp (fi sd S) (kB (fun it S1 => loopD it.chk ga fb it.items sd S1) Q X) X := w_bind
/-- a loop, by what holds ahead of each turn -/
theorem w_loop {chk : Sto → Bool} {ga : D → Sl → Sto → Res Sl} {fb : Sl → Sto → Res Fl} {Q : Fl → Sto → Prop} {X : Exc → Sto → Prop} (I : List D → Sl → Sto → Prop) (hc : ∀ xs sd S, I xs sd S → chk S = true)
    (h0 : ∀ sd S, I [] sd S → Q (.nx sd) S)
    (h1 : ∀ x xs sd S, I (x :: xs) sd S → Wp (ga x sd S) (fun sd1 S1 => Wp (fb sd1 S1) (fun fl S2 => match fl with
      | .nx sd2 => I xs sd2 S2
      | .cnt sd2 => I xs sd2 S2
      | .brk sd2 => Q (.nx sd2) S2
      | .ret d => Q (.ret d) S2) X) X) :
    ∀ xs sd S, I xs sd S → Wp (loopD chk ga fb xs sd S) Q X := by
  intro xs
  induction xs with
  | nil =>
    intro sd S h
    unfold loopD
    rw [if_pos (hc _ _ _ h)]
    exact h0 sd S h
  | cons x xs ih =>
    intro sd S h
    unfold loopD
    rw [if_pos (hc _ _ _ h), w_bind]
    refine Wp.mono (h1 x xs sd S h) (fun sd1 S1 h2 => ?_) fun _ _ z => z
    show Wp ((fb sd1 S1).bind _) Q X
    rw [w_bind]
    refine Wp.mono h2 (fun fl S2 h3 => ?_) fun _ _ z => z
    show Wp (match fl with
      | .nx sd2 => loopD chk ga fb xs sd2 S2
      | .cnt sd2 => loopD chk ga fb xs sd2 S2
      | .brk sd2 => .ok (.nx sd2) S2
      | .ret d => .ok (.ret d) S2) Q X
    cases fl with
    | nx sd2 => exact ih sd2 S2 h3
    | cnt sd2 => exact ih sd2 S2 h3
    | brk sd2 => exact h3
    | ret d => exact h3
theorem w_loop_nil {ga : D → Sl → Sto → Res Sl} {fb : Sl → Sto → Res Fl} {sd : Sl} {S : Sto} {Q : Fl → Sto → Prop} {X : Exc → Sto → Prop} : Wp (loopD yes ga fb [] sd S) Q X = Q (.nx sd) S := rfl
theorem w_loop_cons {ga : D → Sl → Sto → Res Sl} {fb : Sl → Sto → Res Fl} {x : D} {xs : List D} {sd : Sl} {S : Sto} {Q : Fl → Sto → Prop} {X : Exc → Sto → Prop} : Wp (loopD yes ga fb (x :: xs) sd S) Q X =
    Wp ((ga x sd S).bind fun sd1 S1 => (fb sd1 S1).bind fun fl S2 => match fl with
      | .nx sd2 => loopD yes ga fb xs sd2 S2
      | .cnt sd2 => loopD yes ga fb xs sd2 S2
      | .brk sd2 => .ok (.nx sd2) S2
      | .ret d => .ok (.ret d) S2) Q X := rfl
theorem w_dVar {i : Nat} {sd : Sl} {S : Sto} {Q : D → Sto → Prop} {X : Exc → Sto → Prop} : Wp (dVar i  sd S) Q X = Wp (match sd[i]? with
  | some (some d) => .ok d S
  | _ => .stuck) Q X := rfl
theorem w_dC {d : D} {sd : Sl} {S : Sto} {Q : D → Sto → Prop} {X : Exc → Sto → Prop} : Wp (dC d  sd S) Q X = Wp (.ok d S) Q X := rfl
theorem w_dNil {sd : Sl} {S : Sto} {Q : (List D) → Sto → Prop} {X : Exc → Sto → Prop} : Wp (dNil   sd S) Q X = Wp (.ok [] S) Q X := rfl
theorem w_dCons {f : Sl → Sto → Res D} {g : Sl → Sto → Res (List D)} {sd : Sl} {S : Sto} {Q : (List D) → Sto → Prop} {X : Exc → Sto → Prop} : Wp (dCons f g  sd S) Q X = Wp ((f sd S).bind fun d S1 => (g sd S1).bind fun ds S2 => .ok (d :: ds) S2) Q X := rfl
theorem w_dTup {f : Sl → Sto → Res (List D)} {sd : Sl} {S : Sto} {Q : D → Sto → Prop} {X : Exc → Sto → Prop} : Wp (dTup f  sd S) Q X = Wp ((f sd S).bind fun ds S1 => if ds.length ≤ sizeLine then .ok (.tup ds) S1 else .stuck) Q X := rfl
theorem w_dLst {f : Sl → Sto → Res (List D)} {sd : Sl} {S : Sto} {Q : D → Sto → Prop} {X : Exc → Sto → Prop} : Wp (dLst f  sd S) Q X = Wp ((f sd S).bind fun ds S1 => if ds.length ≤ sizeLine then .ok (.ref S1.length) (S1 ++ [.lst ds]) else .stuck) Q X := rfl
theorem w_d2 {g : D → D → Sto → Res D} {fa fb : Sl → Sto → Res D} {sd : Sl} {S : Sto} {Q : D → Sto → Prop} {X : Exc → Sto → Prop} : Wp (d2 g fa fb  sd S) Q X = Wp ((fa sd S).bind fun x S1 => (fb sd S1).bind fun y S2 => g x y S2) Q X := rfl
theorem w_d2T {g : D → D → Sto → Res D} {fa fb : Sl → Sto → Res D} {sd : Sl} {S : Sto} {Q : Bool → Sto → Prop} {X : Exc → Sto → Prop} : Wp (d2T g fa fb  sd S) Q X = Wp ((d2 g fa fb sd S).bind fun d S1 => match d with
  | .bl b => .ok b S1
  | _ => .stuck) Q X := rfl
theorem w_d3 {g g' : D → D → Sto → Res D} {fa fb fc : Sl → Sto → Res D} {sd : Sl} {S : Sto} {Q : D → Sto → Prop} {X : Exc → Sto → Prop} : Wp (d3 g g' fa fb fc  sd S) Q X = Wp ((fa sd S).bind fun x S1 => (fb sd S1).bind fun y S2 => (g x y S2).bind fun z S3 => match z with
  | .bl true => (fc sd S3).bind fun w S4 => g' y w S4
  | .bl false => .ok (.bl false) S3
  | _ => .stuck) Q X := rfl
theorem w_d3T {g g' : D → D → Sto → Res D} {fa fb fc : Sl → Sto → Res D} {sd : Sl} {S : Sto} {Q : Bool → Sto → Prop} {X : Exc → Sto → Prop} : Wp (d3T g g' fa fb fc  sd S) Q X = Wp ((d3 g g' fa fb fc sd S).bind fun d S1 => match d with
  | .bl b => .ok b S1
  | _ => .stuck) Q X := rfl
theorem w_tstB {f : Sl → Sto → Res D} {sd : Sl} {S : Sto} {Q : Bool → Sto → Prop} {X : Exc → Sto → Prop} : Wp (tstB f  sd S) Q X = Wp ((f sd S).bind fun d S1 => match d with
  | .bl b => .ok b S1
  | _ => .stuck) Q X := rfl
theorem w_tAndD {f g : Sl → Sto → Res Bool} {sd : Sl} {S : Sto} {Q : Bool → Sto → Prop} {X : Exc → Sto → Prop} : Wp (tAndD f g  sd S) Q X = Wp ((f sd S).bind fun b S1 => if b then g sd S1 else .ok false S1) Q X := rfl
theorem w_tOrD {f g : Sl → Sto → Res Bool} {sd : Sl} {S : Sto} {Q : Bool → Sto → Prop} {X : Exc → Sto → Prop} : Wp (tOrD f g  sd S) Q X = Wp ((f sd S).bind fun b S1 => if b then .ok true S1 else g sd S1) Q X := rfl
theorem w_tNotD {f : Sl → Sto → Res Bool} {sd : Sl} {S : Sto} {Q : Bool → Sto → Prop} {X : Exc → Sto → Prop} : Wp (tNotD f  sd S) Q X = Wp ((f sd S).bind fun b S1 => .ok (!b) S1) Q X := rfl
theorem w_dAnd {f g : Sl → Sto → Res D} {sd : Sl} {S : Sto} {Q : D → Sto → Prop} {X : Exc → Sto → Prop} : Wp (dAnd f g  sd S) Q X = Wp ((f sd S).bind fun d S1 => match d with
  | .bl true => g sd S1
  | .bl false => .ok (.bl false) S1
  | _ => .stuck) Q X := rfl
theorem w_dOr {f g : Sl → Sto → Res D} {sd : Sl} {S : Sto} {Q : D → Sto → Prop} {X : Exc → Sto → Prop} : Wp (dOr f g  sd S) Q X = Wp ((f sd S).bind fun d S1 => match d with
  | .bl true => .ok (.bl true) S1
  | .bl false => g sd S1
  | _ => .stuck) Q X := rfl
theorem w_dNot {f : Sl → Sto → Res D} {sd : Sl} {S : Sto} {Q : D → Sto → Prop} {X : Exc → Sto → Prop} : Wp (dNot f  sd S) Q X = Wp ((f sd S).bind fun d S1 => match d with
  | .bl b => .ok (.bl (!b)) S1
  | _ => .stuck) Q X := rfl
theorem w_dIf {c : Sl → Sto → Res Bool} {f g : Sl → Sto → Res D} {sd : Sl} {S : Sto} {Q : D → Sto → Prop} {X : Exc → Sto → Prop} : Wp (dIf c f g  sd S) Q X = Wp ((c sd S).bind fun b S1 => if b then f sd S1 else g sd S1) Q X := rfl
theorem w_dNeg {f : Sl → Sto → Res D} {sd : Sl} {S : Sto} {Q : D → Sto → Prop} {X : Exc → Sto → Prop} : Wp (dNeg f  sd S) Q X = Wp ((f sd S).bind fun d S1 => match d with
  | .int i => .ok (.int (-i)) S1
  | _ => .stuck) Q X := rfl
theorem w_sNext {sd : Sl} {S : Sto} {Q : Fl → Sto → Prop} {X : Exc → Sto → Prop} : Wp (sNext   sd S) Q X = Wp (.ok (.nx sd) S) Q X := rfl
theorem w_sSeq {f g : Sl → Sto → Res Fl} {sd : Sl} {S : Sto} {Q : Fl → Sto → Prop} {X : Exc → Sto → Prop} : Wp (sSeq f g  sd S) Q X = Wp ((f sd S).bind fun fl S1 => match fl with
  | .nx sd1 => g sd1 S1
  | r => .ok r S1) Q X := rfl
theorem w_sIf {c : Sl → Sto → Res Bool} {f g : Sl → Sto → Res Fl} {sd : Sl} {S : Sto} {Q : Fl → Sto → Prop} {X : Exc → Sto → Prop} : Wp (sIf c f g  sd S) Q X = Wp ((c sd S).bind fun b S1 => if b then f sd S1 else g sd S1) Q X := rfl
theorem w_sRet {f : Sl → Sto → Res D} {sd : Sl} {S : Sto} {Q : Fl → Sto → Prop} {X : Exc → Sto → Prop} : Wp (sRet f  sd S) Q X = Wp ((f sd S).bind fun d S1 => .ok (.ret d) S1) Q X := rfl
theorem w_sExpr {f : Sl → Sto → Res D} {sd : Sl} {S : Sto} {Q : Fl → Sto → Prop} {X : Exc → Sto → Prop} : Wp (sExpr f  sd S) Q X = Wp ((f sd S).bind fun _ S1 => .ok (.nx sd) S1) Q X := rfl
theorem w_sAsg {f : Sl → Sto → Res D} {g : D → Sl → Sto → Res Sl} {sd : Sl} {S : Sto} {Q : Fl → Sto → Prop} {X : Exc → Sto → Prop} : Wp (sAsg f g  sd S) Q X = Wp ((f sd S).bind fun d S1 => (g d sd S1).bind fun sd1 S2 => .ok (.nx sd1) S2) Q X := rfl
theorem w_gVar {i : Nat} {d : D} {sd : Sl} {S : Sto} {Q : Sl → Sto → Prop} {X : Exc → Sto → Prop} : Wp (gVar i d sd S) Q X = Wp (.ok (sd.set i (some d)) S) Q X := rfl
theorem w_sBrk {sd : Sl} {S : Sto} {Q : Fl → Sto → Prop} {X : Exc → Sto → Prop} : Wp (sBrk   sd S) Q X = Wp (.ok (.brk sd) S) Q X := rfl
theorem w_gsNil {ds : List D} {sd : Sl} {S : Sto} {Q : Sl → Sto → Prop} {X : Exc → Sto → Prop} : Wp (gsNil  ds sd S) Q X = Wp (match ds with
  | [] => .ok sd S
  | _ => .stuck) Q X := rfl
theorem w_gsCons {g : D → Sl → Sto → Res Sl} {k : List D → Sl → Sto → Res Sl} {ds : List D} {sd : Sl} {S : Sto} {Q : Sl → Sto → Prop} {X : Exc → Sto → Prop} : Wp (gsCons g k ds sd S) Q X = Wp (match ds with
  | d :: r => (g d sd S).bind fun sd1 S1 => k r sd1 S1
  | _ => .stuck) Q X := rfl
theorem w_gTupD {n : Nat} {k : List D → Sl → Sto → Res Sl} {d : D} {sd : Sl} {S : Sto} {Q : Sl → Sto → Prop} {X : Exc → Sto → Prop} : Wp (gTupD n k d sd S) Q X = Wp (match d with
  | .tup ds => if ds.length = n then k ds sd S else .stuck
  | .ref l => match S[l]? with
    | some (.lst ds) => if ds.length = n then k ds sd S else .stuck
    | _ => .stuck
  | _ => .stuck) Q X := rfl
theorem w_sPar {i j : Nat} {f : Sl → Sto → Res (List D)} {sd : Sl} {S : Sto} {Q : Fl → Sto → Prop} {X : Exc → Sto → Prop} : Wp (sPar i j f  sd S) Q X = Wp ((f sd S).bind fun ds S1 => match ds with
  | [x, y] => .ok (.nx ((sd.set i (some x)).set j (some y))) S1
  | _ => .stuck) Q X := rfl
theorem w_iVal {f : Sl → Sto → Res D} {sd : Sl} {S : Sto} {Q : ItD → Sto → Prop} {X : Exc → Sto → Prop} : Wp (iVal f  sd S) Q X = Wp ((f sd S).bind fun d S1 => match itemsD d S1 with
  | some it => .ok it S1
  | none => .stuck) Q X := rfl
theorem w_iEnumD {f : Sl → Sto → Res D} {sd : Sl} {S : Sto} {Q : ItD → Sto → Prop} {X : Exc → Sto → Prop} : Wp (iEnumD f  sd S) Q X = Wp ((f sd S).bind fun d S1 => match itemsD d S1 with
  | some it => .ok ⟨enumL 0 it.items, it.chk⟩ S1
  | none => .stuck) Q X := rfl
theorem w_iZipD {f g : Sl → Sto → Res D} {sd : Sl} {S : Sto} {Q : ItD → Sto → Prop} {X : Exc → Sto → Prop} : Wp (iZipD f g  sd S) Q X = Wp ((f sd S).bind fun d S1 => (g sd S1).bind fun e S2 => match itemsD d S2, itemsD e S2 with
  | some it, some jt => .ok ⟨zipL it.items jt.items, fun S => it.chk S && jt.chk S⟩ S2
  | _, _ => .stuck) Q X := rfl
theorem w_iRngD1 {f : Sl → Sto → Res D} {sd : Sl} {S : Sto} {Q : ItD → Sto → Prop} {X : Exc → Sto → Prop} : Wp (iRngD1 f  sd S) Q X = Wp ((f sd S).bind fun d S1 => match d with
  | .int j => if -(2 ^ 62) ≤ j ∧ j < 2 ^ 62 then .ok ⟨rangeL 0 j.toNat, yes⟩ S1 else .stuck
  | _ => .stuck) Q X := rfl
theorem w_iRngD2 {f g : Sl → Sto → Res D} {sd : Sl} {S : Sto} {Q : ItD → Sto → Prop} {X : Exc → Sto → Prop} : Wp (iRngD2 f g  sd S) Q X = Wp ((f sd S).bind fun d S1 => (g sd S1).bind fun e S2 => match d, e with
  | .int i, .int j => if -(2 ^ 62) ≤ i ∧ i < 2 ^ 62 ∧ -(2 ^ 62) ≤ j ∧ j < 2 ^ 62 then .ok ⟨rangeL i (j - i).toNat, yes⟩ S2 else .stuck
  | _, _ => .stuck) Q X := rfl
theorem w_dComp {vs : List Nat} {fi : Sl → Sto → Res ItD} {ga : D → Sl → Sto → Res Sl} {ft : Sl → Sto → Res Bool} {fe : Sl → Sto → Res D} {sd : Sl} {S : Sto} {Q : D → Sto → Prop} {X : Exc → Sto → Prop} : Wp (dComp vs fi ga ft fe  sd S) Q X = Wp ((fi sd S).bind fun it S1 => (compD it.chk ga ft fe S1.length (wipeD sd vs) it.items (S1 ++ [.lst []])).bind fun _ S2 => .ok (.ref S1.length) S2) Q X := rfl
theorem w_tYesD {sd : Sl} {S : Sto} {Q : Bool → Sto → Prop} {X : Exc → Sto → Prop} : Wp (tYesD   sd S) Q X = Wp (.ok true S) Q X := rfl
theorem w_gSubD {set : D → D → D → Sto → Res Unit} {fo fi : Sl → Sto → Res D} {v : D} {sd : Sl} {S : Sto} {Q : Sl → Sto → Prop} {X : Exc → Sto → Prop} : Wp (gSubD set fo fi v sd S) Q X = Wp ((fo sd S).bind fun o S1 => (fi sd S1).bind fun i S2 => (set o i v S2).bind fun _ S3 => .ok sd S3) Q X := rfl
theorem w_oNone {sd : Sl} {S : Sto} {Q : (Option Int) → Sto → Prop} {X : Exc → Sto → Prop} : Wp (oNone   sd S) Q X = Wp (.ok none S) Q X := rfl
theorem w_oSome {f : Sl → Sto → Res D} {sd : Sl} {S : Sto} {Q : (Option Int) → Sto → Prop} {X : Exc → Sto → Prop} : Wp (oSome f  sd S) Q X = Wp ((f sd S).bind fun d S1 => match d with
  | .int i => .ok (some i) S1
  | _ => .stuck) Q X := rfl
theorem w_dSlice {f : Sl → Sto → Res D} {g h : Sl → Sto → Res (Option Int)} {sd : Sl} {S : Sto} {Q : D → Sto → Prop} {X : Exc → Sto → Prop} : Wp (dSlice f g h  sd S) Q X = Wp ((f sd S).bind fun x S1 => (g sd S1).bind fun lo S2 => (h sd S2).bind fun hi S3 => sliceD x lo hi S3) Q X := rfl
theorem w_dCall {g : List D → Sto → Res D} {f : Sl → Sto → Res (List D)} {sd : Sl} {S : Sto} {Q : D → Sto → Prop} {X : Exc → Sto → Prop} : Wp (dCall g f  sd S) Q X = Wp ((f sd S).bind fun ds S1 => g ds S1) Q X := rfl
theorem w_dFld {cs : List Nat} {f : Str} {fo : Sl → Sto → Res D} {sd : Sl} {S : Sto} {Q : D → Sto → Prop} {X : Exc → Sto → Prop} : Wp (dFld cs f fo  sd S) Q X = Wp ((fo sd S).bind fun d S1 => getF cs f d S1) Q X := rfl
theorem w_sFldD {cs : List Nat} {f : Str} {fo fv : Sl → Sto → Res D} {sd : Sl} {S : Sto} {Q : Fl → Sto → Prop} {X : Exc → Sto → Prop} : Wp (sFldD cs f fo fv  sd S) Q X = Wp ((fv sd S).bind fun v S1 => (fo sd S1).bind fun o S2 => (setF cs f o v S2).bind fun _ S3 => .ok (.nx sd) S3) Q X := rfl
theorem w_gFldD {cs : List Nat} {f : Str} {fo : Sl → Sto → Res D} {v : D} {sd : Sl} {S : Sto} {Q : Sl → Sto → Prop} {X : Exc → Sto → Prop} : Wp (gFldD cs f fo v sd S) Q X = Wp ((fo sd S).bind fun o S2 => (setF cs f o v S2).bind fun _ S3 => .ok sd S3) Q X := rfl
theorem w_dCallF {n : Nat} {F : List D → Sto → Res D} {fs : Sl → Sto → Res (List D)} {sd : Sl} {S : Sto} {Q : D → Sto → Prop} {X : Exc → Sto → Prop} : Wp (dCallF n F fs  sd S) Q X = Wp ((fs sd S).bind fun ds S1 => if ds.length = n then F ds S1 else .stuck) Q X := rfl
theorem w_dMeth {c : Nat} {m : Str} {n : Nat} {F : List D → Sto → Res D} {fo : Sl → Sto → Res D} {fs : Sl → Sto → Res (List D)} {sd : Sl} {S : Sto} {Q : D → Sto → Prop} {X : Exc → Sto → Prop} : Wp (dMeth c m n F fo fs  sd S) Q X = Wp ((fo sd S).bind fun d S1 => match d with
  | .ref l => match S1[l]? with
    | some (.ins c' gs) => if c' = c ∧ gs.lookup m = none then (fs sd S1).bind fun ds S2 => if ds.length + 1 = n then F (d :: ds) S2 else .stuck else .stuck
    | _ => .stuck
  | _ => .stuck) Q X := rfl
theorem w_dMake {c : Nat} {n : Nat} {F : List D → Sto → Res D} {fs : Sl → Sto → Res (List D)} {sd : Sl} {S : Sto} {Q : D → Sto → Prop} {X : Exc → Sto → Prop} : Wp (dMake c n F fs  sd S) Q X = Wp ((fs sd S).bind fun ds S1 => if ds.length + 1 = n then (F (.ref S1.length :: ds) (S1 ++ [.ins c []])).bind fun r S2 => match r with
    | .non => .ok (.ref S1.length) S2
    | _ => .stuck
  else .stuck) Q X := rfl
theorem w_sRaise {c : Nat} {fs : List Str} {fa : Sl → Sto → Res (List D)} {sd : Sl} {S : Sto} {Q : Fl → Sto → Prop} {X : Exc → Sto → Prop} : Wp (sRaise c fs fa  sd S) Q X = Wp ((fa sd S).bind fun ds S1 => match fs, ds with
  | [f], [d] => .exc ⟨c, some [(f, d)]⟩ S1
  | [f, g], [d, e] => .exc ⟨c, some [(g, e), (f, d)]⟩ S1
  | _, _ => .stuck) Q X := rfl
theorem w_sRaiseT {c : Nat} {sd : Sl} {S : Sto} {Q : Fl → Sto → Prop} {X : Exc → Sto → Prop} : Wp (sRaiseT c  sd S) Q X = Wp (.exc ⟨c, none⟩ S) Q X := rfl
theorem w_dExF {i : Nat} {a : Addr} {d : Option Addr} {f : Str} {sd : Sl} {S : Sto} {Q : D → Sto → Prop} {X : Exc → Sto → Prop} : Wp (dExF i a d f  sd S) Q X = Wp (match sd[i]? with
  | some (some (.exn a' dd ns ds)) => if a' = a ∧ d = some dd ∧ ns ≠ [] then (match lookN ns ds f with
    | some v => .ok v S
    | none => .stuck) else .stuck
  | _ => .stuck) Q X := rfl
theorem w_dExI {i : Nat} {a : Addr} {d : Option Addr} {b : Bool} {sd : Sl} {S : Sto} {Q : D → Sto → Prop} {X : Exc → Sto → Prop} : Wp (dExI i a d b  sd S) Q X = Wp (match sd[i]? with
  | some (some (.exn a' dd ns _)) => if a' = a ∧ (d = none ∨ (d = some dd ∧ ns ≠ [])) then .ok (.bl b) S else .stuck
  | _ => .stuck) Q X := rfl
-- w_dVar, w_dC, w_dNil, w_dCons, w_dTup, w_dLst, w_d2, w_d2T, w_d3, w_d3T, w_tstB, w_tAndD, w_tOrD, w_tNotD, w_dAnd, w_dOr, w_dNot, w_dIf, w_dNeg, w_sNext, w_sSeq, w_sIf, w_sRet, w_sExpr, w_sAsg, w_gVar, w_sBrk, w_gsNil, w_gsCons, w_gTupD, w_sPar, w_iVal, w_iEnumD, w_iZipD, w_iRngD1, w_iRngD2, w_dComp, w_tYesD, w_gSubD, w_oNone, w_oSome, w_dSlice, w_dCall, w_dFld, w_sFldD, w_gFldD, w_dCallF, w_dMeth, w_dMake, w_sRaise, w_sRaiseT, w_dExF, w_dExI

/-! ### the operators -/
section
variable {S : Sto} {Q : D → Sto → Prop} {X : Exc → Sto → Prop}
theorem w_addI {a b : Int} : Wp (addD (.int a) (.int b) S) Q X = Q (.int (a + b)) S := rfl
theorem w_addT {a b : List D} (h : a.length + b.length ≤ sizeLine) : Wp (addD (.tup a) (.tup b) S) Q X = Q (.tup (a ++ b)) S := by simp only [addD, if_pos h]; rfl
theorem w_subI {a b : Int} : Wp (subD (.int a) (.int b) S) Q X = Q (.int (a - b)) S := rfl
theorem w_modI {a b : Int} (h : 0 < b) : Wp (modD (.int a) (.int b) S) Q X = Q (.int (a % b)) S := by simp only [modD, if_pos h]; rfl
theorem w_fdivI {a b : Int} (h : 0 < b ∧ b.natAbs.log2 < 9000) : Wp (fdivD (.int a) (.int b) S) Q X = Q (.int (a / b)) S := by simp only [fdivD, if_pos h]; rfl
theorem w_mulI {a b : Int} (h : (-(2 ^ 64) < a ∧ a < 2 ^ 64) ∨ (-(2 ^ 64) < b ∧ b < 2 ^ 64)) : Wp (mulD (.int a) (.int b) S) Q X = Q (.int (a * b)) S := by simp only [mulD, if_pos h]; rfl
theorem w_ltI {a b : Int} : Wp (ltD (.int a) (.int b) S) Q X = Q (.bl (decide (a < b))) S := rfl
theorem w_leI {a b : Int} : Wp (leD (.int a) (.int b) S) Q X = Q (.bl (decide (a ≤ b))) S := rfl
theorem w_gtI {a b : Int} : Wp (gtD (.int a) (.int b) S) Q X = Q (.bl (decide (b < a))) S := rfl
theorem w_geI {a b : Int} : Wp (geD (.int a) (.int b) S) Q X = Q (.bl (decide (b ≤ a))) S := rfl
theorem w_eqI {a b : Int} : Wp (eqD (.int a) (.int b) S) Q X = Q (.bl (decide (a = b))) S := rfl
theorem w_neI {a b : Int} : Wp (neD (.int a) (.int b) S) Q X = Q (.bl (!decide (a = b))) S := rfl
theorem w_eqS {a b : Str} : Wp (eqD (.str a) (.str b) S) Q X = Q (.bl (decide (a = b))) S := rfl
theorem w_neS {a b : Str} : Wp (neD (.str a) (.str b) S) Q X = Q (.bl (!decide (a = b))) S := rfl
theorem w_lenT {ds : List D} : Wp (lenD [.tup ds] S) Q X = Q (.int (ds.length : Nat)) S := rfl
theorem w_lenF {ds : List D} : Wp (lenD [.frl ds] S) Q X = Q (.int (ds.length : Nat)) S := rfl
theorem w_lenS {z : Str} (h : z.length ≤ sizeLine) : Wp (lenD [.str z] S) Q X = Q (.int (z.length : Nat)) S := by simp only [lenD, if_pos h]; rfl
theorem w_lenL {l : Nat} {ds : List D} (h : S[l]? = some (.lst ds)) : Wp (lenD [.ref l] S) Q X = Q (.int (ds.length : Nat)) S := by simp only [lenD, h]; rfl
theorem w_ixT {ds : List D} {i : Int} {d : D} (h : atI ds i = some d) : Wp (ixD (.tup ds) (.int i) S) Q X = Q d S := by simp only [ixD, h]; rfl
theorem w_ixF {ds : List D} {i : Int} {d : D} (h : atI ds i = some d) : Wp (ixD (.frl ds) (.int i) S) Q X = Q d S := by simp only [ixD, h]; rfl
theorem w_ixL {l : Nat} {ds : List D} {i : Int} {d : D} (hl : S[l]? = some (.lst ds)) (h : atI ds i = some d) : Wp (ixD (.ref l) (.int i) S) Q X = Q d S := by simp only [ixD, hl, h]; rfl
theorem w_ixS {z : Str} {i : Int} {c : Nat} (hl : z.length ≤ sizeLine) (h : atI z.cps.toList i = some c) : Wp (ixD (.str z) (.int i) S) Q X = Q (.str ⟨#[c]⟩) S := by simp only [ixD, if_pos hl, h]; rfl
theorem w_ixT2 {ds : List D} {i : Int} : Wp (ixD (.tup ds) (.int i) S) Q X = Wp (match atI ds i with
  | some d => .ok d S
  | none => .stuck) Q X := rfl
theorem w_ixF2 {ds : List D} {i : Int} : Wp (ixD (.frl ds) (.int i) S) Q X = Wp (match atI ds i with
  | some d => .ok d S
  | none => .stuck) Q X := rfl
theorem w_ixL2 {l : Nat} {ds : List D} {i : Int} (hl : S[l]? = some (.lst ds)) : Wp (ixD (.ref l) (.int i) S) Q X = Wp (match atI ds i with
  | some d => .ok d S
  | none => .stuck) Q X := by simp only [ixD, hl] <;> rfl
theorem w_setL2 {l : Nat} {ds : List D} {i : Int} {v : D} {Q : Unit → Sto → Prop} (hl : S[l]? = some (.lst ds)) : Wp (setD (.ref l) (.int i) v S) Q X = Wp (match ixN ds.length i with
  | some j => .ok () (S.set l (.lst (ds.set j v)))
  | none => .stuck) Q X := by simp only [setD, hl] <;> rfl
theorem w_setL {l : Nat} {ds : List D} {i : Int} {v : D} {j : Nat} {Q : Unit → Sto → Prop} (hl : S[l]? = some (.lst ds)) (h : ixN ds.length i = some j) : Wp (setD (.ref l) (.int i) v S) Q X = Q () (S.set l (.lst (ds.set j v))) := by simp only [setD, hl, h]; rfl
end
theorem w_setF {cs : List Nat} {f : Str} {l c : Nat} {fs : List (Str × D)} {v : D} {S : Sto} {Q : Unit → Sto → Prop} {X : Exc → Sto → Prop} (h : S[l]? = some (.ins c fs)) (hc : c ∈ cs ∧ fs.length < 1000) : Wp (setF cs f (.ref l) v S) Q X = Q () (S.set l (.ins c (putFD f v fs))) := by
  simp only [setF, h]
  rw [if_pos hc]
  rfl
theorem w_getF {cs : List Nat} {f : Str} {l c : Nat} {fs : List (Str × D)} {v : D} {S : Sto} {Q : D → Sto → Prop} {X : Exc → Sto → Prop} (h : S[l]? = some (.ins c fs)) (hc : c ∈ cs) (hv : fs.lookup f = some v) : Wp (getF cs f (.ref l) S) Q X = Q v S := by
  simp only [getF, h]
  rw [if_pos hc, hv]
  rfl
theorem atI_pos {α : Type} {xs : List α} {i : Int} (h : 0 ≤ i) : atI xs i = xs[i.toNat]? := by
  unfold atI ixN
  rw [if_pos h]
  by_cases hl : i < xs.length
  · rw [if_pos hl]; rfl
  · rw [if_neg hl]
    rw [List.getElem?_eq_none (by omega)]
    rfl
theorem ixN_nat {n : Nat} {i : Int} (h : 0 ≤ i) (h2 : i < n) : ixN n i = some i.toNat := by
  unfold ixN
  rw [if_pos h, if_pos h2]
theorem set_same {S : Sto} {l : Nat} {o : DO} (h : l < S.length) : (S.set l o)[l]? = some o := by rw [List.getElem?_set_self h]
/-- what only grows -/
def Grow (S S' : Sto) : Prop := ∃ T, S' = S ++ T
theorem Grow.refl (S : Sto) : Grow S S := ⟨[], by simp⟩
theorem Grow.trans {A B C : Sto} (a : Grow A B) (b : Grow B C) : Grow A C := by
  obtain ⟨T, rfl⟩ := a
  obtain ⟨U, rfl⟩ := b
  exact ⟨T ++ U, by simp⟩
theorem Grow.one (S : Sto) (o : DO) : Grow S (S ++ [o]) := ⟨[o], rfl⟩
theorem Grow.get {S S' : Sto} (g : Grow S S') {l : Nat} {o : DO} (h : S[l]? = some o) : S'[l]? = some o := by
  obtain ⟨T, rfl⟩ := g
  rw [List.getElem?_append_left (List.getElem?_eq_some_iff.mp h).1]; exact h
theorem Grow.len {S S' : Sto} (g : Grow S S') : S.length ≤ S'.length := by
  obtain ⟨T, rfl⟩ := g
  simp
/-! ### comprehensions whose parts only read -/
theorem set_last {S : Sto} {o o' : DO} : (S ++ [o]).set S.length o' = S ++ [o'] := by
  rw [List.set_append_right _ _ (Nat.le_refl _)]
  simp
theorem comp_go {chk : Sto → Bool} {ga : D → Sl → Sto → Res Sl} {ft : Sl → Sto → Res Bool} {fe : Sl → Sto → Res D} {sd : Sl} {S : Sto} {p : D → Bool} {g : D → D} (hc : ∀ ys, chk (S ++ [.lst ys]) = true) : ∀ (items acc : List D),
    acc.length + items.length ≤ sizeLine → (∀ x ∈ items, ∀ ys, ∃ sd1, ga x sd (S ++ [.lst ys]) = .ok sd1 (S ++ [.lst ys]) ∧ ft sd1 (S ++ [.lst ys]) = .ok (p x) (S ++ [.lst ys]) ∧ (p x = true → fe sd1 (S ++ [.lst ys]) = .ok (g x) (S ++ [.lst ys]))) →
    compD chk ga ft fe S.length sd items (S ++ [.lst acc]) = .ok () (S ++ [.lst (acc ++ (items.filter p).map g)])
  | [], acc, _, _ => by
    unfold compD
    rw [if_pos (hc acc)]
    simp
  | x :: xs, acc, hl, hx => by
    obtain ⟨sd1, e1, e2, e3⟩ := hx x (by simp) acc
    have hl' : acc.length + 1 + xs.length ≤ sizeLine := by simp at hl; omega
    unfold compD
    rw [if_pos (hc acc), e1]
    simp only [Res.noExc, Res.bind, e2]
    cases hp : p x with
    | false =>
      rw [if_neg (by simp)]
      rw [comp_go hc xs acc (by omega) (fun y hy => hx y (by simp [hy])), List.filter_cons_of_neg (by simp [hp])]
    | true =>
      rw [if_pos rfl, e3 hp]
      simp only [Res.noExc, Res.bind]
      rw [List.getElem?_append_right (Nat.le_refl _)]
      simp only [Nat.sub_self, List.getElem?_cons_zero]
      rw [if_pos (by omega), set_last, comp_go hc xs (acc ++ [g x]) (by simp; omega) (fun y hy => hx y (by simp [hy])), List.filter_cons_of_pos hp]
      simp
theorem comp_ok {vs : List Nat} {fi : Sl → Sto → Res ItD} {ga : D → Sl → Sto → Res Sl} {ft : Sl → Sto → Res Bool} {fe : Sl → Sto → Res D} {sd : Sl} {S S1 : Sto} {it : ItD} (p : D → Bool) (g : D → D) (hi : fi sd S = .ok it S1) (hc : ∀ ys, it.chk (S1 ++ [.lst ys]) = true) (hl : it.items.length ≤ sizeLine)
    (hx : ∀ x ∈ it.items, ∀ ys, ∃ sd1, ga x (wipeD sd vs) (S1 ++ [.lst ys]) = .ok sd1 (S1 ++ [.lst ys]) ∧ ft sd1 (S1 ++ [.lst ys]) = .ok (p x) (S1 ++ [.lst ys]) ∧ (p x = true → fe sd1 (S1 ++ [.lst ys]) = .ok (g x) (S1 ++ [.lst ys]))) :
    dComp vs fi ga ft fe sd S = .ok (.ref S1.length) (S1 ++ [.lst ((it.items.filter p).map g)]) := by
  unfold dComp
  rw [hi]
  show (compD it.chk ga ft fe S1.length (wipeD sd vs) it.items (S1 ++ [.lst []])).bind _ = _
  rw [comp_go hc it.items [] (by simpa using hl) hx]
  simp [Res.bind]
theorem wp_eq {α : Type} {r : Res α} {a : α} {S : Sto} {Q : α → Sto → Prop} {X : Exc → Sto → Prop} (h : r = .ok a S) : Wp r Q X = Q a S := by rw [h]; rfl
theorem eq_of_wp {α : Type} {r : Res α} {a : α} {S : Sto} (h : Wp r (fun d S' => d = a ∧ S' = S) (fun _ _ => False)) : r = .ok a S := by
  obtain ⟨d, S', e, rfl, rfl⟩ := h.ok
  exact e
theorem c_0 : ((0 : Nat) : Int) = 0 := rfl
theorem c_1 : ((1 : Nat) : Int) = 1 := rfl
theorem c_2 : ((2 : Nat) : Int) = 2 := rfl
theorem c_3 : ((3 : Nat) : Int) = 3 := rfl
theorem c_4 : ((4 : Nat) : Int) = 4 := rfl
theorem c_5 : ((5 : Nat) : Int) = 5 := rfl
theorem c_6 : ((6 : Nat) : Int) = 6 := rfl
theorem c_7 : ((7 : Nat) : Int) = 7 := rfl
theorem c_8 : ((8 : Nat) : Int) = 8 := rfl
theorem c_9 : ((9 : Nat) : Int) = 9 := rfl
theorem c_10 : ((10 : Nat) : Int) = 10 := rfl
theorem c_11 : ((11 : Nat) : Int) = 11 := rfl
theorem c_12 : ((12 : Nat) : Int) = 12 := rfl
theorem sz_0 : (0 ≤ sizeLine) = True := eq_true (by rw [sizeLine_eq]; omega)
theorem sz_1 : (1 ≤ sizeLine) = True := eq_true (by rw [sizeLine_eq]; omega)
theorem sz_2 : (2 ≤ sizeLine) = True := eq_true (by rw [sizeLine_eq]; omega)
theorem sz_3 : (3 ≤ sizeLine) = True := eq_true (by rw [sizeLine_eq]; omega)
theorem sz_4 : (4 ≤ sizeLine) = True := eq_true (by rw [sizeLine_eq]; omega)
theorem sz_5 : (5 ≤ sizeLine) = True := eq_true (by rw [sizeLine_eq]; omega)
theorem sz_6 : (6 ≤ sizeLine) = True := eq_true (by rw [sizeLine_eq]; omega)
theorem sz_7 : (7 ≤ sizeLine) = True := eq_true (by rw [sizeLine_eq]; omega)
theorem sz_8 : (8 ≤ sizeLine) = True := eq_true (by rw [sizeLine_eq]; omega)
theorem sz_9 : (9 ≤ sizeLine) = True := eq_true (by rw [sizeLine_eq]; omega)
theorem sz_10 : (10 ≤ sizeLine) = True := eq_true (by rw [sizeLine_eq]; omega)
theorem sz_11 : (11 ≤ sizeLine) = True := eq_true (by rw [sizeLine_eq]; omega)
theorem sz_12 : (12 ≤ sizeLine) = True := eq_true (by rw [sizeLine_eq]; omega)
theorem sz_13 : (13 ≤ sizeLine) = True := eq_true (by rw [sizeLine_eq]; omega)
theorem sz_14 : (14 ≤ sizeLine) = True := eq_true (by rw [sizeLine_eq]; omega)
theorem sz_15 : (15 ≤ sizeLine) = True := eq_true (by rw [sizeLine_eq]; omega)
theorem sz_16 : (16 ≤ sizeLine) = True := eq_true (by rw [sizeLine_eq]; omega)
/-- a list's end -/
theorem get_last {S : Sto} {o : DO} : (S ++ [o])[S.length]? = some o := by simp
end DL

namespace Lw
open PySem PySem.Spec PyProof.Rows L2 DL
def fuelW : Nat := 1000000000
def top (i : Nat) : Stmt := PySem.Challenge.pw_tablebeat_k45_programs_that_do_not_begin.main.body.getD i (.Pass ⟨0, 0, 0, 0⟩)
abbrev st__law_start : Stmt := top 18
abbrev st_is_word : Stmt := top 9
abbrev st_is_step : Stmt := top 14
abbrev st_need_program : Stmt := top 15
abbrev st_Processor_init : Stmt := inClass (top 16) 0
abbrev st__law_refused : Stmt := top 20
abbrev st__law_drawn : Stmt := top 19
abbrev st_need_beats : Stmt := top 10
abbrev st_Processor_behind : Stmt := inClass (top 16) 3
abbrev st_Processor_stopped : Stmt := inClass (top 16) 2
abbrev st_Processor_beat : Stmt := inClass (top 16) 1
abbrev st_Processor_where : Stmt := inClass (top 16) 4
abbrev st_law : Stmt := top 21
abbrev st_x_BadBeat : Stmt := inClass (top 2) 0
abbrev st_x_BadPlain : Stmt := inClass (top 3) 0
abbrev st_x_BadProgram : Stmt := inClass (top 4) 0
def cn : Nat → Str
  | 0 => "BeatError"
  | 1 => "BadBeat"
  | 2 => "BadPlain"
  | 3 => "BadProgram"
  | 4 => "Stuck"
  | 5 => "Processor"
  | _ => ""
abbrev cl (K : PySem.W.Frag) : Nat → Addr := fun c => He.ga K (cn c)
def cs_ins : List Nat := [5]
def cs_program : List Nat := [5]
def cs_place : List Nat := [5]
structure Tx (K : PySem.W.Frag) (mg : Str → Option Value) : Prop where
  g__law_start : mg "_law_start" = some (.ref (He.ga K "_law_start"))
  g_is_word : mg "is_word" = some (.ref (He.ga K "is_word"))
  g_is_step : mg "is_step" = some (.ref (He.ga K "is_step"))
  g_need_program : mg "need_program" = some (.ref (He.ga K "need_program"))
  g__law_refused : mg "_law_refused" = some (.ref (He.ga K "_law_refused"))
  g__law_drawn : mg "_law_drawn" = some (.ref (He.ga K "_law_drawn"))
  g_need_beats : mg "need_beats" = some (.ref (He.ga K "need_beats"))
  g_law : mg "law" = some (.ref (He.ga K "law"))
  g_BeatError : mg "BeatError" = some (.ref (He.ga K "BeatError"))
  g_BadBeat : mg "BadBeat" = some (.ref (He.ga K "BadBeat"))
  g_BadPlain : mg "BadPlain" = some (.ref (He.ga K "BadPlain"))
  g_BadProgram : mg "BadProgram" = some (.ref (He.ga K "BadProgram"))
  g_Stuck : mg "Stuck" = some (.ref (He.ga K "Stuck"))
  g_Processor : mg "Processor" = some (.ref (He.ga K "Processor"))
  z_isinstance : mg "isinstance" = none
  z_len : mg "len" = none
  z_enumerate : mg "enumerate" = none
  z_tuple : mg "tuple" = none
  z_range : mg "range" = none
  k_MOST_INS : Con0 K mg "MOST_INS" (.int 4)
  k_MOST_OUTS : Con0 K mg "MOST_OUTS" (.int 3)
  k_MOST_STEPS : Con0 K mg "MOST_STEPS" (.int 10000)
  k_PATIENCE : Con0 K mg "PATIENCE" (.int 1000)
  xb : ExB K (cl K 0)
  xo_BadBeat : OexC K (cl K 1)
  xi_BadBeat : (∀ f ∈ (["number"] : List Str), PySem.W.findIn K (.ref (cl K 1)) f = some none) ∧ PySem.W.findIn K (.ref (cl K 1)) "__init__" = some (some (.ref (He.ma K (cl K 1) "__init__"))) ∧ PySem.W.typeIn K (.ref (He.ma K (cl K 1) "__init__")) = some (.type "function")
  xo_BadPlain : OexC K (cl K 2)
  xi_BadPlain : (∀ f ∈ (["number"] : List Str), PySem.W.findIn K (.ref (cl K 2)) f = some none) ∧ PySem.W.findIn K (.ref (cl K 2)) "__init__" = some (some (.ref (He.ma K (cl K 2) "__init__"))) ∧ PySem.W.typeIn K (.ref (He.ma K (cl K 2) "__init__")) = some (.type "function")
  xo_BadProgram : OexC K (cl K 3)
  xi_BadProgram : (∀ f ∈ (["number"] : List Str), PySem.W.findIn K (.ref (cl K 3)) f = some none) ∧ PySem.W.findIn K (.ref (cl K 3)) "__init__" = some (some (.ref (He.ma K (cl K 3) "__init__"))) ∧ PySem.W.typeIn K (.ref (He.ma K (cl K 3) "__init__")) = some (.type "function")
  xt_Stuck : ExT K (cl K 4)
  c_Processor : Cls K (cl K 5)
  mk_Processor : Mk K (cl K 5) (He.ma K (He.ga K "Processor") "__init__")
  m_Processor_beat : Meth K (cl K 5) "beat" (He.ma K (He.ga K "Processor") "beat")
  m_Processor_stopped : Meth K (cl K 5) "stopped" (He.ma K (He.ga K "Processor") "stopped")
  m_Processor_behind : Meth K (cl K 5) "behind" (He.ma K (He.ga K "Processor") "behind")
  m_Processor_where : Meth K (cl K 5) "where" (He.ma K (He.ga K "Processor") "where")
  ea : ExAll K (cl K) 5
  fl_ins : ∀ c ∈ cs_ins, Cls K (cl K c) ∧ NoAttr K (cl K c) "ins"
  fl_program : ∀ c ∈ cs_program, Cls K (cl K c) ∧ NoAttr K (cl K c) "program"
  fl_place : ∀ c ∈ cs_place, Cls K (cl K c) ∧ NoAttr K (cl K c) "place"
  f__law_start : ∃ fd, FunD K "_law_start" "_law_start" (defArgs st__law_start) (defBody st__law_start) (defScope st__law_start) [] [] (He.fAd K ("_law_start", none)) fd
  f_is_word : ∃ fd, FunD K "is_word" "is_word" (defArgs st_is_word) (defBody st_is_word) (defScope st_is_word) [] [] (He.fAd K ("is_word", none)) fd
  f_is_step : ∃ fd, FunD K "is_step" "is_step" (defArgs st_is_step) (defBody st_is_step) (defScope st_is_step) [] [] (He.fAd K ("is_step", none)) fd
  f_need_program : ∃ fd, FunD K "need_program" "need_program" (defArgs st_need_program) (defBody st_need_program) (defScope st_need_program) [] [] (He.fAd K ("need_program", none)) fd
  f_Processor_init : ∃ fd, FunD K "__init__" "Processor.__init__" (defArgs st_Processor_init) (defBody st_Processor_init) (defScope st_Processor_init) [] [] (He.fAd K ("Processor", some "__init__")) fd
  f__law_refused : ∃ fd, FunD K "_law_refused" "_law_refused" (defArgs st__law_refused) (defBody st__law_refused) (defScope st__law_refused) [] [] (He.fAd K ("_law_refused", none)) fd
  f__law_drawn : ∃ fd, FunD K "_law_drawn" "_law_drawn" (defArgs st__law_drawn) (defBody st__law_drawn) (defScope st__law_drawn) [] [] (He.fAd K ("_law_drawn", none)) fd
  f_need_beats : ∃ fd, FunD K "need_beats" "need_beats" (defArgs st_need_beats) (defBody st_need_beats) (defScope st_need_beats) [] [] (He.fAd K ("need_beats", none)) fd
  f_Processor_behind : ∃ fd, FunD K "behind" "Processor.behind" (defArgs st_Processor_behind) (defBody st_Processor_behind) (defScope st_Processor_behind) [] [] (He.fAd K ("Processor", some "behind")) fd
  f_Processor_stopped : ∃ fd, FunD K "stopped" "Processor.stopped" (defArgs st_Processor_stopped) (defBody st_Processor_stopped) (defScope st_Processor_stopped) [] [] (He.fAd K ("Processor", some "stopped")) fd
  f_Processor_beat : ∃ fd, FunD K "beat" "Processor.beat" (defArgs st_Processor_beat) (defBody st_Processor_beat) (defScope st_Processor_beat) [] [] (He.fAd K ("Processor", some "beat")) fd
  f_Processor_where : ∃ fd, FunD K "where" "Processor.where" (defArgs st_Processor_where) (defBody st_Processor_where) (defScope st_Processor_where) [] [] (He.fAd K ("Processor", some "where")) fd
  f_law : ∃ fd, FunD K "law" "law" (defArgs st_law) (defBody st_law) (defScope st_law) [] [] (He.fAd K ("law", none)) fd
  f_x_BadBeat : ∃ fd, FunD K "__init__" "BadBeat.__init__" (defArgs st_x_BadBeat) (defBody st_x_BadBeat) (defScope st_x_BadBeat) [] [] (He.fAd K ("BadBeat", some "__init__")) fd
  f_x_BadPlain : ∃ fd, FunD K "__init__" "BadPlain.__init__" (defArgs st_x_BadPlain) (defBody st_x_BadPlain) (defScope st_x_BadPlain) [] [] (He.fAd K ("BadPlain", some "__init__")) fd
  f_x_BadProgram : ∃ fd, FunD K "__init__" "BadProgram.__init__" (defArgs st_x_BadProgram) (defBody st_x_BadProgram) (defScope st_x_BadProgram) [] [] (He.fAd K ("BadProgram", some "__init__")) fd
theorem sc__law_start : FnScope ["_law_script", "_law_mixed", "_law_cell"] ["_law_script"] (defScope st__law_start) := ⟨rfl, rfl, rfl, by decide +kernel, rfl, by decide +kernel, by decide +kernel⟩
theorem sc_is_word : FnScope ["word", "many", "signs", "sign"] ["word", "many", "signs"] (defScope st_is_word) := ⟨rfl, rfl, rfl, by decide +kernel, rfl, by decide +kernel, by decide +kernel⟩
theorem sc_is_step : FnScope ["ins", "outs", "many", "step"] ["ins", "outs", "many", "step"] (defScope st_is_step) := ⟨rfl, rfl, rfl, by decide +kernel, rfl, by decide +kernel, by decide +kernel⟩
theorem sc_need_program : FnScope ["ins", "outs", "program", "number", "step"] ["ins", "outs", "program"] (defScope st_need_program) := ⟨rfl, rfl, rfl, by decide +kernel, rfl, by decide +kernel, by decide +kernel⟩
theorem sc_Processor_init : FnScope ["self", "ins", "outs", "program"] ["self", "ins", "outs", "program"] (defScope st_Processor_init) := ⟨rfl, rfl, rfl, by decide +kernel, rfl, by decide +kernel, by decide +kernel⟩
theorem sc__law_refused : FnScope ["_law_ins", "_law_outs", "_law_program", "e"] ["_law_ins", "_law_outs", "_law_program"] (defScope st__law_refused) := ⟨rfl, rfl, rfl, by decide +kernel, rfl, by decide +kernel, by decide +kernel⟩
theorem sc__law_drawn : FnScope ["_law_state", "_law_many", "_law_found", "_law_cell"] ["_law_state", "_law_many"] (defScope st__law_drawn) := ⟨rfl, rfl, rfl, by decide +kernel, rfl, by decide +kernel, by decide +kernel⟩
theorem sc_need_beats : FnScope ["ins", "beats", "number", "beat"] ["ins", "beats"] (defScope st_need_beats) := ⟨rfl, rfl, rfl, by decide +kernel, rfl, by decide +kernel, by decide +kernel⟩
theorem sc_Processor_behind : FnScope ["self", "place", "step", "beat"] ["self", "place", "step", "beat"] (defScope st_Processor_behind) := ⟨rfl, rfl, rfl, by decide +kernel, rfl, by decide +kernel, by decide +kernel⟩
theorem sc_Processor_stopped : FnScope ["self", "place", "deed"] ["self", "place", "deed"] (defScope st_Processor_stopped) := ⟨rfl, rfl, rfl, by decide +kernel, rfl, by decide +kernel, by decide +kernel⟩
theorem sc_Processor_beat : FnScope ["self", "beat", "place", "deed", "turn", "step"] ["self", "beat"] (defScope st_Processor_beat) := ⟨rfl, rfl, rfl, by decide +kernel, rfl, by decide +kernel, by decide +kernel⟩
theorem sc_Processor_where : FnScope ["self"] ["self"] (defScope st_Processor_where) := ⟨rfl, rfl, rfl, by decide +kernel, rfl, by decide +kernel, by decide +kernel⟩
theorem sc_law : FnScope ["_law_script", "_law_state", "_law_turn", "_law_deed", "_law_rest", "_law_many", "_law_first", "_law_box", "_law_ins", "_law_outs"] ["_law_script"] (defScope st_law) := ⟨rfl, rfl, rfl, by decide +kernel, rfl, by decide +kernel, by decide +kernel⟩
section
variable {P : Program} {w : World} {K : PySem.W.Frag} {mg : Str → Option Value} {base : Heap}
theorem sc_x_BadBeat : FnScope ["self", "number"] ["self", "number"] (defScope st_x_BadBeat) := ⟨rfl, rfl, rfl, by decide +kernel, rfl, by decide +kernel, by decide +kernel⟩
theorem x_BadBeat (T : Tx K mg) : ExC P w (cl K) K mg base 1 1 ["number"] := by
  obtain ⟨fd, Fu⟩ := T.f_x_BadBeat
  refine ⟨T.xo_BadBeat, T.xi_BadBeat.1, _, fd, ["self", "number"], spEx1 K (cl K 1) "number", T.xi_BadBeat.2.1, T.xi_BadBeat.2.2, Fu.bindsN (fun _ _ _ _ _ _ us hl => match us, hl with | [_, _], _ => rfl), ?_, rfl⟩
  refine Fu.ok sc_x_BadBeat (fun vs H Q E h => ?_) (fun cdv A outer s H vs Q E hr h => ?_)
  · obtain ⟨a, y, rfl, _⟩ := h; rfl
  · obtain ⟨a, y, rfl, oex, n1, ha, k⟩ := h
    refine ⟨_, pss_cons (ps_expr (pe_beinit (by rfl) T.g_BeatError T.xb.hs1 T.xb.hrd T.xb.vV (pa_cons (pv 0) (pa_cons pe_str pa_nil)))) (pss_one (ps_ost (pv 0) (pv 1))), ?_⟩
    refine ⟨_, rfl, a, cl K 1, [.str "it can't be"], rfl, (by show 1 ≤ 1000; decide), oex, ha, ?_⟩
    exact ⟨_, rfl, _, rfl, a, cl K 1, rfl, oex, n1, .inl ⟨ha, fun dx hdx hne => k dx hdx hne⟩⟩
theorem sc_x_BadPlain : FnScope ["self", "number"] ["self", "number"] (defScope st_x_BadPlain) := ⟨rfl, rfl, rfl, by decide +kernel, rfl, by decide +kernel, by decide +kernel⟩
theorem x_BadPlain (T : Tx K mg) : ExC P w (cl K) K mg base 2 1 ["number"] := by
  obtain ⟨fd, Fu⟩ := T.f_x_BadPlain
  refine ⟨T.xo_BadPlain, T.xi_BadPlain.1, _, fd, ["self", "number"], spEx1 K (cl K 2) "number", T.xi_BadPlain.2.1, T.xi_BadPlain.2.2, Fu.bindsN (fun _ _ _ _ _ _ us hl => match us, hl with | [_, _], _ => rfl), ?_, rfl⟩
  refine Fu.ok sc_x_BadPlain (fun vs H Q E h => ?_) (fun cdv A outer s H vs Q E hr h => ?_)
  · obtain ⟨a, y, rfl, _⟩ := h; rfl
  · obtain ⟨a, y, rfl, oex, n1, ha, k⟩ := h
    refine ⟨_, pss_cons (ps_expr (pe_beinit (by rfl) T.g_BeatError T.xb.hs1 T.xb.hrd T.xb.vV (pa_cons (pv 0) (pa_cons pe_str pa_nil)))) (pss_one (ps_ost (pv 0) (pv 1))), ?_⟩
    refine ⟨_, rfl, a, cl K 2, [.str "it can't be"], rfl, (by show 1 ≤ 1000; decide), oex, ha, ?_⟩
    exact ⟨_, rfl, _, rfl, a, cl K 2, rfl, oex, n1, .inl ⟨ha, fun dx hdx hne => k dx hdx hne⟩⟩
theorem sc_x_BadProgram : FnScope ["self", "number"] ["self", "number"] (defScope st_x_BadProgram) := ⟨rfl, rfl, rfl, by decide +kernel, rfl, by decide +kernel, by decide +kernel⟩
theorem x_BadProgram (T : Tx K mg) : ExC P w (cl K) K mg base 3 1 ["number"] := by
  obtain ⟨fd, Fu⟩ := T.f_x_BadProgram
  refine ⟨T.xo_BadProgram, T.xi_BadProgram.1, _, fd, ["self", "number"], spEx1 K (cl K 3) "number", T.xi_BadProgram.2.1, T.xi_BadProgram.2.2, Fu.bindsN (fun _ _ _ _ _ _ us hl => match us, hl with | [_, _], _ => rfl), ?_, rfl⟩
  refine Fu.ok sc_x_BadProgram (fun vs H Q E h => ?_) (fun cdv A outer s H vs Q E hr h => ?_)
  · obtain ⟨a, y, rfl, _⟩ := h; rfl
  · obtain ⟨a, y, rfl, oex, n1, ha, k⟩ := h
    refine ⟨_, pss_cons (ps_expr (pe_beinit (by rfl) T.g_BeatError T.xb.hs1 T.xb.hrd T.xb.vV (pa_cons (pv 0) (pa_cons pe_str pa_nil)))) (pss_one (ps_ost (pv 0) (pv 1))), ?_⟩
    refine ⟨_, rfl, a, cl K 3, [.str "it can't be"], rfl, (by show 1 ≤ 1000; decide), oex, ha, ?_⟩
    exact ⟨_, rfl, _, rfl, a, cl K 3, rfl, oex, n1, .inl ⟨ha, fun dx hdx hne => k dx hdx hne⟩⟩
def b__law_start : Sl → Sto → Res Fl :=
  (sSeq (sAsg (dC (.int 1)) (gVar 1))
  (sSeq (sFor (iVal (dVar 0)) (gVar 2) (sAsg (d2 modD (d2 addD (d2 addD (d2 mulD (dVar 1) (dC (.int 48271))) (dVar 2)) (dC (.int 7))) (dC (.int 2147483647))) (gVar 1)))
  (sRet (dLst (dCons (dVar 0) (dCons (dC (.int 0)) (dCons (dVar 1) (dCons (dC (.int 0)) dNil))))))))
def F__law_start : List D → Sto → Res D := dFn 3 b__law_start
theorem d__law_start (T : Tx K mg) : FnD P w (cl K) K mg base 1 (He.ga K "_law_start") 1 F__law_start := by
  obtain ⟨fd, Fu⟩ := T.f__law_start
  exact fnD_of Fu sc__law_start (fun _ _ _ _ _ _ us hl => match us, hl with | [_], _ => rfl) (fun cdv A outer s H E co =>
      (dss_cons (ds_set (i := 1) co.nd rfl (Or.inl rfl) de_int)
      (dss_cons (ds_for co.po co.calm (di_val (de_var 0)) (dg_name (i := 2) co.nd rfl (Or.inl rfl)) (dss_one (ds_set (i := 1) co.nd rfl (Or.inl rfl) (de_op op_modD (de_op op_addD (de_op op_addD (de_op op_mulD (de_var 1) de_int) (de_var 2)) de_int) de_int))))
      (dss_one (ds_ret (de_lst (da_cons (de_var 0) (da_cons de_int (da_cons (de_var 1) (da_cons de_int da_nil))))))))))
def b_is_word : Sl → Sto → Res Fl :=
  (sRet (dAnd (d2 eqD (dCall lenD (dCons (dVar 0) dNil)) (dVar 1)) (d2 eqD (dComp [3] (iVal (dVar 0)) (gVar 3) (d2T notInD (dVar 3) (dVar 2)) (dVar 3)) (dLst dNil))))
def F_is_word : List D → Sto → Res D := dFn 4 b_is_word
theorem d_is_word (T : Tx K mg) : FnD P w (cl K) K mg base 1 (He.ga K "is_word") 3 F_is_word := by
  obtain ⟨fd, Fu⟩ := T.f_is_word
  exact fnD_of Fu sc_is_word (fun _ _ _ _ _ _ us hl => match us, hl with | [_, _, _], _ => rfl) (fun cdv A outer s H E co =>
      (dss_one (ds_ret (de_and (de_cmp (op_eqDD co.hu) (de_callB cd_len (by rfl) T.z_len (by decide +kernel) (da_cons (de_var 0) da_nil)) (de_var 1) (nomark _)) (de_one (de_cmp (op_eqDD co.hu) (de_comp (own := [("sign", 3)]) co.calm co.nd (di_val (de_var 0)) (blkOk_by (by kernel_rfl)) (fun _ _ _ _ _ => (dgw_name (i := 3) (by decide) (co.blk _ _ _ _ _).nd rfl (Or.inl rfl))) (fun _ _ _ _ _ => (dts_one (dt_cmp (op_notInDD (co.blk _ _ _ _ _).hu5) (de_var 3) (de_var 2)))) (fun _ _ _ _ _ => (de_var 3))) (de_lst da_nil) (nomark _)))))))
def b_is_step : Sl → Sto → Res Fl :=
  (sSeq (sIf (d2T eqD (dCall lenD (dCons (dVar 3) dNil)) (dC (.int 0))) (sRet (dC (.bl false))) sNext)
  (sSeq (sIf (d2T eqD (d2 ixD (dVar 3) (dC (.int 0))) (dC (.str "ask"))) (sRet (dAnd (d2 eqD (dCall lenD (dCons (dVar 3) dNil)) (dC (.int 3))) (dAnd (d3 leD ltD (dC (.int 0)) (d2 ixD (dVar 3) (dC (.int 1))) (dVar 0)) (d3 leD ltD (dC (.int 0)) (d2 ixD (dVar 3) (dC (.int 2))) (dVar 2))))) sNext)
  (sSeq (sIf (d2T eqD (d2 ixD (dVar 3) (dC (.int 0))) (dC (.str "say"))) (sRet (dAnd (d2 eqD (dCall lenD (dCons (dVar 3) dNil)) (dC (.int 2))) (dCallF 3 F_is_word (dCons (d2 ixD (dVar 3) (dC (.int 1))) (dCons (dVar 1) (dCons (dC (.str "01")) dNil)))))) sNext)
  (sSeq (sIf (d2T eqD (d2 ixD (dVar 3) (dC (.int 0))) (dC (.str "go"))) (sRet (dAnd (d2 eqD (dCall lenD (dCons (dVar 3) dNil)) (dC (.int 2))) (d3 leD ltD (dC (.int 0)) (d2 ixD (dVar 3) (dC (.int 1))) (dVar 2)))) sNext)
  (sRet (d2 eqD (dVar 3) (dTup (dCons (dC (.str "wait")) dNil))))))))
def F_is_step : List D → Sto → Res D := dFn 4 b_is_step
theorem d_is_step (T : Tx K mg) : FnD P w (cl K) K mg base 2 (He.ga K "is_step") 4 F_is_step := by
  obtain ⟨fd, Fu⟩ := T.f_is_step
  exact fnD_of Fu sc_is_step (fun _ _ _ _ _ _ us hl => match us, hl with | [_, _, _, _], _ => rfl) (fun cdv A outer s H E co =>
      (dss_cons (ds_if (dt_cmp (op_eqDD co.hu) (de_callB cd_len (by rfl) T.z_len (by decide +kernel) (da_cons (de_var 3) da_nil)) de_int (nomark _)) (dss_one (ds_ret de_bl)) dss_nil)
      (dss_cons (ds_if (dt_cmp (op_eqDD co.hu) (de_ix (de_var 3) de_int) de_str (nomark _)) (dss_one (ds_ret (de_and (de_cmp (op_eqDD co.hu) (de_callB cd_len (by rfl) T.z_len (by decide +kernel) (da_cons (de_var 3) da_nil)) de_int (nomark _)) (de_and (de_chain op_leD op_ltD de_int (de_ix (de_var 3) de_int) (de_var 0)) (de_one (de_chain op_leD op_ltD de_int (de_ix (de_var 3) de_int) (de_var 2))))))) dss_nil)
      (dss_cons (ds_if (dt_cmp (op_eqDD co.hu) (de_ix (de_var 3) de_int) de_str (nomark _)) (dss_one (ds_ret (de_and (de_cmp (op_eqDD co.hu) (de_callB cd_len (by rfl) T.z_len (by decide +kernel) (da_cons (de_var 3) da_nil)) de_int (nomark _)) (de_one (de_call (d_is_word T) (co.hr.mono (by first | decide | omega)) co.px (by rfl) T.g_is_word (da_cons (de_ix (de_var 3) de_int) (da_cons (de_var 1) (da_cons de_str da_nil)))))))) dss_nil)
      (dss_cons (ds_if (dt_cmp (op_eqDD co.hu) (de_ix (de_var 3) de_int) de_str (nomark _)) (dss_one (ds_ret (de_and (de_cmp (op_eqDD co.hu) (de_callB cd_len (by rfl) T.z_len (by decide +kernel) (da_cons (de_var 3) da_nil)) de_int (nomark _)) (de_one (de_chain op_leD op_ltD de_int (de_ix (de_var 3) de_int) (de_var 2)))))) dss_nil)
      (dss_one (ds_ret (de_cmp (op_eqDD co.hu) (de_var 3) (de_tup (da_cons de_str da_nil)) (nomark _)))))))))
def b_need_program : Sl → Sto → Res Fl :=
  (sSeq (sIf (tOrD (tNotD (d3T leD leD (dC (.int 1)) (dVar 0) (dC (.int 4)))) (tNotD (d3T leD leD (dC (.int 1)) (dVar 1) (dC (.int 3))))) (sRaise 2 ["number"] (dCons (d2 subD (dC (.int 0)) (dC (.int 1))) dNil)) sNext)
  (sSeq (sIf (tOrD (d2T eqD (dCall lenD (dCons (dVar 2) dNil)) (dC (.int 0))) (d2T neD (d2 ixD (dVar 2) (dC (.int 0))) (dTup (dCons (dC (.str "wait")) dNil)))) (sRaise 3 ["number"] (dCons (dC (.int 0)) dNil)) sNext)
  (sFor (iEnumD (dVar 2)) (gTupD 2 (gsCons (gVar 3) (gsCons (gVar 4) gsNil))) (sIf (tOrD (d2T geD (dVar 3) (dC (.int 10000))) (tNotD (tstB (dCallF 4 F_is_step (dCons (dVar 0) (dCons (dVar 1) (dCons (dCall lenD (dCons (dVar 2) dNil)) (dCons (dVar 4) dNil)))))))) (sRaise 3 ["number"] (dCons (dVar 3) dNil)) sNext))))
def F_need_program : List D → Sto → Res D := dFn 5 b_need_program
theorem d_need_program (T : Tx K mg) : FnD P w (cl K) K mg base 3 (He.ga K "need_program") 3 F_need_program := by
  obtain ⟨fd, Fu⟩ := T.f_need_program
  exact fnD_of Fu sc_need_program (fun _ _ _ _ _ _ us hl => match us, hl with | [_, _, _], _ => rfl) (fun cdv A outer s H E co =>
      (dss_cons (ds_if (dt_bool (dw_or (dt_not (dt_chain op_leD op_leD de_int (de_var 0) (de_con T.k_MOST_INS (by rfl)))) (dw_or1 (dt_not (dt_chain op_leD op_leD de_int (de_var 1) (de_con T.k_MOST_OUTS (by rfl))))))) (dss_one (ds_raise (x_BadPlain T) (co.at (by first | decide | omega)) (by rfl) T.g_BadPlain (da_cons (de_op op_subD de_int de_int) da_nil))) dss_nil)
      (dss_cons (ds_if (dt_bool (dw_or (dt_cmp (op_eqDD co.hu) (de_callB cd_len (by rfl) T.z_len (by decide +kernel) (da_cons (de_var 2) da_nil)) de_int (nomark _)) (dw_or1 (dt_cmp (op_neDD co.hu) (de_ix (de_var 2) de_int) (de_tup (da_cons de_str da_nil)) (nomark _))))) (dss_one (ds_raise (x_BadProgram T) (co.at (by first | decide | omega)) (by rfl) T.g_BadProgram (da_cons de_int da_nil))) dss_nil)
      (dss_one (ds_for co.po co.calm (di_enum (by rfl) T.z_enumerate (de_var 2)) (dg_tup co.calm (dgs_cons (dg_name (i := 3) co.nd rfl (Or.inl rfl)) (dgs_cons (dg_name (i := 4) co.nd rfl (Or.inl rfl)) dgs_nil))) (dss_one (ds_if (dt_bool (dw_or (dt_cmp op_geD (de_var 3) (de_con T.k_MOST_STEPS (by rfl)) (nomark _)) (dw_or1 (dt_not (dt_val (de_call (d_is_step T) (co.hr.mono (by first | decide | omega)) co.px (by rfl) T.g_is_step (da_cons (de_var 0) (da_cons (de_var 1) (da_cons (de_callB cd_len (by rfl) T.z_len (by decide +kernel) (da_cons (de_var 2) da_nil)) (da_cons (de_var 4) da_nil)))))))))) (dss_one (ds_raise (x_BadProgram T) (co.at (by first | decide | omega)) (by rfl) T.g_BadProgram (da_cons (de_var 3) da_nil))) dss_nil)))))))
def b_Processor_init : Sl → Sto → Res Fl :=
  (sSeq (sExpr (dCallF 3 F_need_program (dCons (dVar 1) (dCons (dVar 2) (dCons (dVar 3) dNil)))))
  (sSeq (sFldD cs_ins "ins" (dVar 0) (dVar 1))
  (sSeq (sFldD cs_program "program" (dVar 0) (dCall tupleD (dCons (dVar 3) dNil)))
  (sFldD cs_place "place" (dVar 0) (dC (.int 0))))))
def F_Processor_init : List D → Sto → Res D := dFn 4 b_Processor_init
theorem d_Processor_init (T : Tx K mg) : FnD P w (cl K) K mg base 4 (He.ma K (He.ga K "Processor") "__init__") 4 F_Processor_init := by
  obtain ⟨fd, Fu⟩ := T.f_Processor_init
  exact fnD_of Fu sc_Processor_init (fun _ _ _ _ _ _ us hl => match us, hl with | [_, _, _, _], _ => rfl) (fun cdv A outer s H E co =>
      (dss_cons (ds_expr (de_call (d_need_program T) (co.hr.mono (by first | decide | omega)) co.px (by rfl) T.g_need_program (da_cons (de_var 1) (da_cons (de_var 2) (da_cons (de_var 3) da_nil)))))
      (dss_cons (ds_fld T.fl_ins (de_var 0) (de_var 1))
      (dss_cons (ds_fld T.fl_program (de_var 0) (de_callTy cd_tuple (by rfl) T.z_tuple (by decide +kernel) (da_cons (de_var 3) da_nil)))
      (dss_one (ds_fld T.fl_place (de_var 0) de_int))))))
def x__law_refused (q : Exc) (S : Sto) : Res D := if q.c < 5 then (if q.c = 3 then (match q.fs with
    | some [(f, v)] => if f = "number" then .ok v S else .stuck
    | _ => .stuck) else if q.fs = some [] then .stuck else .ok (.str "other") S) else .stuck
def b__law_refused : Sl → Sto → Res Fl := (sSeq (sTry (sExpr (dMake 5 4 F_Processor_init (dCons (dVar 0) (dCons (dVar 1) (dCons (dVar 2) dNil))))) x__law_refused) (sRet (dC .non)))
def F__law_refused : List D → Sto → Res D := dFn 4 b__law_refused
def su__law_refused (q : Exc) (a : Addr) (d : Option Addr) : Sl → Sto → Res Fl := sRet (dIf (tstB (dExI 3 a d (q.c == 3))) (if q.c = 3 then dExF 3 a d "number" else fun _ _ => .stuck) (dC (.str "other")))
theorem d__law_refused (T : Tx K mg) : FnD P w (cl K) K mg base 6 (He.ga K "_law_refused") 3 F__law_refused := by
  obtain ⟨fd, Fu⟩ := T.f__law_refused
  exact fnD_of Fu sc__law_refused (fun _ _ _ _ _ _ us hl => match us, hl with | [_, _, _], _ => rfl) (fun cdv A outer s H E co =>
      (dss_cons (ds_tryR (i := 3) (Fx := x__law_refused) (suF := su__law_refused) (ok := fun q => q.c < 5) co rfl rfl rfl rfl ⟨by rfl, by decide, Or.inl T.g_BeatError⟩
        (fun pn xe E' co => dss_one (ds_expr (de_make T.mk_Processor (d_Processor_init T) (co.hr.mono (by first | decide | omega)) co.px (by rfl) T.g_Processor (da_cons (de_var 0) (da_cons (de_var 1) (da_cons (de_var 2) da_nil))))))
        (fun q S hq => by
          unfold x__law_refused at hq
          by_cases h : q.c < 5
          · rw [if_pos h] at hq
            refine ⟨h, T.ea.exm _ h, fun z => ?_⟩
            by_cases h3 : q.c = 3
            · rw [if_pos h3, z] at hq; exact hq rfl
            · rw [if_neg h3, if_pos z] at hq; exact hq rfl
          · rw [if_neg h] at hq; exact absurd rfl hq)
        (fun q a oe d pn hq hok hz hf => by
          refine dss_one (ds_ret (de_if (dt_val (de_exI (C' := cl K 3) (T.ea.exc _ hq) hz hf rfl (by first | exact Or.inl rfl | exact Or.inl (Or.inl rfl) | rfl) (by decide +kernel) (by decide +kernel) (by rfl) T.z_isinstance (by rfl) T.g_BadProgram ((T.ea.kit _ _ hq (by decide)).trans (by simp)))) ?_ de_str))
          by_cases h3 : q.c = 3
          · rw [if_pos h3]
            rw [h3] at hz
            exact de_exF (T.ea.exc 3 (by decide)) (T.xi_BadProgram.1 "number" (by simp)) hz hf rfl (by first | exact Or.inl rfl | exact Or.inl (Or.inl rfl) | rfl) (by decide +kernel) (by decide +kernel)
          · rw [if_neg h3]; exact de_stuck)
        (fun q a d S hq hok => by
          obtain ⟨c, fs⟩ := q
          have h5 : c < 5 := by
            by_cases h : c < 5
            · exact h
            · unfold x__law_refused at hq; rw [if_neg h] at hq; exact absurd rfl hq
          cases fs with
          | none =>
            have hd : d = none := hok
            subst hd
            have h3 : c ≠ 3 := fun z => by
              subst z
              exact hq rfl
            have hb : (c == 3) = false := by simp [h3]
            show su__law_refused ⟨c, none⟩ a none [none, none, none, some (.exn a 0 [] [])] S = _
            unfold su__law_refused x__law_refused
            simp [sRet, dIf, tstB, dExI, dC, Res.bind, hb, h3, h5]
          | some fs =>
            obtain ⟨hd, hne⟩ := (hok : d.isSome = true ∧ fs ≠ [])
            obtain ⟨dd, rfl⟩ := Option.isSome_iff_exists.mp hd
            show su__law_refused ⟨c, some fs⟩ a (some dd) [none, none, none, some (.exn a dd (fs.map Prod.fst) (fs.map Prod.snd))] S = _
            have hn2 : fs.map Prod.fst ≠ [] := by simpa using hne
            by_cases h3 : c = 3
            · subst h3
              unfold x__law_refused at hq ⊢
              match fs, hne with
              | [(f, v)], _ =>
                by_cases hf : f = "number"
                · subst hf
                  unfold su__law_refused
                  simp [sRet, dIf, tstB, dExI, dExF, dC, Res.bind, lookN]
                · exact absurd (by simp [hf]) hq
              | _ :: _ :: _, _ => exact absurd (by simp) hq
            · have hb : (c == 3) = false := by simp [h3]
              unfold su__law_refused x__law_refused
              simp [sRet, dIf, tstB, dExI, dC, Res.bind, hb, h3, h5, hne]))
      (dss_one (ds_ret de_non))))

def b__law_drawn : Sl → Sto → Res Fl :=
  (sSeq (sIf (d2T gtD (d2 ixD (dVar 0) (dC (.int 3))) (dC (.int 0))) (sSeq (sAsg (d2 modD (d2 ixD (dVar 0) (dC (.int 3))) (dVar 1)) (gVar 2))
  (sSeq (sAsg (d2 fdivD (d2 ixD (dVar 0) (dC (.int 3))) (dVar 1)) (gSubD setD (dVar 0) (dC (.int 3))))
  (sRet (dVar 2)))) sNext)
  (sSeq (sAsg (d2 addD (d2 ixD (dVar 0) (dC (.int 1))) (dC (.int 1))) (gSubD setD (dVar 0) (dC (.int 1))))
  (sSeq (sIf (d2T leD (d2 ixD (dVar 0) (dC (.int 1))) (dCall lenD (dCons (d2 ixD (dVar 0) (dC (.int 0))) dNil))) (sSeq (sAsg (d2 ixD (d2 ixD (dVar 0) (dC (.int 0))) (d2 subD (d2 ixD (dVar 0) (dC (.int 1))) (dC (.int 1)))) (gVar 3))
  (sSeq (sAsg (dIf (d2T geD (dVar 3) (d2 powD (dC (.int 10)) (dC (.int 18)))) (d2 fdivD (dVar 3) (dVar 1)) (dC (.int 0))) (gSubD setD (dVar 0) (dC (.int 3))))
  (sRet (d2 modD (dVar 3) (dVar 1))))) sNext)
  (sSeq (sAsg (d2 modD (d2 addD (d2 mulD (d2 ixD (dVar 0) (dC (.int 2))) (dC (.int 48271))) (dC (.int 11))) (dC (.int 2147483647))) (gSubD setD (dVar 0) (dC (.int 2))))
  (sRet (d2 modD (d2 fdivD (d2 ixD (dVar 0) (dC (.int 2))) (dC (.int 7))) (dVar 1)))))))
def F__law_drawn : List D → Sto → Res D := dFn 4 b__law_drawn
theorem d__law_drawn (T : Tx K mg) : FnD P w (cl K) K mg base 1 (He.ga K "_law_drawn") 2 F__law_drawn := by
  obtain ⟨fd, Fu⟩ := T.f__law_drawn
  exact fnD_of Fu sc__law_drawn (fun _ _ _ _ _ _ us hl => match us, hl with | [_, _], _ => rfl) (fun cdv A outer s H E co =>
      (dss_cons (ds_if (dt_cmp op_gtD (de_ix (de_var 0) de_int) de_int (nomark _)) (dss_cons (ds_set (i := 2) co.nd rfl (Or.inl rfl) (de_op op_modD (de_ix (de_var 0) de_int) (de_var 1)))
      (dss_cons (ds_asg (de_op op_fdivD (de_ix (de_var 0) de_int) (de_var 1)) (dg_sub (de_var 0) de_int set_lstD))
      (dss_one (ds_ret (de_var 2))))) dss_nil)
      (dss_cons (ds_asg (de_op op_addD (de_ix (de_var 0) de_int) de_int) (dg_sub (de_var 0) de_int set_lstD))
      (dss_cons (ds_if (dt_cmp op_leD (de_ix (de_var 0) de_int) (de_callB cd_len (by rfl) T.z_len (by decide +kernel) (da_cons (de_ix (de_var 0) de_int) da_nil)) (nomark _)) (dss_cons (ds_set (i := 3) co.nd rfl (Or.inl rfl) (de_ix (de_ix (de_var 0) de_int) (de_op op_subD (de_ix (de_var 0) de_int) de_int)))
      (dss_cons (ds_asg (de_if (dt_cmp op_geD (de_var 3) (de_op op_powD de_int de_int) (nomark _)) (de_op op_fdivD (de_var 3) (de_var 1)) de_int) (dg_sub (de_var 0) de_int set_lstD))
      (dss_one (ds_ret (de_op op_modD (de_var 3) (de_var 1)))))) dss_nil)
      (dss_cons (ds_asg (de_op op_modD (de_op op_addD (de_op op_mulD (de_ix (de_var 0) de_int) de_int) de_int) de_int) (dg_sub (de_var 0) de_int set_lstD))
      (dss_one (ds_ret (de_op op_modD (de_op op_fdivD (de_ix (de_var 0) de_int) de_int) (de_var 1)))))))))
def b_need_beats : Sl → Sto → Res Fl :=
  (sFor (iEnumD (dVar 1)) (gTupD 2 (gsCons (gVar 2) (gsCons (gVar 3) gsNil))) (sIf (tNotD (tstB (dCallF 3 F_is_word (dCons (dVar 3) (dCons (dVar 0) (dCons (dC (.str "01")) dNil)))))) (sRaise 1 ["number"] (dCons (dVar 2) dNil)) sNext))
def F_need_beats : List D → Sto → Res D := dFn 4 b_need_beats
theorem d_need_beats (T : Tx K mg) : FnD P w (cl K) K mg base 3 (He.ga K "need_beats") 2 F_need_beats := by
  obtain ⟨fd, Fu⟩ := T.f_need_beats
  exact fnD_of Fu sc_need_beats (fun _ _ _ _ _ _ us hl => match us, hl with | [_, _], _ => rfl) (fun cdv A outer s H E co =>
      (dss_one (ds_for co.po co.calm (di_enum (by rfl) T.z_enumerate (de_var 1)) (dg_tup co.calm (dgs_cons (dg_name (i := 2) co.nd rfl (Or.inl rfl)) (dgs_cons (dg_name (i := 3) co.nd rfl (Or.inl rfl)) dgs_nil))) (dss_one (ds_if (dt_not (dt_val (de_call (d_is_word T) (co.hr.mono (by first | decide | omega)) co.px (by rfl) T.g_is_word (da_cons (de_var 3) (da_cons (de_var 0) (da_cons de_str da_nil)))))) (dss_one (ds_raise (x_BadBeat T) (co.at (by first | decide | omega)) (by rfl) T.g_BadBeat (da_cons (de_var 2) da_nil))) dss_nil)))))
def b_Processor_behind : Sl → Sto → Res Fl :=
  (sSeq (sIf (d2T eqD (d2 ixD (dVar 2) (dC (.int 0))) (dC (.str "go"))) (sRet (d2 ixD (dVar 2) (dC (.int 1)))) sNext)
  (sSeq (sIf (tAndD (d2T eqD (d2 ixD (dVar 2) (dC (.int 0))) (dC (.str "ask"))) (d2T eqD (d2 ixD (dVar 3) (d2 ixD (dVar 2) (dC (.int 1)))) (dC (.str "1")))) (sRet (d2 ixD (dVar 2) (dC (.int 2)))) sNext)
  (sRet (d2 addD (dVar 1) (dC (.int 1))))))
def F_Processor_behind : List D → Sto → Res D := dFn 4 b_Processor_behind
theorem d_Processor_behind (T : Tx K mg) : FnD P w (cl K) K mg base 1 (He.ma K (He.ga K "Processor") "behind") 4 F_Processor_behind := by
  obtain ⟨fd, Fu⟩ := T.f_Processor_behind
  exact fnD_of Fu sc_Processor_behind (fun _ _ _ _ _ _ us hl => match us, hl with | [_, _, _, _], _ => rfl) (fun cdv A outer s H E co =>
      (dss_cons (ds_if (dt_cmp (op_eqDD co.hu) (de_ix (de_var 2) de_int) de_str (nomark _)) (dss_one (ds_ret (de_ix (de_var 2) de_int))) dss_nil)
      (dss_cons (ds_if (dt_bool (dw_and (dt_cmp (op_eqDD co.hu) (de_ix (de_var 2) de_int) de_str (nomark _)) (dw_and1 (dt_cmp (op_eqDD co.hu) (de_ix (de_var 3) (de_ix (de_var 2) de_int)) de_str (nomark _))))) (dss_one (ds_ret (de_ix (de_var 2) de_int))) dss_nil)
      (dss_one (ds_ret (de_op op_addD (de_var 1) de_int))))))
def b_Processor_stopped : Sl → Sto → Res Fl :=
  (sSeq (sIf (d2T isD (dVar 2) (dC .non)) (sRaiseT 4) sNext)
  (sSeq (sFldD cs_place "place" (dVar 0) (dVar 1))
  (sRet (dVar 2))))
def F_Processor_stopped : List D → Sto → Res D := dFn 3 b_Processor_stopped
theorem d_Processor_stopped (T : Tx K mg) : FnD P w (cl K) K mg base 3 (He.ma K (He.ga K "Processor") "stopped") 3 F_Processor_stopped := by
  obtain ⟨fd, Fu⟩ := T.f_Processor_stopped
  exact fnD_of Fu sc_Processor_stopped (fun _ _ _ _ _ _ us hl => match us, hl with | [_, _, _], _ => rfl) (fun cdv A outer s H E co =>
      (dss_cons (ds_if (dt_cmp op_isD (de_var 2) de_non (nomark _)) (dss_one (ds_raiseT T.xt_Stuck co (by rfl) T.g_Stuck)) dss_nil)
      (dss_cons (ds_fld T.fl_place (de_var 0) (de_var 1))
      (dss_one (ds_ret (de_var 2))))))
def b_Processor_beat : Sl → Sto → Res Fl :=
  (sSeq (sExpr (dCallF 2 F_need_beats (dCons (dFld cs_ins "ins" (dVar 0)) (dCons (dLst (dCons (dVar 1) dNil)) dNil))))
  (sSeq (sAsg (d2 addD (dFld cs_place "place" (dVar 0)) (dC (.int 1))) (gVar 2))
  (sSeq (sAsg (dC .non) (gVar 3))
  (sSeq (sFor (iRngD1 (dC (.int 1000))) (gVar 4) (sSeq (sIf (d2T eqD (dVar 2) (dCall lenD (dCons (dFld cs_program "program" (dVar 0)) dNil))) (sRaiseT 4) sNext)
  (sSeq (sAsg (d2 ixD (dFld cs_program "program" (dVar 0)) (dVar 2)) (gVar 5))
  (sSeq (sIf (d2T eqD (d2 ixD (dVar 5) (dC (.int 0))) (dC (.str "wait"))) (sRet (dMeth 5 "stopped" 3 F_Processor_stopped (dVar 0) (dCons (dVar 2) (dCons (dVar 3) dNil)))) sNext)
  (sSeq (sIf (d2T eqD (d2 ixD (dVar 5) (dC (.int 0))) (dC (.str "say"))) (sAsg (d2 ixD (dVar 5) (dC (.int 1))) (gVar 3)) sNext)
  (sAsg (dMeth 5 "behind" 4 F_Processor_behind (dVar 0) (dCons (dVar 2) (dCons (dVar 5) (dCons (dVar 1) dNil)))) (gVar 2)))))))
  (sRaiseT 4)))))
def F_Processor_beat : List D → Sto → Res D := dFn 6 b_Processor_beat
theorem d_Processor_beat (T : Tx K mg) : FnD P w (cl K) K mg base 4 (He.ma K (He.ga K "Processor") "beat") 2 F_Processor_beat := by
  obtain ⟨fd, Fu⟩ := T.f_Processor_beat
  exact fnD_of Fu sc_Processor_beat (fun _ _ _ _ _ _ us hl => match us, hl with | [_, _], _ => rfl) (fun cdv A outer s H E co =>
      (dss_cons (ds_expr (de_call (d_need_beats T) (co.hr.mono (by first | decide | omega)) co.px (by rfl) T.g_need_beats (da_cons (de_fld T.fl_ins (de_var 0)) (da_cons (de_lst (da_cons (de_var 1) da_nil)) da_nil))))
      (dss_cons (ds_set (i := 2) co.nd rfl (Or.inl rfl) (de_op op_addD (de_fld T.fl_place (de_var 0)) de_int))
      (dss_cons (ds_set (i := 3) co.nd rfl (Or.inl rfl) de_non)
      (dss_cons (ds_for co.po co.calm (di_range1 (by rfl) T.z_range (de_con T.k_PATIENCE (by rfl))) (dg_name (i := 4) co.nd rfl (Or.inl rfl)) (dss_cons (ds_if (dt_cmp (op_eqDD co.hu) (de_var 2) (de_callB cd_len (by rfl) T.z_len (by decide +kernel) (da_cons (de_fld T.fl_program (de_var 0)) da_nil)) (nomark _)) (dss_one (ds_raiseT T.xt_Stuck co (by rfl) T.g_Stuck)) dss_nil)
      (dss_cons (ds_set (i := 5) co.nd rfl (Or.inl rfl) (de_ix (de_fld T.fl_program (de_var 0)) (de_var 2)))
      (dss_cons (ds_if (dt_cmp (op_eqDD co.hu) (de_ix (de_var 5) de_int) de_str (nomark _)) (dss_one (ds_ret (de_meth (de_var 0) T.c_Processor T.m_Processor_stopped (d_Processor_stopped T) (co.hr.mono (by first | decide | omega)) co.px (da_cons (de_var 2) (da_cons (de_var 3) da_nil))))) dss_nil)
      (dss_cons (ds_if (dt_cmp (op_eqDD co.hu) (de_ix (de_var 5) de_int) de_str (nomark _)) (dss_one (ds_set (i := 3) co.nd rfl (Or.inl rfl) (de_ix (de_var 5) de_int))) dss_nil)
      (dss_one (ds_set (i := 2) co.nd rfl (Or.inl rfl) (de_meth (de_var 0) T.c_Processor T.m_Processor_behind (d_Processor_behind T) (co.hr.mono (by first | decide | omega)) co.px (da_cons (de_var 2) (da_cons (de_var 5) (da_cons (de_var 1) da_nil)))))))))))
      (dss_one (ds_raiseT T.xt_Stuck co (by rfl) T.g_Stuck)))))))
def b_Processor_where : Sl → Sto → Res Fl :=
  (sRet (dFld cs_place "place" (dVar 0)))
def F_Processor_where : List D → Sto → Res D := dFn 1 b_Processor_where
theorem d_Processor_where (T : Tx K mg) : FnD P w (cl K) K mg base 1 (He.ma K (He.ga K "Processor") "where") 1 F_Processor_where := by
  obtain ⟨fd, Fu⟩ := T.f_Processor_where
  exact fnD_of Fu sc_Processor_where (fun _ _ _ _ _ _ us hl => match us, hl with | [_], _ => rfl) (fun cdv A outer s H E co =>
      (dss_one (ds_ret (de_fld T.fl_place (de_var 0)))))
def b_law : Sl → Sto → Res Fl :=
  (sSeq (sAsg (dCallF 1 F__law_start (dCons (dVar 0) dNil)) (gVar 1))
  (sSeq (sFor (iRngD1 (dC (.int 4))) (gVar 2) (sSeq (sPar 8 9 (dCons (d2 addD (dC (.int 1)) (dCallF 2 F__law_drawn (dCons (dVar 1) (dCons (dC (.int 4)) dNil)))) (dCons (d2 addD (dC (.int 1)) (dCallF 2 F__law_drawn (dCons (dVar 1) (dCons (dC (.int 3)) dNil)))) dNil)))
  (sSeq (sAsg (d2 mulD (d2 ixD (dC (.str "01")) (dCallF 2 F__law_drawn (dCons (dVar 1) (dCons (dC (.int 2)) dNil)))) (dVar 9)) (gVar 3))
  (sSeq (sAsg (d2 addD (dSlice (dTup (dCons (dTup (dCons (dC (.str "say")) (dCons (dVar 3) dNil))) (dCons (dTup (dCons (dC (.str "wait")) dNil)) (dCons (dTup (dCons (dC (.str "go")) (dCons (dC (.int 0)) dNil))) dNil)))) oNone (oSome (dCallF 2 F__law_drawn (dCons (dVar 1) (dCons (dC (.int 4)) dNil))))) (d2 mulD (dTup (dCons (dTup (dCons (dC (.str "wait")) dNil)) dNil)) (dCallF 2 F__law_drawn (dCons (dVar 1) (dCons (dC (.int 5)) dNil))))) (gVar 4))
  (sSeq (sAsg (d2 addD (dC (.int 1)) (dCall lenD (dCons (dVar 4) dNil))) (gVar 5))
  (sSeq (sFor (iVal (dTup (dCons (dTup (dCons (dC (.str "go")) (dCons (dCallF 2 F__law_drawn (dCons (dVar 1) (dCons (dVar 5) dNil))) dNil))) (dCons (dTup (dCons (dC (.str "go")) (dCons (dC (.int 0)) dNil))) (dCons (dTup (dCons (dC (.str "ask")) (dCons (dCallF 2 F__law_drawn (dCons (dVar 1) (dCons (dVar 8) dNil))) (dCons (dC (.int 0)) dNil)))) (dCons (dTup (dCons (dC (.str "say")) (dCons (dVar 3) dNil))) dNil)))))) (gVar 6) (sIf (d2T neD (dCallF 3 F__law_refused (dCons (dVar 8) (dCons (dVar 9) (dCons (d2 addD (dTup (dCons (dVar 6) dNil)) (dVar 4)) dNil)))) (dC (.int 0))) (sRet (dC (.bl false))) sNext))
  (sSeq (sIf (tOrD (d2T neD (dCallF 3 F__law_refused (dCons (dVar 8) (dCons (dVar 9) (dCons (dTup dNil) dNil)))) (dC (.int 0))) (d2T isNotD (dCallF 3 F__law_refused (dCons (dVar 8) (dCons (dVar 9) (dCons (d2 addD (dTup (dCons (dTup (dCons (dC (.str "wait")) dNil)) dNil)) (dVar 4)) dNil)))) (dC .non))) (sRet (dC (.bl false))) sNext)
  (sSeq (sIf (d2T notInD (dCallF 3 F__law_refused (dCons (dVar 8) (dCons (dVar 9) (dCons (d2 addD (d2 addD (dTup (dCons (dTup (dCons (dC (.str "wait")) dNil)) dNil)) (dVar 4)) (dTup (dCons (dTup (dCons (dC (.str "go")) (dCons (dVar 5) dNil))) dNil))) dNil)))) (dTup (dCons (dC .non) (dCons (dVar 5) dNil)))) (sRet (dC (.bl false))) sNext)
  (sSeq (sAsg (dMake 5 4 F_Processor_init (dCons (dVar 8) (dCons (dVar 9) (dCons (dTup (dCons (dTup (dCons (dC (.str "wait")) dNil)) (dCons (dTup (dCons (dC (.str "say")) (dCons (dVar 3) dNil))) (dCons (dTup (dCons (dC (.str "go")) (dCons (dC (.int 0)) dNil))) dNil)))) dNil)))) (gVar 7))
  (sIf (tOrD (d2T neD (dMeth 5 "beat" 2 F_Processor_beat (dVar 7) (dCons (d2 mulD (dC (.str "1")) (dVar 8)) dNil)) (dVar 3)) (tOrD (d2T neD (dMeth 5 "beat" 2 F_Processor_beat (dVar 7) (dCons (d2 mulD (dC (.str "0")) (dVar 8)) dNil)) (dVar 3)) (d2T neD (dMeth 5 "where" 1 F_Processor_where (dVar 7) dNil) (dC (.int 0))))) (sRet (dC (.bl false))) sNext))))))))))
  (sRet (dC (.bl true)))))
def F_law : List D → Sto → Res D := dFn 10 b_law
theorem d_law (T : Tx K mg) {fd : FuncData} (Fu : FunD K "law" "law" (defArgs st_law) (defBody st_law) (defScope st_law) [] [] (He.fAd K ("law", none)) fd) : (∀ (s : Shared) (u : Value), BindsTo s fd ⟨[u], []⟩ [("_law_script", u)]) ∧ ∀ base : Heap, FnOk P w K mg base (L2.CX P w) 7 (He.ga K "law") fd ["_law_script"] (spD (cl K) K 1 F_law) :=
  fnD_law Fu sc_law (fun _ _ _ _ _ _ us hl => match us, hl with | [_], _ => rfl) (fun base cdv A outer s H E co =>
      (dss_cons (ds_set (i := 1) co.nd rfl (Or.inl rfl) (de_call (d__law_start T) (co.hr.mono (by first | decide | omega)) co.px (by rfl) T.g__law_start (da_cons (de_var 0) da_nil)))
      (dss_cons (ds_for co.po co.calm (di_range1 (by rfl) T.z_range de_int) (dg_name (i := 2) co.nd rfl (Or.inl rfl)) (dss_cons (ds_par (i := 8) (j := 9) co.calm co.nd rfl rfl (by decide) rfl rfl (da_cons (de_op op_addD de_int (de_call (d__law_drawn T) (co.hr.mono (by first | decide | omega)) co.px (by rfl) T.g__law_drawn (da_cons (de_var 1) (da_cons de_int da_nil)))) (da_cons (de_op op_addD de_int (de_call (d__law_drawn T) (co.hr.mono (by first | decide | omega)) co.px (by rfl) T.g__law_drawn (da_cons (de_var 1) (da_cons de_int da_nil)))) da_nil)))
      (dss_cons (ds_set (i := 3) co.nd rfl (Or.inl rfl) (de_op op_mulD (de_ix de_str (de_call (d__law_drawn T) (co.hr.mono (by first | decide | omega)) co.px (by rfl) T.g__law_drawn (da_cons (de_var 1) (da_cons de_int da_nil)))) (de_var 9)))
      (dss_cons (ds_set (i := 4) co.nd rfl (Or.inl rfl) (de_op op_addD (de_slice (de_tup (da_cons (de_tup (da_cons de_str (da_cons (de_var 3) da_nil))) (da_cons (de_tup (da_cons de_str da_nil)) (da_cons (de_tup (da_cons de_str (da_cons de_int da_nil))) da_nil)))) dpo_none (dpo_some (de_call (d__law_drawn T) (co.hr.mono (by first | decide | omega)) co.px (by rfl) T.g__law_drawn (da_cons (de_var 1) (da_cons de_int da_nil))))) (de_op op_mulD (de_tup (da_cons (de_tup (da_cons de_str da_nil)) da_nil)) (de_call (d__law_drawn T) (co.hr.mono (by first | decide | omega)) co.px (by rfl) T.g__law_drawn (da_cons (de_var 1) (da_cons de_int da_nil))))))
      (dss_cons (ds_set (i := 5) co.nd rfl (Or.inl rfl) (de_op op_addD de_int (de_callB cd_len (by rfl) T.z_len (by decide +kernel) (da_cons (de_var 4) da_nil))))
      (dss_cons (ds_for co.po co.calm (di_val (de_tup (da_cons (de_tup (da_cons de_str (da_cons (de_call (d__law_drawn T) (co.hr.mono (by first | decide | omega)) co.px (by rfl) T.g__law_drawn (da_cons (de_var 1) (da_cons (de_var 5) da_nil))) da_nil))) (da_cons (de_tup (da_cons de_str (da_cons de_int da_nil))) (da_cons (de_tup (da_cons de_str (da_cons (de_call (d__law_drawn T) (co.hr.mono (by first | decide | omega)) co.px (by rfl) T.g__law_drawn (da_cons (de_var 1) (da_cons (de_var 8) da_nil))) (da_cons de_int da_nil)))) (da_cons (de_tup (da_cons de_str (da_cons (de_var 3) da_nil))) da_nil)))))) (dg_name (i := 6) co.nd rfl (Or.inl rfl)) (dss_one (ds_if (dt_cmp (op_neDD co.hu) (de_call (d__law_refused T) (co.hr.mono (by first | decide | omega)) co.px (by rfl) T.g__law_refused (da_cons (de_var 8) (da_cons (de_var 9) (da_cons (de_op op_addD (de_tup (da_cons (de_var 6) da_nil)) (de_var 4)) da_nil)))) de_int (nomark _)) (dss_one (ds_ret de_bl)) dss_nil)))
      (dss_cons (ds_if (dt_bool (dw_or (dt_cmp (op_neDD co.hu) (de_call (d__law_refused T) (co.hr.mono (by first | decide | omega)) co.px (by rfl) T.g__law_refused (da_cons (de_var 8) (da_cons (de_var 9) (da_cons (de_tup da_nil) da_nil)))) de_int (nomark _)) (dw_or1 (dt_cmp op_isNotD (de_call (d__law_refused T) (co.hr.mono (by first | decide | omega)) co.px (by rfl) T.g__law_refused (da_cons (de_var 8) (da_cons (de_var 9) (da_cons (de_op op_addD (de_tup (da_cons (de_tup (da_cons de_str da_nil)) da_nil)) (de_var 4)) da_nil)))) de_non (nomark _))))) (dss_one (ds_ret de_bl)) dss_nil)
      (dss_cons (ds_if (dt_cmp (op_notInDD co.hu5) (de_call (d__law_refused T) (co.hr.mono (by first | decide | omega)) co.px (by rfl) T.g__law_refused (da_cons (de_var 8) (da_cons (de_var 9) (da_cons (de_op op_addD (de_op op_addD (de_tup (da_cons (de_tup (da_cons de_str da_nil)) da_nil)) (de_var 4)) (de_tup (da_cons (de_tup (da_cons de_str (da_cons (de_var 5) da_nil))) da_nil))) da_nil)))) (de_tup (da_cons de_non (da_cons (de_var 5) da_nil)))) (dss_one (ds_ret de_bl)) dss_nil)
      (dss_cons (ds_set (i := 7) co.nd rfl (Or.inl rfl) (de_make T.mk_Processor (d_Processor_init T) (co.hr.mono (by first | decide | omega)) co.px (by rfl) T.g_Processor (da_cons (de_var 8) (da_cons (de_var 9) (da_cons (de_tup (da_cons (de_tup (da_cons de_str da_nil)) (da_cons (de_tup (da_cons de_str (da_cons (de_var 3) da_nil))) (da_cons (de_tup (da_cons de_str (da_cons de_int da_nil))) da_nil)))) da_nil)))))
      (dss_one (ds_if (dt_bool (dw_or (dt_cmp (op_neDD co.hu) (de_meth (de_var 7) T.c_Processor T.m_Processor_beat (d_Processor_beat T) (co.hr.mono (by first | decide | omega)) co.px (da_cons (de_op op_mulD de_str (de_var 8)) da_nil)) (de_var 3) (nomark _)) (dw_or (dt_cmp (op_neDD co.hu) (de_meth (de_var 7) T.c_Processor T.m_Processor_beat (d_Processor_beat T) (co.hr.mono (by first | decide | omega)) co.px (da_cons (de_op op_mulD de_str (de_var 8)) da_nil)) (de_var 3) (nomark _)) (dw_or1 (dt_cmp (op_neDD co.hu) (de_meth0 (de_var 7) T.c_Processor T.m_Processor_where (d_Processor_where T) (co.hr.mono (by first | decide | omega)) co.px) de_int (nomark _)))))) (dss_one (ds_ret de_bl)) dss_nil)))))))))))
      (dss_one (ds_ret de_bl)))))
end
def fa : List He.Fa := [.glo "_law_start", .glo "is_word", .glo "is_step", .glo "need_program", .glo "_law_refused", .glo "_law_drawn", .glo "need_beats", .glo "law", .glo "BeatError", .glo "BadBeat", .glo "BadPlain", .glo "BadProgram", .glo "Stuck", .glo "Processor", .free "isinstance", .free "len", .free "enumerate", .free "tuple", .free "range", .exc "Stuck", .cls "Processor", .mkr "Processor", .meth "Processor" "beat", .meth "Processor" "stopped", .meth "Processor" "behind", .meth "Processor" "where", .noat "Processor" "ins", .noat "Processor" "program", .noat "Processor" "place"]
def fn : List He.DefD := [⟨("_law_start", none), "_law_start", "_law_start", defArgs st__law_start, defBody st__law_start, defScope st__law_start, [], []⟩,
  ⟨("is_word", none), "is_word", "is_word", defArgs st_is_word, defBody st_is_word, defScope st_is_word, [], []⟩,
  ⟨("is_step", none), "is_step", "is_step", defArgs st_is_step, defBody st_is_step, defScope st_is_step, [], []⟩,
  ⟨("need_program", none), "need_program", "need_program", defArgs st_need_program, defBody st_need_program, defScope st_need_program, [], []⟩,
  ⟨("Processor", some "__init__"), "__init__", "Processor.__init__", defArgs st_Processor_init, defBody st_Processor_init, defScope st_Processor_init, [], []⟩,
  ⟨("_law_refused", none), "_law_refused", "_law_refused", defArgs st__law_refused, defBody st__law_refused, defScope st__law_refused, [], []⟩,
  ⟨("_law_drawn", none), "_law_drawn", "_law_drawn", defArgs st__law_drawn, defBody st__law_drawn, defScope st__law_drawn, [], []⟩,
  ⟨("need_beats", none), "need_beats", "need_beats", defArgs st_need_beats, defBody st_need_beats, defScope st_need_beats, [], []⟩,
  ⟨("Processor", some "behind"), "behind", "Processor.behind", defArgs st_Processor_behind, defBody st_Processor_behind, defScope st_Processor_behind, [], []⟩,
  ⟨("Processor", some "stopped"), "stopped", "Processor.stopped", defArgs st_Processor_stopped, defBody st_Processor_stopped, defScope st_Processor_stopped, [], []⟩,
  ⟨("Processor", some "beat"), "beat", "Processor.beat", defArgs st_Processor_beat, defBody st_Processor_beat, defScope st_Processor_beat, [], []⟩,
  ⟨("Processor", some "where"), "where", "Processor.where", defArgs st_Processor_where, defBody st_Processor_where, defScope st_Processor_where, [], []⟩,
  ⟨("law", none), "law", "law", defArgs st_law, defBody st_law, defScope st_law, [], []⟩,
  ⟨("BadBeat", some "__init__"), "__init__", "BadBeat.__init__", defArgs st_x_BadBeat, defBody st_x_BadBeat, defScope st_x_BadBeat, [], []⟩,
  ⟨("BadPlain", some "__init__"), "__init__", "BadPlain.__init__", defArgs st_x_BadPlain, defBody st_x_BadPlain, defScope st_x_BadPlain, [], []⟩,
  ⟨("BadProgram", some "__init__"), "__init__", "BadProgram.__init__", defArgs st_x_BadProgram, defBody st_x_BadProgram, defScope st_x_BadProgram, [], []⟩]
def exl (K : PySem.W.Frag) : List Bool := [globB K "MOST_INS" (.int 4),
  globB K "MOST_OUTS" (.int 3),
  globB K "MOST_STEPS" (.int 10000),
  globB K "PATIENCE" (.int 1000),
  exBB K (He.ga K "BeatError"),
  oexB K (He.ga K "BadBeat"),
  initB K (He.ga K "BadBeat") ["number"],
  oexB K (He.ga K "BadPlain"),
  initB K (He.ga K "BadPlain") ["number"],
  oexB K (He.ga K "BadProgram"),
  initB K (He.ga K "BadProgram") ["number"],
  exAllB K (cl K) 5]
def exB (K : PySem.W.Frag) : Bool := (exl K).all id
theorem tx_of {K : PySem.W.Frag} {h : Heap} {mg : Str → Option Value} (X : K.In h) (G : h.Ns mainGlobals mg) (c : He.SaysD fa fn K) (e : exB K = true) : Tx K mg := by
  have exs : ∀ (i : Nat) {b : Bool}, (exl K)[i]? = some b → b = true := fun i b hb => List.all_eq_true.mp e b (List.mem_of_getElem? hb)
  refine {
    g__law_start := He.glo_ok X G (c.fact 0 rfl)
    g_is_word := He.glo_ok X G (c.fact 1 rfl)
    g_is_step := He.glo_ok X G (c.fact 2 rfl)
    g_need_program := He.glo_ok X G (c.fact 3 rfl)
    g__law_refused := He.glo_ok X G (c.fact 4 rfl)
    g__law_drawn := He.glo_ok X G (c.fact 5 rfl)
    g_need_beats := He.glo_ok X G (c.fact 6 rfl)
    g_law := He.glo_ok X G (c.fact 7 rfl)
    g_BeatError := He.glo_ok X G (c.fact 8 rfl)
    g_BadBeat := He.glo_ok X G (c.fact 9 rfl)
    g_BadPlain := He.glo_ok X G (c.fact 10 rfl)
    g_BadProgram := He.glo_ok X G (c.fact 11 rfl)
    g_Stuck := He.glo_ok X G (c.fact 12 rfl)
    g_Processor := He.glo_ok X G (c.fact 13 rfl)
    z_isinstance := He.free_ok X G (c.fact 14 rfl)
    z_len := He.free_ok X G (c.fact 15 rfl)
    z_enumerate := He.free_ok X G (c.fact 16 rfl)
    z_tuple := He.free_ok X G (c.fact 17 rfl)
    z_range := He.free_ok X G (c.fact 18 rfl)
    k_MOST_INS := globB_ok X G (exs 0 rfl)
    k_MOST_OUTS := globB_ok X G (exs 1 rfl)
    k_MOST_STEPS := globB_ok X G (exs 2 rfl)
    k_PATIENCE := globB_ok X G (exs 3 rfl)
    xb := exBB_ok (exs 4 rfl)
    xo_BadBeat := oexB_ok (exs 5 rfl)
    xi_BadBeat := initB_ok (exs 6 rfl)
    xo_BadPlain := oexB_ok (exs 7 rfl)
    xi_BadPlain := initB_ok (exs 8 rfl)
    xo_BadProgram := oexB_ok (exs 9 rfl)
    xi_BadProgram := initB_ok (exs 10 rfl)
    xt_Stuck := exT_ok (c.fact 19 rfl)
    c_Processor := He.cls_ok (c.fact 20 rfl)
    mk_Processor := He.mkr_ok (c.fact 21 rfl)
    m_Processor_beat := He.meth_ok (c.fact 22 rfl)
    m_Processor_stopped := He.meth_ok (c.fact 23 rfl)
    m_Processor_behind := He.meth_ok (c.fact 24 rfl)
    m_Processor_where := He.meth_ok (c.fact 25 rfl)
    ea := exAllB_ok (exs 11 rfl)
    fl_ins := ?_
    fl_program := ?_
    fl_place := ?_
    f__law_start := c.def_ 0 rfl
    f_is_word := c.def_ 1 rfl
    f_is_step := c.def_ 2 rfl
    f_need_program := c.def_ 3 rfl
    f_Processor_init := c.def_ 4 rfl
    f__law_refused := c.def_ 5 rfl
    f__law_drawn := c.def_ 6 rfl
    f_need_beats := c.def_ 7 rfl
    f_Processor_behind := c.def_ 8 rfl
    f_Processor_stopped := c.def_ 9 rfl
    f_Processor_beat := c.def_ 10 rfl
    f_Processor_where := c.def_ 11 rfl
    f_law := c.def_ 12 rfl
    f_x_BadBeat := c.def_ 13 rfl
    f_x_BadPlain := c.def_ 14 rfl
    f_x_BadProgram := c.def_ 15 rfl }
  · exact fun z hz => by
      have hz2 : z = 5 := by simpa [cs_ins] using hz
      rcases hz2 with rfl
      · exact ⟨He.cls_ok (c.fact 20 rfl), He.noat_ok (c.fact 26 rfl)⟩
  · exact fun z hz => by
      have hz2 : z = 5 := by simpa [cs_program] using hz
      rcases hz2 with rfl
      · exact ⟨He.cls_ok (c.fact 20 rfl), He.noat_ok (c.fact 27 rfl)⟩
  · exact fun z hz => by
      have hz2 : z = 5 := by simpa [cs_place] using hz
      rcases hz2 with rfl
      · exact ⟨He.cls_ok (c.fact 20 rfl), He.noat_ok (c.fact 28 rfl)⟩
abbrev R : PySem.W.OpenRow := PySem.W.OpenLaw.row PySem.Challenge.rw_tablebeat_k45_programs_that_do_not_begin
abbrev hk : PySem.W.Hook := hookE 5 fa fn exB
def ob (s : PySem.W.SharedT) : He.AlD × Bool := obE 5 fa fn exB (HandSHeadRun.getT s)
theorem ob_eq (s : PySem.W.SharedT) : ob s = hk.obs s.abs := obE_eq (HandSHeadRun.getT_eq s)
def loose0 : List Str := ["__name__", "BeatError", "BadBeat", "BadPlain", "BadProgram", "Stuck", "MOST_INS", "MOST_OUTS", "is_word", "need_beats", "MOST_STEPS", "PATIENCE", "is_step", "need_program", "Processor", "_law_start", "_law_drawn", "_law_refused"]
def loose : List Str := loose0
end Lw

namespace Lw
open PySem PySem.Spec PyProof.Rows L2 DL
/-- the state of the draws -/
def stO (ns : List Int) (i mx lf : Int) : DO := .lst [.frl (ns.map .int), .int i, .int mx, .int lf]
def Dr (ns : List Int) (l : Nat) (S : Sto) : Prop := ∃ i mx lf, S[l]? = some (stO ns i mx lf) ∧ 0 ≤ i
theorem pow18 {S : Sto} {Q : D → Sto → Prop} {X : Exc → Sto → Prop} : Wp (powD (.int 10) (.int 18) S) Q X = Q (.int 1000000000000000000) S := by
  have e : powD (.int 10) (.int 18) S = .ok (.int 1000000000000000000) S := by
    simp only [powD]
    rw [if_pos (by decide)]
    rfl
  rw [e]; rfl
theorem drawn_ok {ns : List Int} {l : Nat} {S : Sto} {i mx lf many : Int} (hS : S[l]? = some (stO ns i mx lf)) (hi : 0 ≤ i) (hm : 0 < many) (hl : many.natAbs.log2 < 9000) :
    Wp (F__law_drawn [.ref l, .int many] S) (fun d S' => ∃ v i' mx' lf', d = .int v ∧ 0 ≤ v ∧ v < many ∧ 0 ≤ i' ∧ S' = S.set l (stO ns i' mx' lf')) (fun _ _ => False) := by
  have hlt : l < S.length := (List.getElem?_eq_some_iff.mp hS).1
  have x1 : ixN 4 1 = some 1 := rfl
  have x2 : ixN 4 2 = some 2 := rfl
  have x3 : ixN 4 3 = some 3 := rfl
  unfold F__law_drawn b__law_drawn
  simp only [w_dVar, w_dC, w_dNil, w_dCons, w_dTup, w_dLst, w_d2, w_d2T, w_d3, w_d3T, w_tstB, w_tAndD, w_tOrD, w_tNotD, w_dAnd, w_dOr, w_dNot, w_dIf, w_dNeg, w_sNext, w_sSeq, w_sIf, w_sRet, w_sExpr, w_sAsg, w_gVar, w_sBrk, w_gsNil, w_gsCons, w_gTupD, w_sPar, w_iVal, w_iEnumD, w_iZipD, w_iRngD1, w_iRngD2, w_tYesD, w_gSubD, w_oNone, w_oSome, w_dSlice, w_dCall, w_dFld, w_sFldD, w_gFldD, w_dCallF, w_dMeth, w_dMake, w_sRaise, w_sRaiseT, w_dExF, w_dExI, kB_ap, w_bind, w_ok, w_exc, w_stuck, w_dFn, kFn_nx, kFn_ret, w_sTry, w_sFor, w_loop_nil, w_loop_cons, w_addI, w_subI, w_ltI, w_leI, w_gtI, w_geI, w_eqI, w_neI, w_eqS, w_neS, w_lenT, w_lenF, w_ixT2, w_ixF2, atI_pos, ixN_nat, Int.reduceToNat, Int.reduceLE, Int.reduceLT, Int.reduceNeg, startD, List.map_cons, List.map_nil, List.length_cons, List.length_nil, List.replicate, List.cons_append, List.nil_append, List.getElem?_cons_zero, List.getElem?_cons_succ, List.set_cons_zero, List.set_cons_succ, Nat.reduceAdd, Nat.reduceSub, Nat.reduceEqDiff, if_true, if_false, Bool.false_eq_true, decide_true, decide_false, Int.reduceEq, Int.reduceAdd, Int.reduceSub, Int.reduceMul, Bool.not_true, Bool.not_false, c_0, c_1, c_2, c_3, c_4, c_5, c_6, c_7, c_8, c_9, c_10, c_11, c_12, sz_0, sz_1, sz_2, sz_3, sz_4, sz_5, sz_6, sz_7, sz_8, sz_9, sz_10, sz_11, sz_12, sz_13, sz_14, sz_15, sz_16, w_ixL2 hS]
  by_cases h1 : (0 : Int) < lf
  · simp only [h1, w_dVar, w_dC, w_dNil, w_dCons, w_dTup, w_dLst, w_d2, w_d2T, w_d3, w_d3T, w_tstB, w_tAndD, w_tOrD, w_tNotD, w_dAnd, w_dOr, w_dNot, w_dIf, w_dNeg, w_sNext, w_sSeq, w_sIf, w_sRet, w_sExpr, w_sAsg, w_gVar, w_sBrk, w_gsNil, w_gsCons, w_gTupD, w_sPar, w_iVal, w_iEnumD, w_iZipD, w_iRngD1, w_iRngD2, w_tYesD, w_gSubD, w_oNone, w_oSome, w_dSlice, w_dCall, w_dFld, w_sFldD, w_gFldD, w_dCallF, w_dMeth, w_dMake, w_sRaise, w_sRaiseT, w_dExF, w_dExI, kB_ap, w_bind, w_ok, w_exc, w_stuck, w_dFn, kFn_nx, kFn_ret, w_sTry, w_sFor, w_loop_nil, w_loop_cons, w_addI, w_subI, w_ltI, w_leI, w_gtI, w_geI, w_eqI, w_neI, w_eqS, w_neS, w_lenT, w_lenF, w_ixT2, w_ixF2, atI_pos, ixN_nat, Int.reduceToNat, Int.reduceLE, Int.reduceLT, Int.reduceNeg, startD, List.map_cons, List.map_nil, List.length_cons, List.length_nil, List.replicate, List.cons_append, List.nil_append, List.getElem?_cons_zero, List.getElem?_cons_succ, List.set_cons_zero, List.set_cons_succ, Nat.reduceAdd, Nat.reduceSub, Nat.reduceEqDiff, if_true, if_false, Bool.false_eq_true, decide_true, decide_false, Int.reduceEq, Int.reduceAdd, Int.reduceSub, Int.reduceMul, Bool.not_true, Bool.not_false, c_0, c_1, c_2, c_3, c_4, c_5, c_6, c_7, c_8, c_9, c_10, c_11, c_12, sz_0, sz_1, sz_2, sz_3, sz_4, sz_5, sz_6, sz_7, sz_8, sz_9, sz_10, sz_11, sz_12, sz_13, sz_14, sz_15, sz_16, w_ixL2 hS, w_modI hm, w_fdivI ⟨hm, hl⟩, w_setL2 hS, x3]
    exact ⟨_, i, mx, _, rfl, Int.emod_nonneg _ (by omega), Int.emod_lt_of_pos _ hm, hi, rfl⟩
  · have hS1 : (S.set l (stO ns (i + 1) mx lf))[l]? = some (stO ns (i + 1) mx lf) := set_same hlt
    have hS1' := hS1
    unfold stO at hS1
    simp only [h1, w_dVar, w_dC, w_dNil, w_dCons, w_dTup, w_dLst, w_d2, w_d2T, w_d3, w_d3T, w_tstB, w_tAndD, w_tOrD, w_tNotD, w_dAnd, w_dOr, w_dNot, w_dIf, w_dNeg, w_sNext, w_sSeq, w_sIf, w_sRet, w_sExpr, w_sAsg, w_gVar, w_sBrk, w_gsNil, w_gsCons, w_gTupD, w_sPar, w_iVal, w_iEnumD, w_iZipD, w_iRngD1, w_iRngD2, w_tYesD, w_gSubD, w_oNone, w_oSome, w_dSlice, w_dCall, w_dFld, w_sFldD, w_gFldD, w_dCallF, w_dMeth, w_dMake, w_sRaise, w_sRaiseT, w_dExF, w_dExI, kB_ap, w_bind, w_ok, w_exc, w_stuck, w_dFn, kFn_nx, kFn_ret, w_sTry, w_sFor, w_loop_nil, w_loop_cons, w_addI, w_subI, w_ltI, w_leI, w_gtI, w_geI, w_eqI, w_neI, w_eqS, w_neS, w_lenT, w_lenF, w_ixT2, w_ixF2, atI_pos, ixN_nat, Int.reduceToNat, Int.reduceLE, Int.reduceLT, Int.reduceNeg, startD, List.map_cons, List.map_nil, List.length_cons, List.length_nil, List.replicate, List.cons_append, List.nil_append, List.getElem?_cons_zero, List.getElem?_cons_succ, List.set_cons_zero, List.set_cons_succ, Nat.reduceAdd, Nat.reduceSub, Nat.reduceEqDiff, if_true, if_false, Bool.false_eq_true, decide_true, decide_false, Int.reduceEq, Int.reduceAdd, Int.reduceSub, Int.reduceMul, Bool.not_true, Bool.not_false, c_0, c_1, c_2, c_3, c_4, c_5, c_6, c_7, c_8, c_9, c_10, c_11, c_12, sz_0, sz_1, sz_2, sz_3, sz_4, sz_5, sz_6, sz_7, sz_8, sz_9, sz_10, sz_11, sz_12, sz_13, sz_14, sz_15, sz_16, w_ixL2 hS, w_setL2 hS, x1, w_ixL2 hS1]
    by_cases h2 : i + 1 ≤ ((ns.map D.int).length : Nat)
    · have h2' : i.toNat < ns.length := by simp at h2; omega
      have ea : atI (ns.map D.int) (i + 1 - 1) = some (.int ns[i.toNat]) := by
        rw [show i + 1 - 1 = i by omega, atI_pos hi]
        simp [h2']
      simp only [h2, w_dVar, w_dC, w_dNil, w_dCons, w_dTup, w_dLst, w_d2, w_d2T, w_d3, w_d3T, w_tstB, w_tAndD, w_tOrD, w_tNotD, w_dAnd, w_dOr, w_dNot, w_dIf, w_dNeg, w_sNext, w_sSeq, w_sIf, w_sRet, w_sExpr, w_sAsg, w_gVar, w_sBrk, w_gsNil, w_gsCons, w_gTupD, w_sPar, w_iVal, w_iEnumD, w_iZipD, w_iRngD1, w_iRngD2, w_tYesD, w_gSubD, w_oNone, w_oSome, w_dSlice, w_dCall, w_dFld, w_sFldD, w_gFldD, w_dCallF, w_dMeth, w_dMake, w_sRaise, w_sRaiseT, w_dExF, w_dExI, kB_ap, w_bind, w_ok, w_exc, w_stuck, w_dFn, kFn_nx, kFn_ret, w_sTry, w_sFor, w_loop_nil, w_loop_cons, w_addI, w_subI, w_ltI, w_leI, w_gtI, w_geI, w_eqI, w_neI, w_eqS, w_neS, w_lenT, w_lenF, w_ixT2, w_ixF2, atI_pos, ixN_nat, Int.reduceToNat, Int.reduceLE, Int.reduceLT, Int.reduceNeg, startD, List.map_cons, List.map_nil, List.length_cons, List.length_nil, List.replicate, List.cons_append, List.nil_append, List.getElem?_cons_zero, List.getElem?_cons_succ, List.set_cons_zero, List.set_cons_succ, Nat.reduceAdd, Nat.reduceSub, Nat.reduceEqDiff, if_true, if_false, Bool.false_eq_true, decide_true, decide_false, Int.reduceEq, Int.reduceAdd, Int.reduceSub, Int.reduceMul, Bool.not_true, Bool.not_false, c_0, c_1, c_2, c_3, c_4, c_5, c_6, c_7, c_8, c_9, c_10, c_11, c_12, sz_0, sz_1, sz_2, sz_3, sz_4, sz_5, sz_6, sz_7, sz_8, sz_9, sz_10, sz_11, sz_12, sz_13, sz_14, sz_15, sz_16, w_ixL2 hS1, ea, pow18]
      by_cases h3 : (1000000000000000000 : Int) ≤ ns[i.toNat]
      · simp only [h3, w_dVar, w_dC, w_dNil, w_dCons, w_dTup, w_dLst, w_d2, w_d2T, w_d3, w_d3T, w_tstB, w_tAndD, w_tOrD, w_tNotD, w_dAnd, w_dOr, w_dNot, w_dIf, w_dNeg, w_sNext, w_sSeq, w_sIf, w_sRet, w_sExpr, w_sAsg, w_gVar, w_sBrk, w_gsNil, w_gsCons, w_gTupD, w_sPar, w_iVal, w_iEnumD, w_iZipD, w_iRngD1, w_iRngD2, w_tYesD, w_gSubD, w_oNone, w_oSome, w_dSlice, w_dCall, w_dFld, w_sFldD, w_gFldD, w_dCallF, w_dMeth, w_dMake, w_sRaise, w_sRaiseT, w_dExF, w_dExI, kB_ap, w_bind, w_ok, w_exc, w_stuck, w_dFn, kFn_nx, kFn_ret, w_sTry, w_sFor, w_loop_nil, w_loop_cons, w_addI, w_subI, w_ltI, w_leI, w_gtI, w_geI, w_eqI, w_neI, w_eqS, w_neS, w_lenT, w_lenF, w_ixT2, w_ixF2, atI_pos, ixN_nat, Int.reduceToNat, Int.reduceLE, Int.reduceLT, Int.reduceNeg, startD, List.map_cons, List.map_nil, List.length_cons, List.length_nil, List.replicate, List.cons_append, List.nil_append, List.getElem?_cons_zero, List.getElem?_cons_succ, List.set_cons_zero, List.set_cons_succ, Nat.reduceAdd, Nat.reduceSub, Nat.reduceEqDiff, if_true, if_false, Bool.false_eq_true, decide_true, decide_false, Int.reduceEq, Int.reduceAdd, Int.reduceSub, Int.reduceMul, Bool.not_true, Bool.not_false, c_0, c_1, c_2, c_3, c_4, c_5, c_6, c_7, c_8, c_9, c_10, c_11, c_12, sz_0, sz_1, sz_2, sz_3, sz_4, sz_5, sz_6, sz_7, sz_8, sz_9, sz_10, sz_11, sz_12, sz_13, sz_14, sz_15, sz_16, w_fdivI ⟨hm, hl⟩, w_setL2 hS1, x3, w_modI hm, List.set_set]
        exact ⟨_, i + 1, mx, _, rfl, Int.emod_nonneg _ (by omega), Int.emod_lt_of_pos _ hm, by omega, rfl⟩
      · simp only [h3, w_dVar, w_dC, w_dNil, w_dCons, w_dTup, w_dLst, w_d2, w_d2T, w_d3, w_d3T, w_tstB, w_tAndD, w_tOrD, w_tNotD, w_dAnd, w_dOr, w_dNot, w_dIf, w_dNeg, w_sNext, w_sSeq, w_sIf, w_sRet, w_sExpr, w_sAsg, w_gVar, w_sBrk, w_gsNil, w_gsCons, w_gTupD, w_sPar, w_iVal, w_iEnumD, w_iZipD, w_iRngD1, w_iRngD2, w_tYesD, w_gSubD, w_oNone, w_oSome, w_dSlice, w_dCall, w_dFld, w_sFldD, w_gFldD, w_dCallF, w_dMeth, w_dMake, w_sRaise, w_sRaiseT, w_dExF, w_dExI, kB_ap, w_bind, w_ok, w_exc, w_stuck, w_dFn, kFn_nx, kFn_ret, w_sTry, w_sFor, w_loop_nil, w_loop_cons, w_addI, w_subI, w_ltI, w_leI, w_gtI, w_geI, w_eqI, w_neI, w_eqS, w_neS, w_lenT, w_lenF, w_ixT2, w_ixF2, atI_pos, ixN_nat, Int.reduceToNat, Int.reduceLE, Int.reduceLT, Int.reduceNeg, startD, List.map_cons, List.map_nil, List.length_cons, List.length_nil, List.replicate, List.cons_append, List.nil_append, List.getElem?_cons_zero, List.getElem?_cons_succ, List.set_cons_zero, List.set_cons_succ, Nat.reduceAdd, Nat.reduceSub, Nat.reduceEqDiff, if_true, if_false, Bool.false_eq_true, decide_true, decide_false, Int.reduceEq, Int.reduceAdd, Int.reduceSub, Int.reduceMul, Bool.not_true, Bool.not_false, c_0, c_1, c_2, c_3, c_4, c_5, c_6, c_7, c_8, c_9, c_10, c_11, c_12, sz_0, sz_1, sz_2, sz_3, sz_4, sz_5, sz_6, sz_7, sz_8, sz_9, sz_10, sz_11, sz_12, sz_13, sz_14, sz_15, sz_16, w_setL2 hS1, x3, w_modI hm, List.set_set]
        exact ⟨_, i + 1, mx, _, rfl, Int.emod_nonneg _ (by omega), Int.emod_lt_of_pos _ hm, by omega, rfl⟩
    · have hS2 : ∀ m, (S.set l (stO ns (i + 1) m lf))[l]? = some (stO ns (i + 1) m lf) := fun m => set_same hlt
      unfold stO at hS2
      simp only [h2, w_dVar, w_dC, w_dNil, w_dCons, w_dTup, w_dLst, w_d2, w_d2T, w_d3, w_d3T, w_tstB, w_tAndD, w_tOrD, w_tNotD, w_dAnd, w_dOr, w_dNot, w_dIf, w_dNeg, w_sNext, w_sSeq, w_sIf, w_sRet, w_sExpr, w_sAsg, w_gVar, w_sBrk, w_gsNil, w_gsCons, w_gTupD, w_sPar, w_iVal, w_iEnumD, w_iZipD, w_iRngD1, w_iRngD2, w_tYesD, w_gSubD, w_oNone, w_oSome, w_dSlice, w_dCall, w_dFld, w_sFldD, w_gFldD, w_dCallF, w_dMeth, w_dMake, w_sRaise, w_sRaiseT, w_dExF, w_dExI, kB_ap, w_bind, w_ok, w_exc, w_stuck, w_dFn, kFn_nx, kFn_ret, w_sTry, w_sFor, w_loop_nil, w_loop_cons, w_addI, w_subI, w_ltI, w_leI, w_gtI, w_geI, w_eqI, w_neI, w_eqS, w_neS, w_lenT, w_lenF, w_ixT2, w_ixF2, atI_pos, ixN_nat, Int.reduceToNat, Int.reduceLE, Int.reduceLT, Int.reduceNeg, startD, List.map_cons, List.map_nil, List.length_cons, List.length_nil, List.replicate, List.cons_append, List.nil_append, List.getElem?_cons_zero, List.getElem?_cons_succ, List.set_cons_zero, List.set_cons_succ, Nat.reduceAdd, Nat.reduceSub, Nat.reduceEqDiff, if_true, if_false, Bool.false_eq_true, decide_true, decide_false, Int.reduceEq, Int.reduceAdd, Int.reduceSub, Int.reduceMul, Bool.not_true, Bool.not_false, c_0, c_1, c_2, c_3, c_4, c_5, c_6, c_7, c_8, c_9, c_10, c_11, c_12, sz_0, sz_1, sz_2, sz_3, sz_4, sz_5, sz_6, sz_7, sz_8, sz_9, sz_10, sz_11, sz_12, sz_13, sz_14, sz_15, sz_16, w_ixL2 hS1, w_mulI (a := mx) (b := 48271) (Or.inr (by decide)), w_modI (show (0 : Int) < 2147483647 by decide), w_setL2 hS1, x2, List.set_set, w_ixL2 (hS2 _), w_fdivI (show (0 : Int) < 7 ∧ (7 : Int).natAbs.log2 < 9000 by decide), w_modI hm]
      exact ⟨_, i + 1, _, lf, rfl, Int.emod_nonneg _ (by omega), Int.emod_lt_of_pos _ hm, by omega, rfl⟩
theorem start_ok {ns : List Int} {S : Sto} : Wp (F__law_start [.frl (ns.map .int)] S) (fun d S' => ∃ mx, d = .ref S.length ∧ S' = S ++ [stO ns 0 mx 0]) (fun _ _ => False) := by
  unfold F__law_start b__law_start
  simp only [w_dVar, w_dC, w_dNil, w_dCons, w_dTup, w_dLst, w_d2, w_d2T, w_d3, w_d3T, w_tstB, w_tAndD, w_tOrD, w_tNotD, w_dAnd, w_dOr, w_dNot, w_dIf, w_dNeg, w_sNext, w_sSeq, w_sIf, w_sRet, w_sExpr, w_sAsg, w_gVar, w_sBrk, w_gsNil, w_gsCons, w_gTupD, w_sPar, w_iVal, w_iEnumD, w_iZipD, w_iRngD1, w_iRngD2, w_tYesD, w_gSubD, w_oNone, w_oSome, w_dSlice, w_dCall, w_dFld, w_sFldD, w_gFldD, w_dCallF, w_dMeth, w_dMake, w_sRaise, w_sRaiseT, w_dExF, w_dExI, kB_ap, w_bind, w_ok, w_exc, w_stuck, w_dFn, kFn_nx, kFn_ret, w_sTry, w_sFor, w_loop_nil, w_loop_cons, w_addI, w_subI, w_ltI, w_leI, w_gtI, w_geI, w_eqI, w_neI, w_eqS, w_neS, w_lenT, w_lenF, w_ixT2, w_ixF2, atI_pos, ixN_nat, Int.reduceToNat, Int.reduceLE, Int.reduceLT, Int.reduceNeg, startD, List.map_cons, List.map_nil, List.length_cons, List.length_nil, List.replicate, List.cons_append, List.nil_append, List.getElem?_cons_zero, List.getElem?_cons_succ, List.set_cons_zero, List.set_cons_succ, Nat.reduceAdd, Nat.reduceSub, Nat.reduceEqDiff, if_true, if_false, Bool.false_eq_true, decide_true, decide_false, Int.reduceEq, Int.reduceAdd, Int.reduceSub, Int.reduceMul, Bool.not_true, Bool.not_false, c_0, c_1, c_2, c_3, c_4, c_5, c_6, c_7, c_8, c_9, c_10, c_11, c_12, sz_0, sz_1, sz_2, sz_3, sz_4, sz_5, sz_6, sz_7, sz_8, sz_9, sz_10, sz_11, sz_12, sz_13, sz_14, sz_15, sz_16, itemsD]
  refine w_loop (fun xs sd S' => S' = S ∧ (∃ ms : List Int, xs = ms.map D.int) ∧ ∃ a v, sd = [some (.frl (ns.map .int)), some (.int v), a]) (fun _ _ _ _ => rfl) ?_ ?_ _ _ _ ⟨rfl, ⟨ns, rfl⟩, none, 1, rfl⟩
  · rintro sd S' ⟨rfl, _, a, v, rfl⟩
    simp only [w_dVar, w_dC, w_dNil, w_dCons, w_dTup, w_dLst, w_d2, w_d2T, w_d3, w_d3T, w_tstB, w_tAndD, w_tOrD, w_tNotD, w_dAnd, w_dOr, w_dNot, w_dIf, w_dNeg, w_sNext, w_sSeq, w_sIf, w_sRet, w_sExpr, w_sAsg, w_gVar, w_sBrk, w_gsNil, w_gsCons, w_gTupD, w_sPar, w_iVal, w_iEnumD, w_iZipD, w_iRngD1, w_iRngD2, w_tYesD, w_gSubD, w_oNone, w_oSome, w_dSlice, w_dCall, w_dFld, w_sFldD, w_gFldD, w_dCallF, w_dMeth, w_dMake, w_sRaise, w_sRaiseT, w_dExF, w_dExI, kB_ap, w_bind, w_ok, w_exc, w_stuck, w_dFn, kFn_nx, kFn_ret, w_sTry, w_sFor, w_loop_nil, w_loop_cons, w_addI, w_subI, w_ltI, w_leI, w_gtI, w_geI, w_eqI, w_neI, w_eqS, w_neS, w_lenT, w_lenF, w_ixT2, w_ixF2, atI_pos, ixN_nat, Int.reduceToNat, Int.reduceLE, Int.reduceLT, Int.reduceNeg, startD, List.map_cons, List.map_nil, List.length_cons, List.length_nil, List.replicate, List.cons_append, List.nil_append, List.getElem?_cons_zero, List.getElem?_cons_succ, List.set_cons_zero, List.set_cons_succ, Nat.reduceAdd, Nat.reduceSub, Nat.reduceEqDiff, if_true, if_false, Bool.false_eq_true, decide_true, decide_false, Int.reduceEq, Int.reduceAdd, Int.reduceSub, Int.reduceMul, Bool.not_true, Bool.not_false, c_0, c_1, c_2, c_3, c_4, c_5, c_6, c_7, c_8, c_9, c_10, c_11, c_12, sz_0, sz_1, sz_2, sz_3, sz_4, sz_5, sz_6, sz_7, sz_8, sz_9, sz_10, sz_11, sz_12, sz_13, sz_14, sz_15, sz_16]
    exact ⟨v, trivial, rfl⟩
  · rintro x xs sd S' ⟨rfl, ⟨ms, hm⟩, a, v, rfl⟩
    cases ms with
    | nil => cases hm
    | cons c ms =>
      cases hm
      simp only [w_dVar, w_dC, w_dNil, w_dCons, w_dTup, w_dLst, w_d2, w_d2T, w_d3, w_d3T, w_tstB, w_tAndD, w_tOrD, w_tNotD, w_dAnd, w_dOr, w_dNot, w_dIf, w_dNeg, w_sNext, w_sSeq, w_sIf, w_sRet, w_sExpr, w_sAsg, w_gVar, w_sBrk, w_gsNil, w_gsCons, w_gTupD, w_sPar, w_iVal, w_iEnumD, w_iZipD, w_iRngD1, w_iRngD2, w_tYesD, w_gSubD, w_oNone, w_oSome, w_dSlice, w_dCall, w_dFld, w_sFldD, w_gFldD, w_dCallF, w_dMeth, w_dMake, w_sRaise, w_sRaiseT, w_dExF, w_dExI, kB_ap, w_bind, w_ok, w_exc, w_stuck, w_dFn, kFn_nx, kFn_ret, w_sTry, w_sFor, w_loop_nil, w_loop_cons, w_addI, w_subI, w_ltI, w_leI, w_gtI, w_geI, w_eqI, w_neI, w_eqS, w_neS, w_lenT, w_lenF, w_ixT2, w_ixF2, atI_pos, ixN_nat, Int.reduceToNat, Int.reduceLE, Int.reduceLT, Int.reduceNeg, startD, List.map_cons, List.map_nil, List.length_cons, List.length_nil, List.replicate, List.cons_append, List.nil_append, List.getElem?_cons_zero, List.getElem?_cons_succ, List.set_cons_zero, List.set_cons_succ, Nat.reduceAdd, Nat.reduceSub, Nat.reduceEqDiff, if_true, if_false, Bool.false_eq_true, decide_true, decide_false, Int.reduceEq, Int.reduceAdd, Int.reduceSub, Int.reduceMul, Bool.not_true, Bool.not_false, c_0, c_1, c_2, c_3, c_4, c_5, c_6, c_7, c_8, c_9, c_10, c_11, c_12, sz_0, sz_1, sz_2, sz_3, sz_4, sz_5, sz_6, sz_7, sz_8, sz_9, sz_10, sz_11, sz_12, sz_13, sz_14, sz_15, sz_16, w_mulI (a := v) (b := 48271) (Or.inr (by decide)), w_modI (show (0 : Int) < 2147483647 by decide)]
      exact ⟨trivial, ⟨ms, rfl⟩, _, _, rfl⟩
/-- a word of signs 0 and 1 -/
def W01 (w : Str) : Prop := w.length ≤ sizeLine ∧ ∀ c ∈ w.cps.toList, c = 48 ∨ c = 49
theorem s01 : (Str.ofString "01").cps.toList = [48, 49] := by decide +kernel
theorem same_nil {S : Sto} {a b : Nat} (ha : S[a]? = some (.lst [])) (hb : S[b]? = some (.lst [])) : sameD (.ref a) (.ref b) S = some true := by
  have e1 : toP S 60 (.ref a) = some (.list []) := by simp [toP, ha, mapO]
  have e2 : toP S 60 (.ref b) = some (.list []) := by simp [toP, hb, mapO]
  simp only [sameD, e1, e2]
  rfl
theorem is_word_ok {w : Str} {m : Int} {S : Sto} (hw : W01 w) : F_is_word [.str w, .int m, .str "01"] S = if ((w.length : Nat) : Int) = m then .ok (.bl true) (S ++ [.lst []] ++ [.lst []]) else .ok (.bl false) S := by
  obtain ⟨hl, hc⟩ := hw
  by_cases h : ((w.length : Nat) : Int) = m
  · rw [if_pos h]
    apply eq_of_wp
    unfold F_is_word b_is_word
    simp only [w_dVar, w_dC, w_dNil, w_dCons, w_dTup, w_dLst, w_d2, w_d2T, w_d3, w_d3T, w_tstB, w_tAndD, w_tOrD, w_tNotD, w_dAnd, w_dOr, w_dNot, w_dIf, w_dNeg, w_sNext, w_sSeq, w_sIf, w_sRet, w_sExpr, w_sAsg, w_gVar, w_sBrk, w_gsNil, w_gsCons, w_gTupD, w_sPar, w_iVal, w_iEnumD, w_iZipD, w_iRngD1, w_iRngD2, w_tYesD, w_gSubD, w_oNone, w_oSome, w_dSlice, w_dCall, w_dFld, w_sFldD, w_gFldD, w_dCallF, w_dMeth, w_dMake, w_sRaise, w_sRaiseT, w_dExF, w_dExI, kB_ap, w_bind, w_ok, w_exc, w_stuck, w_dFn, kFn_nx, kFn_ret, w_sTry, w_sFor, w_loop_nil, w_loop_cons, w_addI, w_subI, w_ltI, w_leI, w_gtI, w_geI, w_eqI, w_neI, w_eqS, w_neS, w_lenT, w_lenF, w_ixT2, w_ixF2, atI_pos, ixN_nat, Int.reduceToNat, Int.reduceLE, Int.reduceLT, Int.reduceNeg, startD, List.map_cons, List.map_nil, List.length_cons, List.length_nil, List.replicate, List.cons_append, List.nil_append, List.getElem?_cons_zero, List.getElem?_cons_succ, List.set_cons_zero, List.set_cons_succ, Nat.reduceAdd, Nat.reduceSub, Nat.reduceEqDiff, if_true, if_false, Bool.false_eq_true, decide_true, decide_false, Int.reduceEq, Int.reduceAdd, Int.reduceSub, Int.reduceMul, Bool.not_true, Bool.not_false, c_0, c_1, c_2, c_3, c_4, c_5, c_6, c_7, c_8, c_9, c_10, c_11, c_12, sz_0, sz_1, sz_2, sz_3, sz_4, sz_5, sz_6, sz_7, sz_8, sz_9, sz_10, sz_11, sz_12, sz_13, sz_14, sz_15, sz_16, w_lenS hl, h]
    have e := comp_ok (vs := [3]) (fi := iVal (dVar 0)) (ga := gVar 3) (ft := d2T notInD (dVar 3) (dVar 2)) (fe := dVar 3) (sd := [some (.str w), some (.int m), some (.str "01"), none]) (S := S) (S1 := S) (it := ⟨signsD w, yes⟩) (fun _ => false) (fun x => x) rfl (fun _ => rfl)
        (by simpa [signsD, Str.length] using hl) (fun x hx ys => by
          obtain ⟨c, hcm, rfl⟩ := List.mem_map.mp hx
          refine ⟨[some (.str w), some (.int m), some (.str "01"), some (.str ⟨#[c]⟩)], rfl, ?_, fun z => Bool.noConfusion z⟩
          have hm : c ∈ (Str.ofString "01").cps.toList := by rw [s01]; rcases hc c hcm with rfl | rfl <;> simp
          simp [d2T, d2, dVar, Res.bind, notInD, hasD, hm])
    have e2 : (signsD w).filter (fun _ => false) = [] := by simp
    rw [wp_eq e]
    simp only [w_dVar, w_dC, w_dNil, w_dCons, w_dTup, w_dLst, w_d2, w_d2T, w_d3, w_d3T, w_tstB, w_tAndD, w_tOrD, w_tNotD, w_dAnd, w_dOr, w_dNot, w_dIf, w_dNeg, w_sNext, w_sSeq, w_sIf, w_sRet, w_sExpr, w_sAsg, w_gVar, w_sBrk, w_gsNil, w_gsCons, w_gTupD, w_sPar, w_iVal, w_iEnumD, w_iZipD, w_iRngD1, w_iRngD2, w_tYesD, w_gSubD, w_oNone, w_oSome, w_dSlice, w_dCall, w_dFld, w_sFldD, w_gFldD, w_dCallF, w_dMeth, w_dMake, w_sRaise, w_sRaiseT, w_dExF, w_dExI, kB_ap, w_bind, w_ok, w_exc, w_stuck, w_dFn, kFn_nx, kFn_ret, w_sTry, w_sFor, w_loop_nil, w_loop_cons, w_addI, w_subI, w_ltI, w_leI, w_gtI, w_geI, w_eqI, w_neI, w_eqS, w_neS, w_lenT, w_lenF, w_ixT2, w_ixF2, atI_pos, ixN_nat, Int.reduceToNat, Int.reduceLE, Int.reduceLT, Int.reduceNeg, startD, List.map_cons, List.map_nil, List.length_cons, List.length_nil, List.replicate, List.cons_append, List.nil_append, List.getElem?_cons_zero, List.getElem?_cons_succ, List.set_cons_zero, List.set_cons_succ, Nat.reduceAdd, Nat.reduceSub, Nat.reduceEqDiff, if_true, if_false, Bool.false_eq_true, decide_true, decide_false, Int.reduceEq, Int.reduceAdd, Int.reduceSub, Int.reduceMul, Bool.not_true, Bool.not_false, c_0, c_1, c_2, c_3, c_4, c_5, c_6, c_7, c_8, c_9, c_10, c_11, c_12, sz_0, sz_1, sz_2, sz_3, sz_4, sz_5, sz_6, sz_7, sz_8, sz_9, sz_10, sz_11, sz_12, sz_13, sz_14, sz_15, sz_16, e2]
    try rw [w_ite (by decide)]
    simp only [w_dVar, w_dC, w_dNil, w_dCons, w_dTup, w_dLst, w_d2, w_d2T, w_d3, w_d3T, w_tstB, w_tAndD, w_tOrD, w_tNotD, w_dAnd, w_dOr, w_dNot, w_dIf, w_dNeg, w_sNext, w_sSeq, w_sIf, w_sRet, w_sExpr, w_sAsg, w_gVar, w_sBrk, w_gsNil, w_gsCons, w_gTupD, w_sPar, w_iVal, w_iEnumD, w_iZipD, w_iRngD1, w_iRngD2, w_tYesD, w_gSubD, w_oNone, w_oSome, w_dSlice, w_dCall, w_dFld, w_sFldD, w_gFldD, w_dCallF, w_dMeth, w_dMake, w_sRaise, w_sRaiseT, w_dExF, w_dExI, kB_ap, w_bind, w_ok, w_exc, w_stuck, w_dFn, kFn_nx, kFn_ret, w_sTry, w_sFor, w_loop_nil, w_loop_cons, w_addI, w_subI, w_ltI, w_leI, w_gtI, w_geI, w_eqI, w_neI, w_eqS, w_neS, w_lenT, w_lenF, w_ixT2, w_ixF2, atI_pos, ixN_nat, Int.reduceToNat, Int.reduceLE, Int.reduceLT, Int.reduceNeg, startD, List.map_cons, List.map_nil, List.length_cons, List.length_nil, List.replicate, List.cons_append, List.nil_append, List.getElem?_cons_zero, List.getElem?_cons_succ, List.set_cons_zero, List.set_cons_succ, Nat.reduceAdd, Nat.reduceSub, Nat.reduceEqDiff, if_true, if_false, Bool.false_eq_true, decide_true, decide_false, Int.reduceEq, Int.reduceAdd, Int.reduceSub, Int.reduceMul, Bool.not_true, Bool.not_false, c_0, c_1, c_2, c_3, c_4, c_5, c_6, c_7, c_8, c_9, c_10, c_11, c_12, sz_0, sz_1, sz_2, sz_3, sz_4, sz_5, sz_6, sz_7, sz_8, sz_9, sz_10, sz_11, sz_12, sz_13, sz_14, sz_15, sz_16, eqD, same_nil (S := S ++ [.lst []] ++ [.lst []]) (a := S.length) (b := (S ++ [DO.lst []]).length) (by simp) get_last]
    trivial
  · rw [if_neg h]
    apply eq_of_wp
    unfold F_is_word b_is_word
    simp only [w_dVar, w_dC, w_dNil, w_dCons, w_dTup, w_dLst, w_d2, w_d2T, w_d3, w_d3T, w_tstB, w_tAndD, w_tOrD, w_tNotD, w_dAnd, w_dOr, w_dNot, w_dIf, w_dNeg, w_sNext, w_sSeq, w_sIf, w_sRet, w_sExpr, w_sAsg, w_gVar, w_sBrk, w_gsNil, w_gsCons, w_gTupD, w_sPar, w_iVal, w_iEnumD, w_iZipD, w_iRngD1, w_iRngD2, w_tYesD, w_gSubD, w_oNone, w_oSome, w_dSlice, w_dCall, w_dFld, w_sFldD, w_gFldD, w_dCallF, w_dMeth, w_dMake, w_sRaise, w_sRaiseT, w_dExF, w_dExI, kB_ap, w_bind, w_ok, w_exc, w_stuck, w_dFn, kFn_nx, kFn_ret, w_sTry, w_sFor, w_loop_nil, w_loop_cons, w_addI, w_subI, w_ltI, w_leI, w_gtI, w_geI, w_eqI, w_neI, w_eqS, w_neS, w_lenT, w_lenF, w_ixT2, w_ixF2, atI_pos, ixN_nat, Int.reduceToNat, Int.reduceLE, Int.reduceLT, Int.reduceNeg, startD, List.map_cons, List.map_nil, List.length_cons, List.length_nil, List.replicate, List.cons_append, List.nil_append, List.getElem?_cons_zero, List.getElem?_cons_succ, List.set_cons_zero, List.set_cons_succ, Nat.reduceAdd, Nat.reduceSub, Nat.reduceEqDiff, if_true, if_false, Bool.false_eq_true, decide_true, decide_false, Int.reduceEq, Int.reduceAdd, Int.reduceSub, Int.reduceMul, Bool.not_true, Bool.not_false, c_0, c_1, c_2, c_3, c_4, c_5, c_6, c_7, c_8, c_9, c_10, c_11, c_12, sz_0, sz_1, sz_2, sz_3, sz_4, sz_5, sz_6, sz_7, sz_8, sz_9, sz_10, sz_11, sz_12, sz_13, sz_14, sz_15, sz_16, w_lenS hl, h]
    trivial
theorem nf_ins_program : (Str.ofString "ins" = Str.ofString "program") = False := eq_false (by decide +kernel)
theorem nf_ins_place : (Str.ofString "ins" = Str.ofString "place") = False := eq_false (by decide +kernel)
theorem nf_ins_number : (Str.ofString "ins" = Str.ofString "number") = False := eq_false (by decide +kernel)
theorem nf_program_ins : (Str.ofString "program" = Str.ofString "ins") = False := eq_false (by decide +kernel)
theorem nf_program_place : (Str.ofString "program" = Str.ofString "place") = False := eq_false (by decide +kernel)
theorem nf_program_number : (Str.ofString "program" = Str.ofString "number") = False := eq_false (by decide +kernel)
theorem nf_place_ins : (Str.ofString "place" = Str.ofString "ins") = False := eq_false (by decide +kernel)
theorem nf_place_program : (Str.ofString "place" = Str.ofString "program") = False := eq_false (by decide +kernel)
theorem nf_place_number : (Str.ofString "place" = Str.ofString "number") = False := eq_false (by decide +kernel)
theorem nf_number_ins : (Str.ofString "number" = Str.ofString "ins") = False := eq_false (by decide +kernel)
theorem nf_number_program : (Str.ofString "number" = Str.ofString "program") = False := eq_false (by decide +kernel)
theorem nf_number_place : (Str.ofString "number" = Str.ofString "place") = False := eq_false (by decide +kernel)
theorem ne_wait_say : (Str.ofString "wait" = Str.ofString "say") = False := eq_false (by decide +kernel)
theorem ne_wait_go : (Str.ofString "wait" = Str.ofString "go") = False := eq_false (by decide +kernel)
theorem ne_wait_ask : (Str.ofString "wait" = Str.ofString "ask") = False := eq_false (by decide +kernel)
theorem ne_say_wait : (Str.ofString "say" = Str.ofString "wait") = False := eq_false (by decide +kernel)
theorem ne_say_go : (Str.ofString "say" = Str.ofString "go") = False := eq_false (by decide +kernel)
theorem ne_say_ask : (Str.ofString "say" = Str.ofString "ask") = False := eq_false (by decide +kernel)
theorem ne_go_wait : (Str.ofString "go" = Str.ofString "wait") = False := eq_false (by decide +kernel)
theorem ne_go_say : (Str.ofString "go" = Str.ofString "say") = False := eq_false (by decide +kernel)
theorem ne_go_ask : (Str.ofString "go" = Str.ofString "ask") = False := eq_false (by decide +kernel)
theorem ne_ask_wait : (Str.ofString "ask" = Str.ofString "wait") = False := eq_false (by decide +kernel)
theorem ne_ask_say : (Str.ofString "ask" = Str.ofString "say") = False := eq_false (by decide +kernel)
theorem ne_ask_go : (Str.ofString "ask" = Str.ofString "go") = False := eq_false (by decide +kernel)
abbrev wt : D := .tup [.str "wait"]
def StepOk (ins outs many : Int) (d : D) : Prop := d = wt ∨ (∃ w, d = .tup [.str "say", .str w] ∧ W01 w ∧ ((w.length : Nat) : Int) = outs) ∨ (∃ j, d = .tup [.str "go", .int j] ∧ 0 ≤ j ∧ j < many)
theorem same_wt {S : Sto} : sameD wt wt S = some true := by
  have e : toP S 60 wt = some (.tuple [.str "wait"]) := rfl
  simp only [sameD, e]
  decide +kernel
theorem is_step_ok {ins outs many : Int} {d : D} {S : Sto} (h : StepOk ins outs many d) : Wp (F_is_step [.int ins, .int outs, .int many, d] S) (fun r S' => r = .bl true ∧ Grow S S') (fun _ _ => False) := by
  unfold F_is_step b_is_step
  rcases h with rfl | ⟨w, rfl, hw, hl⟩ | ⟨j, rfl, h0, h1⟩
  · simp only [w_dVar, w_dC, w_dNil, w_dCons, w_dTup, w_dLst, w_d2, w_d2T, w_d3, w_d3T, w_tstB, w_tAndD, w_tOrD, w_tNotD, w_dAnd, w_dOr, w_dNot, w_dIf, w_dNeg, w_sNext, w_sSeq, w_sIf, w_sRet, w_sExpr, w_sAsg, w_gVar, w_sBrk, w_gsNil, w_gsCons, w_gTupD, w_sPar, w_iVal, w_iEnumD, w_iZipD, w_iRngD1, w_iRngD2, w_tYesD, w_gSubD, w_oNone, w_oSome, w_dSlice, w_dCall, w_dFld, w_sFldD, w_gFldD, w_dCallF, w_dMeth, w_dMake, w_sRaise, w_sRaiseT, w_dExF, w_dExI, kB_ap, w_bind, w_ok, w_exc, w_stuck, w_dFn, kFn_nx, kFn_ret, w_sTry, w_sFor, w_loop_nil, w_loop_cons, w_addI, w_subI, w_ltI, w_leI, w_gtI, w_geI, w_eqI, w_neI, w_eqS, w_neS, w_lenT, w_lenF, w_ixT2, w_ixF2, atI_pos, ixN_nat, Int.reduceToNat, Int.reduceLE, Int.reduceLT, Int.reduceNeg, startD, List.map_cons, List.map_nil, List.length_cons, List.length_nil, List.replicate, List.cons_append, List.nil_append, List.getElem?_cons_zero, List.getElem?_cons_succ, List.set_cons_zero, List.set_cons_succ, Nat.reduceAdd, Nat.reduceSub, Nat.reduceEqDiff, if_true, if_false, Bool.false_eq_true, decide_true, decide_false, Int.reduceEq, Int.reduceAdd, Int.reduceSub, Int.reduceMul, Bool.not_true, Bool.not_false, c_0, c_1, c_2, c_3, c_4, c_5, c_6, c_7, c_8, c_9, c_10, c_11, c_12, sz_0, sz_1, sz_2, sz_3, sz_4, sz_5, sz_6, sz_7, sz_8, sz_9, sz_10, sz_11, sz_12, sz_13, sz_14, sz_15, sz_16, ne_wait_say, ne_wait_go, ne_wait_ask, ne_say_wait, ne_say_go, ne_say_ask, ne_go_wait, ne_go_say, ne_go_ask, ne_ask_wait, ne_ask_say, ne_ask_go, nf_ins_program, nf_ins_place, nf_ins_number, nf_program_ins, nf_program_place, nf_program_number, nf_place_ins, nf_place_program, nf_place_number, nf_number_ins, nf_number_program, nf_number_place]
    try rw [w_ite (by decide)]
    simp only [w_dVar, w_dC, w_dNil, w_dCons, w_dTup, w_dLst, w_d2, w_d2T, w_d3, w_d3T, w_tstB, w_tAndD, w_tOrD, w_tNotD, w_dAnd, w_dOr, w_dNot, w_dIf, w_dNeg, w_sNext, w_sSeq, w_sIf, w_sRet, w_sExpr, w_sAsg, w_gVar, w_sBrk, w_gsNil, w_gsCons, w_gTupD, w_sPar, w_iVal, w_iEnumD, w_iZipD, w_iRngD1, w_iRngD2, w_tYesD, w_gSubD, w_oNone, w_oSome, w_dSlice, w_dCall, w_dFld, w_sFldD, w_gFldD, w_dCallF, w_dMeth, w_dMake, w_sRaise, w_sRaiseT, w_dExF, w_dExI, kB_ap, w_bind, w_ok, w_exc, w_stuck, w_dFn, kFn_nx, kFn_ret, w_sTry, w_sFor, w_loop_nil, w_loop_cons, w_addI, w_subI, w_ltI, w_leI, w_gtI, w_geI, w_eqI, w_neI, w_eqS, w_neS, w_lenT, w_lenF, w_ixT2, w_ixF2, atI_pos, ixN_nat, Int.reduceToNat, Int.reduceLE, Int.reduceLT, Int.reduceNeg, startD, List.map_cons, List.map_nil, List.length_cons, List.length_nil, List.replicate, List.cons_append, List.nil_append, List.getElem?_cons_zero, List.getElem?_cons_succ, List.set_cons_zero, List.set_cons_succ, Nat.reduceAdd, Nat.reduceSub, Nat.reduceEqDiff, if_true, if_false, Bool.false_eq_true, decide_true, decide_false, Int.reduceEq, Int.reduceAdd, Int.reduceSub, Int.reduceMul, Bool.not_true, Bool.not_false, c_0, c_1, c_2, c_3, c_4, c_5, c_6, c_7, c_8, c_9, c_10, c_11, c_12, sz_0, sz_1, sz_2, sz_3, sz_4, sz_5, sz_6, sz_7, sz_8, sz_9, sz_10, sz_11, sz_12, sz_13, sz_14, sz_15, sz_16, eqD, same_wt]
    exact ⟨trivial, Grow.refl S⟩
  · simp only [w_dVar, w_dC, w_dNil, w_dCons, w_dTup, w_dLst, w_d2, w_d2T, w_d3, w_d3T, w_tstB, w_tAndD, w_tOrD, w_tNotD, w_dAnd, w_dOr, w_dNot, w_dIf, w_dNeg, w_sNext, w_sSeq, w_sIf, w_sRet, w_sExpr, w_sAsg, w_gVar, w_sBrk, w_gsNil, w_gsCons, w_gTupD, w_sPar, w_iVal, w_iEnumD, w_iZipD, w_iRngD1, w_iRngD2, w_tYesD, w_gSubD, w_oNone, w_oSome, w_dSlice, w_dCall, w_dFld, w_sFldD, w_gFldD, w_dCallF, w_dMeth, w_dMake, w_sRaise, w_sRaiseT, w_dExF, w_dExI, kB_ap, w_bind, w_ok, w_exc, w_stuck, w_dFn, kFn_nx, kFn_ret, w_sTry, w_sFor, w_loop_nil, w_loop_cons, w_addI, w_subI, w_ltI, w_leI, w_gtI, w_geI, w_eqI, w_neI, w_eqS, w_neS, w_lenT, w_lenF, w_ixT2, w_ixF2, atI_pos, ixN_nat, Int.reduceToNat, Int.reduceLE, Int.reduceLT, Int.reduceNeg, startD, List.map_cons, List.map_nil, List.length_cons, List.length_nil, List.replicate, List.cons_append, List.nil_append, List.getElem?_cons_zero, List.getElem?_cons_succ, List.set_cons_zero, List.set_cons_succ, Nat.reduceAdd, Nat.reduceSub, Nat.reduceEqDiff, if_true, if_false, Bool.false_eq_true, decide_true, decide_false, Int.reduceEq, Int.reduceAdd, Int.reduceSub, Int.reduceMul, Bool.not_true, Bool.not_false, c_0, c_1, c_2, c_3, c_4, c_5, c_6, c_7, c_8, c_9, c_10, c_11, c_12, sz_0, sz_1, sz_2, sz_3, sz_4, sz_5, sz_6, sz_7, sz_8, sz_9, sz_10, sz_11, sz_12, sz_13, sz_14, sz_15, sz_16, ne_wait_say, ne_wait_go, ne_wait_ask, ne_say_wait, ne_say_go, ne_say_ask, ne_go_wait, ne_go_say, ne_go_ask, ne_ask_wait, ne_ask_say, ne_ask_go, nf_ins_program, nf_ins_place, nf_ins_number, nf_program_ins, nf_program_place, nf_program_number, nf_place_ins, nf_place_program, nf_place_number, nf_number_ins, nf_number_program, nf_number_place, is_word_ok hw, if_pos hl]
    exact ⟨trivial, (Grow.one _ _).trans (Grow.one _ _)⟩
  · simp only [w_dVar, w_dC, w_dNil, w_dCons, w_dTup, w_dLst, w_d2, w_d2T, w_d3, w_d3T, w_tstB, w_tAndD, w_tOrD, w_tNotD, w_dAnd, w_dOr, w_dNot, w_dIf, w_dNeg, w_sNext, w_sSeq, w_sIf, w_sRet, w_sExpr, w_sAsg, w_gVar, w_sBrk, w_gsNil, w_gsCons, w_gTupD, w_sPar, w_iVal, w_iEnumD, w_iZipD, w_iRngD1, w_iRngD2, w_tYesD, w_gSubD, w_oNone, w_oSome, w_dSlice, w_dCall, w_dFld, w_sFldD, w_gFldD, w_dCallF, w_dMeth, w_dMake, w_sRaise, w_sRaiseT, w_dExF, w_dExI, kB_ap, w_bind, w_ok, w_exc, w_stuck, w_dFn, kFn_nx, kFn_ret, w_sTry, w_sFor, w_loop_nil, w_loop_cons, w_addI, w_subI, w_ltI, w_leI, w_gtI, w_geI, w_eqI, w_neI, w_eqS, w_neS, w_lenT, w_lenF, w_ixT2, w_ixF2, atI_pos, ixN_nat, Int.reduceToNat, Int.reduceLE, Int.reduceLT, Int.reduceNeg, startD, List.map_cons, List.map_nil, List.length_cons, List.length_nil, List.replicate, List.cons_append, List.nil_append, List.getElem?_cons_zero, List.getElem?_cons_succ, List.set_cons_zero, List.set_cons_succ, Nat.reduceAdd, Nat.reduceSub, Nat.reduceEqDiff, if_true, if_false, Bool.false_eq_true, decide_true, decide_false, Int.reduceEq, Int.reduceAdd, Int.reduceSub, Int.reduceMul, Bool.not_true, Bool.not_false, c_0, c_1, c_2, c_3, c_4, c_5, c_6, c_7, c_8, c_9, c_10, c_11, c_12, sz_0, sz_1, sz_2, sz_3, sz_4, sz_5, sz_6, sz_7, sz_8, sz_9, sz_10, sz_11, sz_12, sz_13, sz_14, sz_15, sz_16, ne_wait_say, ne_wait_go, ne_wait_ask, ne_say_wait, ne_say_go, ne_say_ask, ne_go_wait, ne_go_say, ne_go_ask, ne_ask_wait, ne_ask_say, ne_ask_go, nf_ins_program, nf_ins_place, nf_ins_number, nf_program_ins, nf_program_place, nf_program_number, nf_place_ins, nf_place_program, nf_place_number, nf_number_ins, nf_number_program, nf_number_place, h0, h1]
    exact ⟨trivial, Grow.refl S⟩
/-- need_program at a good one -/
theorem need_ok {ins outs : Int} {ds : List D} {S : Sto} (hi : 1 ≤ ins ∧ ins ≤ 4) (ho : 1 ≤ outs ∧ outs ≤ 3) (hl : ds.length + 1 ≤ 100) (hd : ∀ d ∈ ds, StepOk ins outs ((ds.length + 1 : Nat) : Int) d) :
    Wp (F_need_program [.int ins, .int outs, .tup (wt :: ds)] S) (fun r S' => r = .non ∧ Grow S S') (fun _ _ => False) := by
  unfold F_need_program b_need_program
  have hn : ¬ ((ds.length + 1 : Nat) : Int) = 0 := by omega
  simp only [w_dVar, w_dC, w_dNil, w_dCons, w_dTup, w_dLst, w_d2, w_d2T, w_d3, w_d3T, w_tstB, w_tAndD, w_tOrD, w_tNotD, w_dAnd, w_dOr, w_dNot, w_dIf, w_dNeg, w_sNext, w_sSeq, w_sIf, w_sRet, w_sExpr, w_sAsg, w_gVar, w_sBrk, w_gsNil, w_gsCons, w_gTupD, w_sPar, w_iVal, w_iEnumD, w_iZipD, w_iRngD1, w_iRngD2, w_tYesD, w_gSubD, w_oNone, w_oSome, w_dSlice, w_dCall, w_dFld, w_sFldD, w_gFldD, w_dCallF, w_dMeth, w_dMake, w_sRaise, w_sRaiseT, w_dExF, w_dExI, kB_ap, w_bind, w_ok, w_exc, w_stuck, w_dFn, kFn_nx, kFn_ret, w_sTry, w_sFor, w_loop_nil, w_loop_cons, w_addI, w_subI, w_ltI, w_leI, w_gtI, w_geI, w_eqI, w_neI, w_eqS, w_neS, w_lenT, w_lenF, w_ixT2, w_ixF2, atI_pos, ixN_nat, Int.reduceToNat, Int.reduceLE, Int.reduceLT, Int.reduceNeg, startD, List.map_cons, List.map_nil, List.length_cons, List.length_nil, List.replicate, List.cons_append, List.nil_append, List.getElem?_cons_zero, List.getElem?_cons_succ, List.set_cons_zero, List.set_cons_succ, Nat.reduceAdd, Nat.reduceSub, Nat.reduceEqDiff, if_true, if_false, Bool.false_eq_true, decide_true, decide_false, Int.reduceEq, Int.reduceAdd, Int.reduceSub, Int.reduceMul, Bool.not_true, Bool.not_false, c_0, c_1, c_2, c_3, c_4, c_5, c_6, c_7, c_8, c_9, c_10, c_11, c_12, sz_0, sz_1, sz_2, sz_3, sz_4, sz_5, sz_6, sz_7, sz_8, sz_9, sz_10, sz_11, sz_12, sz_13, sz_14, sz_15, sz_16, hi.1, hi.2, ho.1, ho.2, hn]
  try rw [w_ite (by decide)]
  simp only [w_dVar, w_dC, w_dNil, w_dCons, w_dTup, w_dLst, w_d2, w_d2T, w_d3, w_d3T, w_tstB, w_tAndD, w_tOrD, w_tNotD, w_dAnd, w_dOr, w_dNot, w_dIf, w_dNeg, w_sNext, w_sSeq, w_sIf, w_sRet, w_sExpr, w_sAsg, w_gVar, w_sBrk, w_gsNil, w_gsCons, w_gTupD, w_sPar, w_iVal, w_iEnumD, w_iZipD, w_iRngD1, w_iRngD2, w_tYesD, w_gSubD, w_oNone, w_oSome, w_dSlice, w_dCall, w_dFld, w_sFldD, w_gFldD, w_dCallF, w_dMeth, w_dMake, w_sRaise, w_sRaiseT, w_dExF, w_dExI, kB_ap, w_bind, w_ok, w_exc, w_stuck, w_dFn, kFn_nx, kFn_ret, w_sTry, w_sFor, w_loop_nil, w_loop_cons, w_addI, w_subI, w_ltI, w_leI, w_gtI, w_geI, w_eqI, w_neI, w_eqS, w_neS, w_lenT, w_lenF, w_ixT2, w_ixF2, atI_pos, ixN_nat, Int.reduceToNat, Int.reduceLE, Int.reduceLT, Int.reduceNeg, startD, List.map_cons, List.map_nil, List.length_cons, List.length_nil, List.replicate, List.cons_append, List.nil_append, List.getElem?_cons_zero, List.getElem?_cons_succ, List.set_cons_zero, List.set_cons_succ, Nat.reduceAdd, Nat.reduceSub, Nat.reduceEqDiff, if_true, if_false, Bool.false_eq_true, decide_true, decide_false, Int.reduceEq, Int.reduceAdd, Int.reduceSub, Int.reduceMul, Bool.not_true, Bool.not_false, c_0, c_1, c_2, c_3, c_4, c_5, c_6, c_7, c_8, c_9, c_10, c_11, c_12, sz_0, sz_1, sz_2, sz_3, sz_4, sz_5, sz_6, sz_7, sz_8, sz_9, sz_10, sz_11, sz_12, sz_13, sz_14, sz_15, sz_16, neD, same_wt, itemsD]
  refine w_loop (fun xs sd S' => Grow S S' ∧ (∃ (k : Nat) (es : List D), xs = enumL k es ∧ k + es.length = ds.length + 1 ∧ ∀ d ∈ es, StepOk ins outs ((ds.length + 1 : Nat) : Int) d) ∧ ∃ a b, sd = [some (.int ins), some (.int outs), some (.tup (wt :: ds)), a, b]) (fun _ _ _ _ => rfl) ?_ ?_ _ _ _
    ⟨Grow.refl S, ⟨0, wt :: ds, rfl, by simp, fun d hm => (List.mem_cons.mp hm).elim (fun e => Or.inl e) (fun e => hd d e)⟩, none, none, rfl⟩
  · rintro sd S' ⟨g, _, a, b, rfl⟩
    exact ⟨rfl, g⟩
  · rintro x xs sd S' ⟨g, ⟨k, es, he, hk, hok⟩, a, b, rfl⟩
    cases es with
    | nil => cases he
    | cons d es =>
      cases he
      have hk9 : ¬ (10000 : Int) ≤ (k : Nat) := by simp at hk; omega
      simp only [w_dVar, w_dC, w_dNil, w_dCons, w_dTup, w_dLst, w_d2, w_d2T, w_d3, w_d3T, w_tstB, w_tAndD, w_tOrD, w_tNotD, w_dAnd, w_dOr, w_dNot, w_dIf, w_dNeg, w_sNext, w_sSeq, w_sIf, w_sRet, w_sExpr, w_sAsg, w_gVar, w_sBrk, w_gsNil, w_gsCons, w_gTupD, w_sPar, w_iVal, w_iEnumD, w_iZipD, w_iRngD1, w_iRngD2, w_tYesD, w_gSubD, w_oNone, w_oSome, w_dSlice, w_dCall, w_dFld, w_sFldD, w_gFldD, w_dCallF, w_dMeth, w_dMake, w_sRaise, w_sRaiseT, w_dExF, w_dExI, kB_ap, w_bind, w_ok, w_exc, w_stuck, w_dFn, kFn_nx, kFn_ret, w_sTry, w_sFor, w_loop_nil, w_loop_cons, w_addI, w_subI, w_ltI, w_leI, w_gtI, w_geI, w_eqI, w_neI, w_eqS, w_neS, w_lenT, w_lenF, w_ixT2, w_ixF2, atI_pos, ixN_nat, Int.reduceToNat, Int.reduceLE, Int.reduceLT, Int.reduceNeg, startD, List.map_cons, List.map_nil, List.length_cons, List.length_nil, List.replicate, List.cons_append, List.nil_append, List.getElem?_cons_zero, List.getElem?_cons_succ, List.set_cons_zero, List.set_cons_succ, Nat.reduceAdd, Nat.reduceSub, Nat.reduceEqDiff, if_true, if_false, Bool.false_eq_true, decide_true, decide_false, Int.reduceEq, Int.reduceAdd, Int.reduceSub, Int.reduceMul, Bool.not_true, Bool.not_false, c_0, c_1, c_2, c_3, c_4, c_5, c_6, c_7, c_8, c_9, c_10, c_11, c_12, sz_0, sz_1, sz_2, sz_3, sz_4, sz_5, sz_6, sz_7, sz_8, sz_9, sz_10, sz_11, sz_12, sz_13, sz_14, sz_15, sz_16, hk9]
      refine Wp.then_ (is_step_ok (hok d (by simp))) ?_
      rintro r S2 ⟨rfl, g2⟩
      simp only [w_dVar, w_dC, w_dNil, w_dCons, w_dTup, w_dLst, w_d2, w_d2T, w_d3, w_d3T, w_tstB, w_tAndD, w_tOrD, w_tNotD, w_dAnd, w_dOr, w_dNot, w_dIf, w_dNeg, w_sNext, w_sSeq, w_sIf, w_sRet, w_sExpr, w_sAsg, w_gVar, w_sBrk, w_gsNil, w_gsCons, w_gTupD, w_sPar, w_iVal, w_iEnumD, w_iZipD, w_iRngD1, w_iRngD2, w_tYesD, w_gSubD, w_oNone, w_oSome, w_dSlice, w_dCall, w_dFld, w_sFldD, w_gFldD, w_dCallF, w_dMeth, w_dMake, w_sRaise, w_sRaiseT, w_dExF, w_dExI, kB_ap, w_bind, w_ok, w_exc, w_stuck, w_dFn, kFn_nx, kFn_ret, w_sTry, w_sFor, w_loop_nil, w_loop_cons, w_addI, w_subI, w_ltI, w_leI, w_gtI, w_geI, w_eqI, w_neI, w_eqS, w_neS, w_lenT, w_lenF, w_ixT2, w_ixF2, atI_pos, ixN_nat, Int.reduceToNat, Int.reduceLE, Int.reduceLT, Int.reduceNeg, startD, List.map_cons, List.map_nil, List.length_cons, List.length_nil, List.replicate, List.cons_append, List.nil_append, List.getElem?_cons_zero, List.getElem?_cons_succ, List.set_cons_zero, List.set_cons_succ, Nat.reduceAdd, Nat.reduceSub, Nat.reduceEqDiff, if_true, if_false, Bool.false_eq_true, decide_true, decide_false, Int.reduceEq, Int.reduceAdd, Int.reduceSub, Int.reduceMul, Bool.not_true, Bool.not_false, c_0, c_1, c_2, c_3, c_4, c_5, c_6, c_7, c_8, c_9, c_10, c_11, c_12, sz_0, sz_1, sz_2, sz_3, sz_4, sz_5, sz_6, sz_7, sz_8, sz_9, sz_10, sz_11, sz_12, sz_13, sz_14, sz_15, sz_16]
      exact ⟨g.trans g2, ⟨k + 1, es, rfl, by simp at hk; omega, fun e he => hok e (by simp [he])⟩, _, _, rfl⟩
/-- .. at one that does not begin with a wait -/
theorem need_bad {ins outs : Int} {ds : List D} {S : Sto} (hi : 1 ≤ ins ∧ ins ≤ 4) (ho : 1 ≤ outs ∧ outs ≤ 3) (hd : ds = [] ∨ ∃ d r, ds = d :: r ∧ sameD d wt S = some false) :
    Wp (F_need_program [.int ins, .int outs, .tup ds] S) (fun _ _ => False) (fun x S' => x = ⟨3, some [("number", .int 0)]⟩ ∧ S' = S) := by
  unfold F_need_program b_need_program
  rcases hd with rfl | ⟨d, r, rfl, hs⟩
  · simp only [w_dVar, w_dC, w_dNil, w_dCons, w_dTup, w_dLst, w_d2, w_d2T, w_d3, w_d3T, w_tstB, w_tAndD, w_tOrD, w_tNotD, w_dAnd, w_dOr, w_dNot, w_dIf, w_dNeg, w_sNext, w_sSeq, w_sIf, w_sRet, w_sExpr, w_sAsg, w_gVar, w_sBrk, w_gsNil, w_gsCons, w_gTupD, w_sPar, w_iVal, w_iEnumD, w_iZipD, w_iRngD1, w_iRngD2, w_tYesD, w_gSubD, w_oNone, w_oSome, w_dSlice, w_dCall, w_dFld, w_sFldD, w_gFldD, w_dCallF, w_dMeth, w_dMake, w_sRaise, w_sRaiseT, w_dExF, w_dExI, kB_ap, w_bind, w_ok, w_exc, w_stuck, w_dFn, kFn_nx, kFn_ret, w_sTry, w_sFor, w_loop_nil, w_loop_cons, w_addI, w_subI, w_ltI, w_leI, w_gtI, w_geI, w_eqI, w_neI, w_eqS, w_neS, w_lenT, w_lenF, w_ixT2, w_ixF2, atI_pos, ixN_nat, Int.reduceToNat, Int.reduceLE, Int.reduceLT, Int.reduceNeg, startD, List.map_cons, List.map_nil, List.length_cons, List.length_nil, List.replicate, List.cons_append, List.nil_append, List.getElem?_cons_zero, List.getElem?_cons_succ, List.set_cons_zero, List.set_cons_succ, Nat.reduceAdd, Nat.reduceSub, Nat.reduceEqDiff, if_true, if_false, Bool.false_eq_true, decide_true, decide_false, Int.reduceEq, Int.reduceAdd, Int.reduceSub, Int.reduceMul, Bool.not_true, Bool.not_false, c_0, c_1, c_2, c_3, c_4, c_5, c_6, c_7, c_8, c_9, c_10, c_11, c_12, sz_0, sz_1, sz_2, sz_3, sz_4, sz_5, sz_6, sz_7, sz_8, sz_9, sz_10, sz_11, sz_12, sz_13, sz_14, sz_15, sz_16, hi.1, hi.2, ho.1, ho.2]
    trivial
  · have hn : ¬ ((r.length + 1 : Nat) : Int) = 0 := by omega
    simp only [w_dVar, w_dC, w_dNil, w_dCons, w_dTup, w_dLst, w_d2, w_d2T, w_d3, w_d3T, w_tstB, w_tAndD, w_tOrD, w_tNotD, w_dAnd, w_dOr, w_dNot, w_dIf, w_dNeg, w_sNext, w_sSeq, w_sIf, w_sRet, w_sExpr, w_sAsg, w_gVar, w_sBrk, w_gsNil, w_gsCons, w_gTupD, w_sPar, w_iVal, w_iEnumD, w_iZipD, w_iRngD1, w_iRngD2, w_tYesD, w_gSubD, w_oNone, w_oSome, w_dSlice, w_dCall, w_dFld, w_sFldD, w_gFldD, w_dCallF, w_dMeth, w_dMake, w_sRaise, w_sRaiseT, w_dExF, w_dExI, kB_ap, w_bind, w_ok, w_exc, w_stuck, w_dFn, kFn_nx, kFn_ret, w_sTry, w_sFor, w_loop_nil, w_loop_cons, w_addI, w_subI, w_ltI, w_leI, w_gtI, w_geI, w_eqI, w_neI, w_eqS, w_neS, w_lenT, w_lenF, w_ixT2, w_ixF2, atI_pos, ixN_nat, Int.reduceToNat, Int.reduceLE, Int.reduceLT, Int.reduceNeg, startD, List.map_cons, List.map_nil, List.length_cons, List.length_nil, List.replicate, List.cons_append, List.nil_append, List.getElem?_cons_zero, List.getElem?_cons_succ, List.set_cons_zero, List.set_cons_succ, Nat.reduceAdd, Nat.reduceSub, Nat.reduceEqDiff, if_true, if_false, Bool.false_eq_true, decide_true, decide_false, Int.reduceEq, Int.reduceAdd, Int.reduceSub, Int.reduceMul, Bool.not_true, Bool.not_false, c_0, c_1, c_2, c_3, c_4, c_5, c_6, c_7, c_8, c_9, c_10, c_11, c_12, sz_0, sz_1, sz_2, sz_3, sz_4, sz_5, sz_6, sz_7, sz_8, sz_9, sz_10, sz_11, sz_12, sz_13, sz_14, sz_15, sz_16, hi.1, hi.2, ho.1, ho.2, hn]
    try rw [w_ite (by decide)]
    simp only [w_dVar, w_dC, w_dNil, w_dCons, w_dTup, w_dLst, w_d2, w_d2T, w_d3, w_d3T, w_tstB, w_tAndD, w_tOrD, w_tNotD, w_dAnd, w_dOr, w_dNot, w_dIf, w_dNeg, w_sNext, w_sSeq, w_sIf, w_sRet, w_sExpr, w_sAsg, w_gVar, w_sBrk, w_gsNil, w_gsCons, w_gTupD, w_sPar, w_iVal, w_iEnumD, w_iZipD, w_iRngD1, w_iRngD2, w_tYesD, w_gSubD, w_oNone, w_oSome, w_dSlice, w_dCall, w_dFld, w_sFldD, w_gFldD, w_dCallF, w_dMeth, w_dMake, w_sRaise, w_sRaiseT, w_dExF, w_dExI, kB_ap, w_bind, w_ok, w_exc, w_stuck, w_dFn, kFn_nx, kFn_ret, w_sTry, w_sFor, w_loop_nil, w_loop_cons, w_addI, w_subI, w_ltI, w_leI, w_gtI, w_geI, w_eqI, w_neI, w_eqS, w_neS, w_lenT, w_lenF, w_ixT2, w_ixF2, atI_pos, ixN_nat, Int.reduceToNat, Int.reduceLE, Int.reduceLT, Int.reduceNeg, startD, List.map_cons, List.map_nil, List.length_cons, List.length_nil, List.replicate, List.cons_append, List.nil_append, List.getElem?_cons_zero, List.getElem?_cons_succ, List.set_cons_zero, List.set_cons_succ, Nat.reduceAdd, Nat.reduceSub, Nat.reduceEqDiff, if_true, if_false, Bool.false_eq_true, decide_true, decide_false, Int.reduceEq, Int.reduceAdd, Int.reduceSub, Int.reduceMul, Bool.not_true, Bool.not_false, c_0, c_1, c_2, c_3, c_4, c_5, c_6, c_7, c_8, c_9, c_10, c_11, c_12, sz_0, sz_1, sz_2, sz_3, sz_4, sz_5, sz_6, sz_7, sz_8, sz_9, sz_10, sz_11, sz_12, sz_13, sz_14, sz_15, sz_16, neD, hs]
    trivial
theorem init_ok {ins outs : Int} {ds : List D} {S : Sto} {l : Nat} (hS : S[l]? = some (.ins 5 [])) (hi : 1 ≤ ins ∧ ins ≤ 4) (ho : 1 ≤ outs ∧ outs ≤ 3) (hl : ds.length + 1 ≤ 100) (hd : ∀ d ∈ ds, StepOk ins outs ((ds.length + 1 : Nat) : Int) d) :
    Wp (F_Processor_init [.ref l, .int ins, .int outs, .tup (wt :: ds)] S) (fun r S' => r = .non ∧ ∃ S1, Grow S S1 ∧ S' = S1.set l (.ins 5 [("ins", .int ins), ("program", .tup (wt :: ds)), ("place", .int 0)])) (fun _ _ => False) := by
  unfold F_Processor_init b_Processor_init
  simp only [w_dVar, w_dC, w_dNil, w_dCons, w_dTup, w_dLst, w_d2, w_d2T, w_d3, w_d3T, w_tstB, w_tAndD, w_tOrD, w_tNotD, w_dAnd, w_dOr, w_dNot, w_dIf, w_dNeg, w_sNext, w_sSeq, w_sIf, w_sRet, w_sExpr, w_sAsg, w_gVar, w_sBrk, w_gsNil, w_gsCons, w_gTupD, w_sPar, w_iVal, w_iEnumD, w_iZipD, w_iRngD1, w_iRngD2, w_tYesD, w_gSubD, w_oNone, w_oSome, w_dSlice, w_dCall, w_dFld, w_sFldD, w_gFldD, w_dCallF, w_dMeth, w_dMake, w_sRaise, w_sRaiseT, w_dExF, w_dExI, kB_ap, w_bind, w_ok, w_exc, w_stuck, w_dFn, kFn_nx, kFn_ret, w_sTry, w_sFor, w_loop_nil, w_loop_cons, w_addI, w_subI, w_ltI, w_leI, w_gtI, w_geI, w_eqI, w_neI, w_eqS, w_neS, w_lenT, w_lenF, w_ixT2, w_ixF2, atI_pos, ixN_nat, Int.reduceToNat, Int.reduceLE, Int.reduceLT, Int.reduceNeg, startD, List.map_cons, List.map_nil, List.length_cons, List.length_nil, List.replicate, List.cons_append, List.nil_append, List.getElem?_cons_zero, List.getElem?_cons_succ, List.set_cons_zero, List.set_cons_succ, Nat.reduceAdd, Nat.reduceSub, Nat.reduceEqDiff, if_true, if_false, Bool.false_eq_true, decide_true, decide_false, Int.reduceEq, Int.reduceAdd, Int.reduceSub, Int.reduceMul, Bool.not_true, Bool.not_false, c_0, c_1, c_2, c_3, c_4, c_5, c_6, c_7, c_8, c_9, c_10, c_11, c_12, sz_0, sz_1, sz_2, sz_3, sz_4, sz_5, sz_6, sz_7, sz_8, sz_9, sz_10, sz_11, sz_12, sz_13, sz_14, sz_15, sz_16]
  refine Wp.then_ (need_ok hi ho hl hd) ?_
  rintro r S1 ⟨rfl, g⟩
  have h1 := g.get hS
  have hlt : l < S1.length := (List.getElem?_eq_some_iff.mp h1).1
  have h2 : ∀ fs, (S1.set l (.ins 5 fs))[l]? = some (.ins 5 fs) := fun fs => set_same hlt
  have hc : 5 ∈ cs_ins ∧ 5 ∈ cs_program ∧ 5 ∈ cs_place := by decide
  have ht : ∀ T : Sto, tupleD [D.tup (wt :: ds)] T = .ok (.tup (wt :: ds)) T := fun T => rfl
  simp only [w_dVar, w_dC, w_dNil, w_dCons, w_dTup, w_dLst, w_d2, w_d2T, w_d3, w_d3T, w_tstB, w_tAndD, w_tOrD, w_tNotD, w_dAnd, w_dOr, w_dNot, w_dIf, w_dNeg, w_sNext, w_sSeq, w_sIf, w_sRet, w_sExpr, w_sAsg, w_gVar, w_sBrk, w_gsNil, w_gsCons, w_gTupD, w_sPar, w_iVal, w_iEnumD, w_iZipD, w_iRngD1, w_iRngD2, w_tYesD, w_gSubD, w_oNone, w_oSome, w_dSlice, w_dCall, w_dFld, w_sFldD, w_gFldD, w_dCallF, w_dMeth, w_dMake, w_sRaise, w_sRaiseT, w_dExF, w_dExI, kB_ap, w_bind, w_ok, w_exc, w_stuck, w_dFn, kFn_nx, kFn_ret, w_sTry, w_sFor, w_loop_nil, w_loop_cons, w_addI, w_subI, w_ltI, w_leI, w_gtI, w_geI, w_eqI, w_neI, w_eqS, w_neS, w_lenT, w_lenF, w_ixT2, w_ixF2, atI_pos, ixN_nat, Int.reduceToNat, Int.reduceLE, Int.reduceLT, Int.reduceNeg, startD, List.map_cons, List.map_nil, List.length_cons, List.length_nil, List.replicate, List.cons_append, List.nil_append, List.getElem?_cons_zero, List.getElem?_cons_succ, List.set_cons_zero, List.set_cons_succ, Nat.reduceAdd, Nat.reduceSub, Nat.reduceEqDiff, if_true, if_false, Bool.false_eq_true, decide_true, decide_false, Int.reduceEq, Int.reduceAdd, Int.reduceSub, Int.reduceMul, Bool.not_true, Bool.not_false, c_0, c_1, c_2, c_3, c_4, c_5, c_6, c_7, c_8, c_9, c_10, c_11, c_12, sz_0, sz_1, sz_2, sz_3, sz_4, sz_5, sz_6, sz_7, sz_8, sz_9, sz_10, sz_11, sz_12, sz_13, sz_14, sz_15, sz_16, w_setF h1 ⟨hc.1, by decide⟩, putFD, ht]
  rw [w_setF (h2 _) ⟨hc.2.1, by simp⟩]
  simp only [w_dVar, w_dC, w_dNil, w_dCons, w_dTup, w_dLst, w_d2, w_d2T, w_d3, w_d3T, w_tstB, w_tAndD, w_tOrD, w_tNotD, w_dAnd, w_dOr, w_dNot, w_dIf, w_dNeg, w_sNext, w_sSeq, w_sIf, w_sRet, w_sExpr, w_sAsg, w_gVar, w_sBrk, w_gsNil, w_gsCons, w_gTupD, w_sPar, w_iVal, w_iEnumD, w_iZipD, w_iRngD1, w_iRngD2, w_tYesD, w_gSubD, w_oNone, w_oSome, w_dSlice, w_dCall, w_dFld, w_sFldD, w_gFldD, w_dCallF, w_dMeth, w_dMake, w_sRaise, w_sRaiseT, w_dExF, w_dExI, kB_ap, w_bind, w_ok, w_exc, w_stuck, w_dFn, kFn_nx, kFn_ret, w_sTry, w_sFor, w_loop_nil, w_loop_cons, w_addI, w_subI, w_ltI, w_leI, w_gtI, w_geI, w_eqI, w_neI, w_eqS, w_neS, w_lenT, w_lenF, w_ixT2, w_ixF2, atI_pos, ixN_nat, Int.reduceToNat, Int.reduceLE, Int.reduceLT, Int.reduceNeg, startD, List.map_cons, List.map_nil, List.length_cons, List.length_nil, List.replicate, List.cons_append, List.nil_append, List.getElem?_cons_zero, List.getElem?_cons_succ, List.set_cons_zero, List.set_cons_succ, Nat.reduceAdd, Nat.reduceSub, Nat.reduceEqDiff, if_true, if_false, Bool.false_eq_true, decide_true, decide_false, Int.reduceEq, Int.reduceAdd, Int.reduceSub, Int.reduceMul, Bool.not_true, Bool.not_false, c_0, c_1, c_2, c_3, c_4, c_5, c_6, c_7, c_8, c_9, c_10, c_11, c_12, sz_0, sz_1, sz_2, sz_3, sz_4, sz_5, sz_6, sz_7, sz_8, sz_9, sz_10, sz_11, sz_12, sz_13, sz_14, sz_15, sz_16, ne_wait_say, ne_wait_go, ne_wait_ask, ne_say_wait, ne_say_go, ne_say_ask, ne_go_wait, ne_go_say, ne_go_ask, ne_ask_wait, ne_ask_say, ne_ask_go, nf_ins_program, nf_ins_place, nf_ins_number, nf_program_ins, nf_program_place, nf_program_number, nf_place_ins, nf_place_program, nf_place_number, nf_number_ins, nf_number_program, nf_number_place, putFD, List.set_set]
  rw [w_setF (h2 _) ⟨hc.2.2, by simp⟩]
  simp only [w_dVar, w_dC, w_dNil, w_dCons, w_dTup, w_dLst, w_d2, w_d2T, w_d3, w_d3T, w_tstB, w_tAndD, w_tOrD, w_tNotD, w_dAnd, w_dOr, w_dNot, w_dIf, w_dNeg, w_sNext, w_sSeq, w_sIf, w_sRet, w_sExpr, w_sAsg, w_gVar, w_sBrk, w_gsNil, w_gsCons, w_gTupD, w_sPar, w_iVal, w_iEnumD, w_iZipD, w_iRngD1, w_iRngD2, w_tYesD, w_gSubD, w_oNone, w_oSome, w_dSlice, w_dCall, w_dFld, w_sFldD, w_gFldD, w_dCallF, w_dMeth, w_dMake, w_sRaise, w_sRaiseT, w_dExF, w_dExI, kB_ap, w_bind, w_ok, w_exc, w_stuck, w_dFn, kFn_nx, kFn_ret, w_sTry, w_sFor, w_loop_nil, w_loop_cons, w_addI, w_subI, w_ltI, w_leI, w_gtI, w_geI, w_eqI, w_neI, w_eqS, w_neS, w_lenT, w_lenF, w_ixT2, w_ixF2, atI_pos, ixN_nat, Int.reduceToNat, Int.reduceLE, Int.reduceLT, Int.reduceNeg, startD, List.map_cons, List.map_nil, List.length_cons, List.length_nil, List.replicate, List.cons_append, List.nil_append, List.getElem?_cons_zero, List.getElem?_cons_succ, List.set_cons_zero, List.set_cons_succ, Nat.reduceAdd, Nat.reduceSub, Nat.reduceEqDiff, if_true, if_false, Bool.false_eq_true, decide_true, decide_false, Int.reduceEq, Int.reduceAdd, Int.reduceSub, Int.reduceMul, Bool.not_true, Bool.not_false, c_0, c_1, c_2, c_3, c_4, c_5, c_6, c_7, c_8, c_9, c_10, c_11, c_12, sz_0, sz_1, sz_2, sz_3, sz_4, sz_5, sz_6, sz_7, sz_8, sz_9, sz_10, sz_11, sz_12, sz_13, sz_14, sz_15, sz_16, ne_wait_say, ne_wait_go, ne_wait_ask, ne_say_wait, ne_say_go, ne_say_ask, ne_go_wait, ne_go_say, ne_go_ask, ne_ask_wait, ne_ask_say, ne_ask_go, nf_ins_program, nf_ins_place, nf_ins_number, nf_program_ins, nf_program_place, nf_program_number, nf_place_ins, nf_place_program, nf_place_number, nf_number_ins, nf_number_program, nf_number_place, putFD, List.set_set]
  exact ⟨trivial, S1, g, rfl⟩
theorem x3 {S : Sto} : x__law_refused ⟨3, some [("number", .int 0)]⟩ S = .ok (.int 0) S := by
  simp [x__law_refused]
theorem refused_ok {ins outs : Int} {ds : List D} {S : Sto} (hi : 1 ≤ ins ∧ ins ≤ 4) (ho : 1 ≤ outs ∧ outs ≤ 3) (hl : ds.length + 1 ≤ 100) (hd : ∀ d ∈ ds, StepOk ins outs ((ds.length + 1 : Nat) : Int) d) :
    Wp (F__law_refused [.int ins, .int outs, .tup (wt :: ds)] S) (fun r S' => r = .non ∧ Grow S S') (fun _ _ => False) := by
  unfold F__law_refused b__law_refused
  simp only [w_dVar, w_dC, w_dNil, w_dCons, w_dTup, w_dLst, w_d2, w_d2T, w_d3, w_d3T, w_tstB, w_tAndD, w_tOrD, w_tNotD, w_dAnd, w_dOr, w_dNot, w_dIf, w_dNeg, w_sNext, w_sSeq, w_sIf, w_sRet, w_sExpr, w_sAsg, w_gVar, w_sBrk, w_gsNil, w_gsCons, w_gTupD, w_sPar, w_iVal, w_iEnumD, w_iZipD, w_iRngD1, w_iRngD2, w_tYesD, w_gSubD, w_oNone, w_oSome, w_dSlice, w_dCall, w_dFld, w_sFldD, w_gFldD, w_dCallF, w_dMeth, w_dMake, w_sRaise, w_sRaiseT, w_dExF, w_dExI, kB_ap, w_bind, w_ok, w_exc, w_stuck, w_dFn, kFn_nx, kFn_ret, w_sTry, w_sFor, w_loop_nil, w_loop_cons, w_addI, w_subI, w_ltI, w_leI, w_gtI, w_geI, w_eqI, w_neI, w_eqS, w_neS, w_lenT, w_lenF, w_ixT2, w_ixF2, atI_pos, ixN_nat, Int.reduceToNat, Int.reduceLE, Int.reduceLT, Int.reduceNeg, startD, List.map_cons, List.map_nil, List.length_cons, List.length_nil, List.replicate, List.cons_append, List.nil_append, List.getElem?_cons_zero, List.getElem?_cons_succ, List.set_cons_zero, List.set_cons_succ, Nat.reduceAdd, Nat.reduceSub, Nat.reduceEqDiff, if_true, if_false, Bool.false_eq_true, decide_true, decide_false, Int.reduceEq, Int.reduceAdd, Int.reduceSub, Int.reduceMul, Bool.not_true, Bool.not_false, c_0, c_1, c_2, c_3, c_4, c_5, c_6, c_7, c_8, c_9, c_10, c_11, c_12, sz_0, sz_1, sz_2, sz_3, sz_4, sz_5, sz_6, sz_7, sz_8, sz_9, sz_10, sz_11, sz_12, sz_13, sz_14, sz_15, sz_16]
  refine Wp.then_ (init_ok (l := S.length) get_last hi ho hl hd) ?_
  rintro r S1 ⟨rfl, S2, g, rfl⟩
  simp only [w_dVar, w_dC, w_dNil, w_dCons, w_dTup, w_dLst, w_d2, w_d2T, w_d3, w_d3T, w_tstB, w_tAndD, w_tOrD, w_tNotD, w_dAnd, w_dOr, w_dNot, w_dIf, w_dNeg, w_sNext, w_sSeq, w_sIf, w_sRet, w_sExpr, w_sAsg, w_gVar, w_sBrk, w_gsNil, w_gsCons, w_gTupD, w_sPar, w_iVal, w_iEnumD, w_iZipD, w_iRngD1, w_iRngD2, w_tYesD, w_gSubD, w_oNone, w_oSome, w_dSlice, w_dCall, w_dFld, w_sFldD, w_gFldD, w_dCallF, w_dMeth, w_dMake, w_sRaise, w_sRaiseT, w_dExF, w_dExI, kB_ap, w_bind, w_ok, w_exc, w_stuck, w_dFn, kFn_nx, kFn_ret, w_sTry, w_sFor, w_loop_nil, w_loop_cons, w_addI, w_subI, w_ltI, w_leI, w_gtI, w_geI, w_eqI, w_neI, w_eqS, w_neS, w_lenT, w_lenF, w_ixT2, w_ixF2, atI_pos, ixN_nat, Int.reduceToNat, Int.reduceLE, Int.reduceLT, Int.reduceNeg, startD, List.map_cons, List.map_nil, List.length_cons, List.length_nil, List.replicate, List.cons_append, List.nil_append, List.getElem?_cons_zero, List.getElem?_cons_succ, List.set_cons_zero, List.set_cons_succ, Nat.reduceAdd, Nat.reduceSub, Nat.reduceEqDiff, if_true, if_false, Bool.false_eq_true, decide_true, decide_false, Int.reduceEq, Int.reduceAdd, Int.reduceSub, Int.reduceMul, Bool.not_true, Bool.not_false, c_0, c_1, c_2, c_3, c_4, c_5, c_6, c_7, c_8, c_9, c_10, c_11, c_12, sz_0, sz_1, sz_2, sz_3, sz_4, sz_5, sz_6, sz_7, sz_8, sz_9, sz_10, sz_11, sz_12, sz_13, sz_14, sz_15, sz_16]
  refine ⟨trivial, ?_⟩
  obtain ⟨T, rfl⟩ := g
  exact ⟨_, by rw [List.append_assoc, List.set_append_right _ _ (Nat.le_refl _)]⟩
theorem refused_bad {ins outs : Int} {ds : List D} {S : Sto} (hi : 1 ≤ ins ∧ ins ≤ 4) (ho : 1 ≤ outs ∧ outs ≤ 3) (hd : ds = [] ∨ ∃ d r, ds = d :: r ∧ ∀ S, sameD d wt S = some false) :
    Wp (F__law_refused [.int ins, .int outs, .tup ds] S) (fun r S' => r = .int 0 ∧ Grow S S') (fun _ _ => False) := by
  unfold F__law_refused b__law_refused
  simp only [w_dVar, w_dC, w_dNil, w_dCons, w_dTup, w_dLst, w_d2, w_d2T, w_d3, w_d3T, w_tstB, w_tAndD, w_tOrD, w_tNotD, w_dAnd, w_dOr, w_dNot, w_dIf, w_dNeg, w_sNext, w_sSeq, w_sIf, w_sRet, w_sExpr, w_sAsg, w_gVar, w_sBrk, w_gsNil, w_gsCons, w_gTupD, w_sPar, w_iVal, w_iEnumD, w_iZipD, w_iRngD1, w_iRngD2, w_tYesD, w_gSubD, w_oNone, w_oSome, w_dSlice, w_dCall, w_dFld, w_sFldD, w_gFldD, w_dCallF, w_dMeth, w_dMake, w_sRaise, w_sRaiseT, w_dExF, w_dExI, kB_ap, w_bind, w_ok, w_exc, w_stuck, w_dFn, kFn_nx, kFn_ret, w_sTry, w_sFor, w_loop_nil, w_loop_cons, w_addI, w_subI, w_ltI, w_leI, w_gtI, w_geI, w_eqI, w_neI, w_eqS, w_neS, w_lenT, w_lenF, w_ixT2, w_ixF2, atI_pos, ixN_nat, Int.reduceToNat, Int.reduceLE, Int.reduceLT, Int.reduceNeg, startD, List.map_cons, List.map_nil, List.length_cons, List.length_nil, List.replicate, List.cons_append, List.nil_append, List.getElem?_cons_zero, List.getElem?_cons_succ, List.set_cons_zero, List.set_cons_succ, Nat.reduceAdd, Nat.reduceSub, Nat.reduceEqDiff, if_true, if_false, Bool.false_eq_true, decide_true, decide_false, Int.reduceEq, Int.reduceAdd, Int.reduceSub, Int.reduceMul, Bool.not_true, Bool.not_false, c_0, c_1, c_2, c_3, c_4, c_5, c_6, c_7, c_8, c_9, c_10, c_11, c_12, sz_0, sz_1, sz_2, sz_3, sz_4, sz_5, sz_6, sz_7, sz_8, sz_9, sz_10, sz_11, sz_12, sz_13, sz_14, sz_15, sz_16]
  unfold F_Processor_init b_Processor_init
  simp only [w_dVar, w_dC, w_dNil, w_dCons, w_dTup, w_dLst, w_d2, w_d2T, w_d3, w_d3T, w_tstB, w_tAndD, w_tOrD, w_tNotD, w_dAnd, w_dOr, w_dNot, w_dIf, w_dNeg, w_sNext, w_sSeq, w_sIf, w_sRet, w_sExpr, w_sAsg, w_gVar, w_sBrk, w_gsNil, w_gsCons, w_gTupD, w_sPar, w_iVal, w_iEnumD, w_iZipD, w_iRngD1, w_iRngD2, w_tYesD, w_gSubD, w_oNone, w_oSome, w_dSlice, w_dCall, w_dFld, w_sFldD, w_gFldD, w_dCallF, w_dMeth, w_dMake, w_sRaise, w_sRaiseT, w_dExF, w_dExI, kB_ap, w_bind, w_ok, w_exc, w_stuck, w_dFn, kFn_nx, kFn_ret, w_sTry, w_sFor, w_loop_nil, w_loop_cons, w_addI, w_subI, w_ltI, w_leI, w_gtI, w_geI, w_eqI, w_neI, w_eqS, w_neS, w_lenT, w_lenF, w_ixT2, w_ixF2, atI_pos, ixN_nat, Int.reduceToNat, Int.reduceLE, Int.reduceLT, Int.reduceNeg, startD, List.map_cons, List.map_nil, List.length_cons, List.length_nil, List.replicate, List.cons_append, List.nil_append, List.getElem?_cons_zero, List.getElem?_cons_succ, List.set_cons_zero, List.set_cons_succ, Nat.reduceAdd, Nat.reduceSub, Nat.reduceEqDiff, if_true, if_false, Bool.false_eq_true, decide_true, decide_false, Int.reduceEq, Int.reduceAdd, Int.reduceSub, Int.reduceMul, Bool.not_true, Bool.not_false, c_0, c_1, c_2, c_3, c_4, c_5, c_6, c_7, c_8, c_9, c_10, c_11, c_12, sz_0, sz_1, sz_2, sz_3, sz_4, sz_5, sz_6, sz_7, sz_8, sz_9, sz_10, sz_11, sz_12, sz_13, sz_14, sz_15, sz_16]
  refine Wp.mono (need_bad hi ho (hd.imp id fun ⟨d, r, e, h⟩ => ⟨d, r, e, h _⟩)) (fun _ _ z => z.elim) ?_
  rintro x S1 ⟨rfl, rfl⟩
  rw [x3]
  exact ⟨rfl, Grow.one _ _⟩
theorem need_beats_ok {ins : Int} {b : Str} {S : Sto} {l : Nat} (hS : S[l]? = some (.lst [.str b])) (hb : W01 b) (hl : ((b.length : Nat) : Int) = ins) : Wp (F_need_beats [.int ins, .ref l] S) (fun r S' => r = .non ∧ Grow S S') (fun _ _ => False) := by
  unfold F_need_beats b_need_beats
  simp only [w_dVar, w_dC, w_dNil, w_dCons, w_dTup, w_dLst, w_d2, w_d2T, w_d3, w_d3T, w_tstB, w_tAndD, w_tOrD, w_tNotD, w_dAnd, w_dOr, w_dNot, w_dIf, w_dNeg, w_sNext, w_sSeq, w_sIf, w_sRet, w_sExpr, w_sAsg, w_gVar, w_sBrk, w_gsNil, w_gsCons, w_gTupD, w_sPar, w_iVal, w_iEnumD, w_iZipD, w_iRngD1, w_iRngD2, w_tYesD, w_gSubD, w_oNone, w_oSome, w_dSlice, w_dCall, w_dFld, w_sFldD, w_gFldD, w_dCallF, w_dMeth, w_dMake, w_sRaise, w_sRaiseT, w_dExF, w_dExI, kB_ap, w_bind, w_ok, w_exc, w_stuck, w_dFn, kFn_nx, kFn_ret, w_sTry, w_sFor, w_loop_nil, w_loop_cons, w_addI, w_subI, w_ltI, w_leI, w_gtI, w_geI, w_eqI, w_neI, w_eqS, w_neS, w_lenT, w_lenF, w_ixT2, w_ixF2, atI_pos, ixN_nat, Int.reduceToNat, Int.reduceLE, Int.reduceLT, Int.reduceNeg, startD, List.map_cons, List.map_nil, List.length_cons, List.length_nil, List.replicate, List.cons_append, List.nil_append, List.getElem?_cons_zero, List.getElem?_cons_succ, List.set_cons_zero, List.set_cons_succ, Nat.reduceAdd, Nat.reduceSub, Nat.reduceEqDiff, if_true, if_false, Bool.false_eq_true, decide_true, decide_false, Int.reduceEq, Int.reduceAdd, Int.reduceSub, Int.reduceMul, Bool.not_true, Bool.not_false, c_0, c_1, c_2, c_3, c_4, c_5, c_6, c_7, c_8, c_9, c_10, c_11, c_12, sz_0, sz_1, sz_2, sz_3, sz_4, sz_5, sz_6, sz_7, sz_8, sz_9, sz_10, sz_11, sz_12, sz_13, sz_14, sz_15, sz_16, itemsD, hS]
  have g : Grow S (S ++ [DO.lst []] ++ [DO.lst []]) := (Grow.one _ _).trans (Grow.one _ _)
  have c1 : chkL l [D.str b] S = true := decide_eq_true hS
  have c2 : chkL l [D.str b] (S ++ [DO.lst []] ++ [DO.lst []]) = true := decide_eq_true (g.get hS)
  unfold enumL enumL loopD
  rw [w_ite c1]
  simp only [w_dVar, w_dC, w_dNil, w_dCons, w_dTup, w_dLst, w_d2, w_d2T, w_d3, w_d3T, w_tstB, w_tAndD, w_tOrD, w_tNotD, w_dAnd, w_dOr, w_dNot, w_dIf, w_dNeg, w_sNext, w_sSeq, w_sIf, w_sRet, w_sExpr, w_sAsg, w_gVar, w_sBrk, w_gsNil, w_gsCons, w_gTupD, w_sPar, w_iVal, w_iEnumD, w_iZipD, w_iRngD1, w_iRngD2, w_tYesD, w_gSubD, w_oNone, w_oSome, w_dSlice, w_dCall, w_dFld, w_sFldD, w_gFldD, w_dCallF, w_dMeth, w_dMake, w_sRaise, w_sRaiseT, w_dExF, w_dExI, kB_ap, w_bind, w_ok, w_exc, w_stuck, w_dFn, kFn_nx, kFn_ret, w_sTry, w_sFor, w_loop_nil, w_loop_cons, w_addI, w_subI, w_ltI, w_leI, w_gtI, w_geI, w_eqI, w_neI, w_eqS, w_neS, w_lenT, w_lenF, w_ixT2, w_ixF2, atI_pos, ixN_nat, Int.reduceToNat, Int.reduceLE, Int.reduceLT, Int.reduceNeg, startD, List.map_cons, List.map_nil, List.length_cons, List.length_nil, List.replicate, List.cons_append, List.nil_append, List.getElem?_cons_zero, List.getElem?_cons_succ, List.set_cons_zero, List.set_cons_succ, Nat.reduceAdd, Nat.reduceSub, Nat.reduceEqDiff, if_true, if_false, Bool.false_eq_true, decide_true, decide_false, Int.reduceEq, Int.reduceAdd, Int.reduceSub, Int.reduceMul, Bool.not_true, Bool.not_false, c_0, c_1, c_2, c_3, c_4, c_5, c_6, c_7, c_8, c_9, c_10, c_11, c_12, sz_0, sz_1, sz_2, sz_3, sz_4, sz_5, sz_6, sz_7, sz_8, sz_9, sz_10, sz_11, sz_12, sz_13, sz_14, sz_15, sz_16, is_word_ok hb, if_pos hl]
  unfold loopD
  rw [w_ite c2]
  exact ⟨rfl, g⟩
abbrev sayD (w : Str) : D := .tup [.str "say", .str w]
abbrev goD (j : Int) : D := .tup [.str "go", .int j]
abbrev box (ins : Int) (w : Str) : DO := .ins 5 [("ins", .int ins), ("program", .tup [wt, sayD w, goD 0]), ("place", .int 0)]
theorem set_id {S : Sto} {l : Nat} {o : DO} (h : S[l]? = some o) : S.set l o = S := by
  apply List.ext_getElem?
  intro i
  by_cases e : i = l
  · subst e; rw [List.getElem?_set_self (List.getElem?_eq_some_iff.mp h).1, h]
  · rw [List.getElem?_set_ne (Ne.symm e)]
theorem stopped_ok {ins : Int} {w : Str} {S : Sto} {l : Nat} (hS : S[l]? = some (box ins w)) : Wp (F_Processor_stopped [.ref l, .int 0, .str w] S) (fun r S' => r = .str w ∧ S' = S) (fun _ _ => False) := by
  unfold F_Processor_stopped b_Processor_stopped
  have hd : (decide (D.str w = D.non)) = false := by simp
  simp only [w_dVar, w_dC, w_dNil, w_dCons, w_dTup, w_dLst, w_d2, w_d2T, w_d3, w_d3T, w_tstB, w_tAndD, w_tOrD, w_tNotD, w_dAnd, w_dOr, w_dNot, w_dIf, w_dNeg, w_sNext, w_sSeq, w_sIf, w_sRet, w_sExpr, w_sAsg, w_gVar, w_sBrk, w_gsNil, w_gsCons, w_gTupD, w_sPar, w_iVal, w_iEnumD, w_iZipD, w_iRngD1, w_iRngD2, w_tYesD, w_gSubD, w_oNone, w_oSome, w_dSlice, w_dCall, w_dFld, w_sFldD, w_gFldD, w_dCallF, w_dMeth, w_dMake, w_sRaise, w_sRaiseT, w_dExF, w_dExI, kB_ap, w_bind, w_ok, w_exc, w_stuck, w_dFn, kFn_nx, kFn_ret, w_sTry, w_sFor, w_loop_nil, w_loop_cons, w_addI, w_subI, w_ltI, w_leI, w_gtI, w_geI, w_eqI, w_neI, w_eqS, w_neS, w_lenT, w_lenF, w_ixT2, w_ixF2, atI_pos, ixN_nat, Int.reduceToNat, Int.reduceLE, Int.reduceLT, Int.reduceNeg, startD, List.map_cons, List.map_nil, List.length_cons, List.length_nil, List.replicate, List.cons_append, List.nil_append, List.getElem?_cons_zero, List.getElem?_cons_succ, List.set_cons_zero, List.set_cons_succ, Nat.reduceAdd, Nat.reduceSub, Nat.reduceEqDiff, if_true, if_false, Bool.false_eq_true, decide_true, decide_false, Int.reduceEq, Int.reduceAdd, Int.reduceSub, Int.reduceMul, Bool.not_true, Bool.not_false, c_0, c_1, c_2, c_3, c_4, c_5, c_6, c_7, c_8, c_9, c_10, c_11, c_12, sz_0, sz_1, sz_2, sz_3, sz_4, sz_5, sz_6, sz_7, sz_8, sz_9, sz_10, sz_11, sz_12, sz_13, sz_14, sz_15, sz_16, isD, hd]
  rw [w_setF hS ⟨by decide, by simp⟩]
  simp only [w_dVar, w_dC, w_dNil, w_dCons, w_dTup, w_dLst, w_d2, w_d2T, w_d3, w_d3T, w_tstB, w_tAndD, w_tOrD, w_tNotD, w_dAnd, w_dOr, w_dNot, w_dIf, w_dNeg, w_sNext, w_sSeq, w_sIf, w_sRet, w_sExpr, w_sAsg, w_gVar, w_sBrk, w_gsNil, w_gsCons, w_gTupD, w_sPar, w_iVal, w_iEnumD, w_iZipD, w_iRngD1, w_iRngD2, w_tYesD, w_gSubD, w_oNone, w_oSome, w_dSlice, w_dCall, w_dFld, w_sFldD, w_gFldD, w_dCallF, w_dMeth, w_dMake, w_sRaise, w_sRaiseT, w_dExF, w_dExI, kB_ap, w_bind, w_ok, w_exc, w_stuck, w_dFn, kFn_nx, kFn_ret, w_sTry, w_sFor, w_loop_nil, w_loop_cons, w_addI, w_subI, w_ltI, w_leI, w_gtI, w_geI, w_eqI, w_neI, w_eqS, w_neS, w_lenT, w_lenF, w_ixT2, w_ixF2, atI_pos, ixN_nat, Int.reduceToNat, Int.reduceLE, Int.reduceLT, Int.reduceNeg, startD, List.map_cons, List.map_nil, List.length_cons, List.length_nil, List.replicate, List.cons_append, List.nil_append, List.getElem?_cons_zero, List.getElem?_cons_succ, List.set_cons_zero, List.set_cons_succ, Nat.reduceAdd, Nat.reduceSub, Nat.reduceEqDiff, if_true, if_false, Bool.false_eq_true, decide_true, decide_false, Int.reduceEq, Int.reduceAdd, Int.reduceSub, Int.reduceMul, Bool.not_true, Bool.not_false, c_0, c_1, c_2, c_3, c_4, c_5, c_6, c_7, c_8, c_9, c_10, c_11, c_12, sz_0, sz_1, sz_2, sz_3, sz_4, sz_5, sz_6, sz_7, sz_8, sz_9, sz_10, sz_11, sz_12, sz_13, sz_14, sz_15, sz_16, ne_wait_say, ne_wait_go, ne_wait_ask, ne_say_wait, ne_say_go, ne_say_ask, ne_go_wait, ne_go_say, ne_go_ask, ne_ask_wait, ne_ask_say, ne_ask_go, nf_ins_program, nf_ins_place, nf_ins_number, nf_program_ins, nf_program_place, nf_program_number, nf_place_ins, nf_place_program, nf_place_number, nf_number_ins, nf_number_program, nf_number_place, putFD]
  exact ⟨trivial, set_id hS⟩
theorem behind_say {w b : Str} {S : Sto} {l : Nat} : Wp (F_Processor_behind [.ref l, .int 1, sayD w, .str b] S) (fun r S' => r = .int 2 ∧ S' = S) (fun _ _ => False) := by
  unfold F_Processor_behind b_Processor_behind
  simp only [w_dVar, w_dC, w_dNil, w_dCons, w_dTup, w_dLst, w_d2, w_d2T, w_d3, w_d3T, w_tstB, w_tAndD, w_tOrD, w_tNotD, w_dAnd, w_dOr, w_dNot, w_dIf, w_dNeg, w_sNext, w_sSeq, w_sIf, w_sRet, w_sExpr, w_sAsg, w_gVar, w_sBrk, w_gsNil, w_gsCons, w_gTupD, w_sPar, w_iVal, w_iEnumD, w_iZipD, w_iRngD1, w_iRngD2, w_tYesD, w_gSubD, w_oNone, w_oSome, w_dSlice, w_dCall, w_dFld, w_sFldD, w_gFldD, w_dCallF, w_dMeth, w_dMake, w_sRaise, w_sRaiseT, w_dExF, w_dExI, kB_ap, w_bind, w_ok, w_exc, w_stuck, w_dFn, kFn_nx, kFn_ret, w_sTry, w_sFor, w_loop_nil, w_loop_cons, w_addI, w_subI, w_ltI, w_leI, w_gtI, w_geI, w_eqI, w_neI, w_eqS, w_neS, w_lenT, w_lenF, w_ixT2, w_ixF2, atI_pos, ixN_nat, Int.reduceToNat, Int.reduceLE, Int.reduceLT, Int.reduceNeg, startD, List.map_cons, List.map_nil, List.length_cons, List.length_nil, List.replicate, List.cons_append, List.nil_append, List.getElem?_cons_zero, List.getElem?_cons_succ, List.set_cons_zero, List.set_cons_succ, Nat.reduceAdd, Nat.reduceSub, Nat.reduceEqDiff, if_true, if_false, Bool.false_eq_true, decide_true, decide_false, Int.reduceEq, Int.reduceAdd, Int.reduceSub, Int.reduceMul, Bool.not_true, Bool.not_false, c_0, c_1, c_2, c_3, c_4, c_5, c_6, c_7, c_8, c_9, c_10, c_11, c_12, sz_0, sz_1, sz_2, sz_3, sz_4, sz_5, sz_6, sz_7, sz_8, sz_9, sz_10, sz_11, sz_12, sz_13, sz_14, sz_15, sz_16, ne_wait_say, ne_wait_go, ne_wait_ask, ne_say_wait, ne_say_go, ne_say_ask, ne_go_wait, ne_go_say, ne_go_ask, ne_ask_wait, ne_ask_say, ne_ask_go, nf_ins_program, nf_ins_place, nf_ins_number, nf_program_ins, nf_program_place, nf_program_number, nf_place_ins, nf_place_program, nf_place_number, nf_number_ins, nf_number_program, nf_number_place]
  trivial
theorem behind_go {b : Str} {S : Sto} {l : Nat} : Wp (F_Processor_behind [.ref l, .int 2, goD 0, .str b] S) (fun r S' => r = .int 0 ∧ S' = S) (fun _ _ => False) := by
  unfold F_Processor_behind b_Processor_behind
  simp only [w_dVar, w_dC, w_dNil, w_dCons, w_dTup, w_dLst, w_d2, w_d2T, w_d3, w_d3T, w_tstB, w_tAndD, w_tOrD, w_tNotD, w_dAnd, w_dOr, w_dNot, w_dIf, w_dNeg, w_sNext, w_sSeq, w_sIf, w_sRet, w_sExpr, w_sAsg, w_gVar, w_sBrk, w_gsNil, w_gsCons, w_gTupD, w_sPar, w_iVal, w_iEnumD, w_iZipD, w_iRngD1, w_iRngD2, w_tYesD, w_gSubD, w_oNone, w_oSome, w_dSlice, w_dCall, w_dFld, w_sFldD, w_gFldD, w_dCallF, w_dMeth, w_dMake, w_sRaise, w_sRaiseT, w_dExF, w_dExI, kB_ap, w_bind, w_ok, w_exc, w_stuck, w_dFn, kFn_nx, kFn_ret, w_sTry, w_sFor, w_loop_nil, w_loop_cons, w_addI, w_subI, w_ltI, w_leI, w_gtI, w_geI, w_eqI, w_neI, w_eqS, w_neS, w_lenT, w_lenF, w_ixT2, w_ixF2, atI_pos, ixN_nat, Int.reduceToNat, Int.reduceLE, Int.reduceLT, Int.reduceNeg, startD, List.map_cons, List.map_nil, List.length_cons, List.length_nil, List.replicate, List.cons_append, List.nil_append, List.getElem?_cons_zero, List.getElem?_cons_succ, List.set_cons_zero, List.set_cons_succ, Nat.reduceAdd, Nat.reduceSub, Nat.reduceEqDiff, if_true, if_false, Bool.false_eq_true, decide_true, decide_false, Int.reduceEq, Int.reduceAdd, Int.reduceSub, Int.reduceMul, Bool.not_true, Bool.not_false, c_0, c_1, c_2, c_3, c_4, c_5, c_6, c_7, c_8, c_9, c_10, c_11, c_12, sz_0, sz_1, sz_2, sz_3, sz_4, sz_5, sz_6, sz_7, sz_8, sz_9, sz_10, sz_11, sz_12, sz_13, sz_14, sz_15, sz_16, ne_wait_say, ne_wait_go, ne_wait_ask, ne_say_wait, ne_say_go, ne_say_ask, ne_go_wait, ne_go_say, ne_go_ask, ne_ask_wait, ne_ask_say, ne_ask_go, nf_ins_program, nf_ins_place, nf_ins_number, nf_program_ins, nf_program_place, nf_program_number, nf_place_ins, nf_place_program, nf_place_number, nf_number_ins, nf_number_program, nf_number_place]
  trivial
theorem range1000 : ∃ r, rangeL 0 1000 = .int 0 :: .int 1 :: .int 2 :: r := ⟨(rangeL 0 1000).drop 3, by decide +kernel⟩
theorem look_ins {ins : Int} {p q : D} : List.lookup (Str.ofString "ins") [(Str.ofString "ins", D.int ins), (Str.ofString "program", p), (Str.ofString "place", q)] = some (.int ins) := by simp [List.lookup]
theorem look_program {p q r : D} : List.lookup (Str.ofString "program") [(Str.ofString "ins", p), (Str.ofString "program", q), (Str.ofString "place", r)] = some q := by
  have h : (Str.ofString "program" == Str.ofString "ins") = false := by decide +kernel
  simp [List.lookup, h]
theorem look_place {p q r : D} : List.lookup (Str.ofString "place") [(Str.ofString "ins", p), (Str.ofString "program", q), (Str.ofString "place", r)] = some r := by
  have h : (Str.ofString "place" == Str.ofString "ins") = false := by decide +kernel
  have h2 : (Str.ofString "place" == Str.ofString "program") = false := by decide +kernel
  simp [List.lookup, h, h2]
theorem look_no {n : Str} {p q r : D} (h1 : (n == Str.ofString "ins") = false) (h2 : (n == Str.ofString "program") = false) (h3 : (n == Str.ofString "place") = false) : List.lookup n [(Str.ofString "ins", p), (Str.ofString "program", q), (Str.ofString "place", r)] = none := by
  simp [List.lookup, h1, h2, h3]
theorem beat_ok {ins : Int} {w b : Str} {S : Sto} {l : Nat} (hS : S[l]? = some (box ins w)) (hb : W01 b) (hl : ((b.length : Nat) : Int) = ins) : Wp (F_Processor_beat [.ref l, .str b] S) (fun r S' => r = .str w ∧ Grow S S') (fun _ _ => False) := by
  unfold F_Processor_beat b_Processor_beat
  simp only [w_dVar, w_dC, w_dNil, w_dCons, w_dTup, w_dLst, w_d2, w_d2T, w_d3, w_d3T, w_tstB, w_tAndD, w_tOrD, w_tNotD, w_dAnd, w_dOr, w_dNot, w_dIf, w_dNeg, w_sNext, w_sSeq, w_sIf, w_sRet, w_sExpr, w_sAsg, w_gVar, w_sBrk, w_gsNil, w_gsCons, w_gTupD, w_sPar, w_iVal, w_iEnumD, w_iZipD, w_iRngD1, w_iRngD2, w_tYesD, w_gSubD, w_oNone, w_oSome, w_dSlice, w_dCall, w_dFld, w_sFldD, w_gFldD, w_dCallF, w_dMeth, w_dMake, w_sRaise, w_sRaiseT, w_dExF, w_dExI, kB_ap, w_bind, w_ok, w_exc, w_stuck, w_dFn, kFn_nx, kFn_ret, w_sTry, w_sFor, w_loop_nil, w_loop_cons, w_addI, w_subI, w_ltI, w_leI, w_gtI, w_geI, w_eqI, w_neI, w_eqS, w_neS, w_lenT, w_lenF, w_ixT2, w_ixF2, atI_pos, ixN_nat, Int.reduceToNat, Int.reduceLE, Int.reduceLT, Int.reduceNeg, startD, List.map_cons, List.map_nil, List.length_cons, List.length_nil, List.replicate, List.cons_append, List.nil_append, List.getElem?_cons_zero, List.getElem?_cons_succ, List.set_cons_zero, List.set_cons_succ, Nat.reduceAdd, Nat.reduceSub, Nat.reduceEqDiff, if_true, if_false, Bool.false_eq_true, decide_true, decide_false, Int.reduceEq, Int.reduceAdd, Int.reduceSub, Int.reduceMul, Bool.not_true, Bool.not_false, c_0, c_1, c_2, c_3, c_4, c_5, c_6, c_7, c_8, c_9, c_10, c_11, c_12, sz_0, sz_1, sz_2, sz_3, sz_4, sz_5, sz_6, sz_7, sz_8, sz_9, sz_10, sz_11, sz_12, sz_13, sz_14, sz_15, sz_16]
  rw [w_getF hS (by decide) look_ins]
  simp only [w_dVar, w_dC, w_dNil, w_dCons, w_dTup, w_dLst, w_d2, w_d2T, w_d3, w_d3T, w_tstB, w_tAndD, w_tOrD, w_tNotD, w_dAnd, w_dOr, w_dNot, w_dIf, w_dNeg, w_sNext, w_sSeq, w_sIf, w_sRet, w_sExpr, w_sAsg, w_gVar, w_sBrk, w_gsNil, w_gsCons, w_gTupD, w_sPar, w_iVal, w_iEnumD, w_iZipD, w_iRngD1, w_iRngD2, w_tYesD, w_gSubD, w_oNone, w_oSome, w_dSlice, w_dCall, w_dFld, w_sFldD, w_gFldD, w_dCallF, w_dMeth, w_dMake, w_sRaise, w_sRaiseT, w_dExF, w_dExI, kB_ap, w_bind, w_ok, w_exc, w_stuck, w_dFn, kFn_nx, kFn_ret, w_sTry, w_sFor, w_loop_nil, w_loop_cons, w_addI, w_subI, w_ltI, w_leI, w_gtI, w_geI, w_eqI, w_neI, w_eqS, w_neS, w_lenT, w_lenF, w_ixT2, w_ixF2, atI_pos, ixN_nat, Int.reduceToNat, Int.reduceLE, Int.reduceLT, Int.reduceNeg, startD, List.map_cons, List.map_nil, List.length_cons, List.length_nil, List.replicate, List.cons_append, List.nil_append, List.getElem?_cons_zero, List.getElem?_cons_succ, List.set_cons_zero, List.set_cons_succ, Nat.reduceAdd, Nat.reduceSub, Nat.reduceEqDiff, if_true, if_false, Bool.false_eq_true, decide_true, decide_false, Int.reduceEq, Int.reduceAdd, Int.reduceSub, Int.reduceMul, Bool.not_true, Bool.not_false, c_0, c_1, c_2, c_3, c_4, c_5, c_6, c_7, c_8, c_9, c_10, c_11, c_12, sz_0, sz_1, sz_2, sz_3, sz_4, sz_5, sz_6, sz_7, sz_8, sz_9, sz_10, sz_11, sz_12, sz_13, sz_14, sz_15, sz_16]
  refine Wp.then_ (need_beats_ok get_last hb hl) ?_
  rintro r S1 ⟨rfl, g⟩
  have g1 : Grow S S1 := (Grow.one _ _).trans g
  have h1 := g1.get hS
  obtain ⟨rr, er⟩ := range1000
  have hp : ∀ {Q : D → Sto → Prop} {X : Exc → Sto → Prop}, Wp (getF cs_program (Str.ofString "program") (.ref l) S1) Q X = Q (.tup [wt, sayD w, goD 0]) S1 := fun {Q X} => w_getF h1 (by decide) look_program
  have hpl : ∀ {Q : D → Sto → Prop} {X : Exc → Sto → Prop}, Wp (getF cs_place (Str.ofString "place") (.ref l) S1) Q X = Q (.int 0) S1 := fun {Q X} => w_getF h1 (by decide) look_place
  simp only [w_dVar, w_dC, w_dNil, w_dCons, w_dTup, w_dLst, w_d2, w_d2T, w_d3, w_d3T, w_tstB, w_tAndD, w_tOrD, w_tNotD, w_dAnd, w_dOr, w_dNot, w_dIf, w_dNeg, w_sNext, w_sSeq, w_sIf, w_sRet, w_sExpr, w_sAsg, w_gVar, w_sBrk, w_gsNil, w_gsCons, w_gTupD, w_sPar, w_iVal, w_iEnumD, w_iZipD, w_iRngD1, w_iRngD2, w_tYesD, w_gSubD, w_oNone, w_oSome, w_dSlice, w_dCall, w_dFld, w_sFldD, w_gFldD, w_dCallF, w_dMeth, w_dMake, w_sRaise, w_sRaiseT, w_dExF, w_dExI, kB_ap, w_bind, w_ok, w_exc, w_stuck, w_dFn, kFn_nx, kFn_ret, w_sTry, w_sFor, w_loop_nil, w_loop_cons, w_addI, w_subI, w_ltI, w_leI, w_gtI, w_geI, w_eqI, w_neI, w_eqS, w_neS, w_lenT, w_lenF, w_ixT2, w_ixF2, atI_pos, ixN_nat, Int.reduceToNat, Int.reduceLE, Int.reduceLT, Int.reduceNeg, startD, List.map_cons, List.map_nil, List.length_cons, List.length_nil, List.replicate, List.cons_append, List.nil_append, List.getElem?_cons_zero, List.getElem?_cons_succ, List.set_cons_zero, List.set_cons_succ, Nat.reduceAdd, Nat.reduceSub, Nat.reduceEqDiff, if_true, if_false, Bool.false_eq_true, decide_true, decide_false, Int.reduceEq, Int.reduceAdd, Int.reduceSub, Int.reduceMul, Bool.not_true, Bool.not_false, c_0, c_1, c_2, c_3, c_4, c_5, c_6, c_7, c_8, c_9, c_10, c_11, c_12, sz_0, sz_1, sz_2, sz_3, sz_4, sz_5, sz_6, sz_7, sz_8, sz_9, sz_10, sz_11, sz_12, sz_13, sz_14, sz_15, sz_16, hpl, hp]
  try rw [w_ite (by decide)]
  have l1 : List.lookup (Str.ofString "behind") [(Str.ofString "ins", D.int ins), (Str.ofString "program", D.tup [wt, sayD w, goD 0]), (Str.ofString "place", D.int 0)] = none := look_no (by decide +kernel) (by decide +kernel) (by decide +kernel)
  have l2 : List.lookup (Str.ofString "stopped") [(Str.ofString "ins", D.int ins), (Str.ofString "program", D.tup [wt, sayD w, goD 0]), (Str.ofString "place", D.int 0)] = none := look_no (by decide +kernel) (by decide +kernel) (by decide +kernel)
  have b1 := eq_of_wp (behind_say (w := w) (b := b) (S := S1) (l := l))
  have b2 := eq_of_wp (behind_go (b := b) (S := S1) (l := l))
  have b3 := eq_of_wp (stopped_ok h1)
  simp only [w_dVar, w_dC, w_dNil, w_dCons, w_dTup, w_dLst, w_d2, w_d2T, w_d3, w_d3T, w_tstB, w_tAndD, w_tOrD, w_tNotD, w_dAnd, w_dOr, w_dNot, w_dIf, w_dNeg, w_sNext, w_sSeq, w_sIf, w_sRet, w_sExpr, w_sAsg, w_gVar, w_sBrk, w_gsNil, w_gsCons, w_gTupD, w_sPar, w_iVal, w_iEnumD, w_iZipD, w_iRngD1, w_iRngD2, w_tYesD, w_gSubD, w_oNone, w_oSome, w_dSlice, w_dCall, w_dFld, w_sFldD, w_gFldD, w_dCallF, w_dMeth, w_dMake, w_sRaise, w_sRaiseT, w_dExF, w_dExI, kB_ap, w_bind, w_ok, w_exc, w_stuck, w_dFn, kFn_nx, kFn_ret, w_sTry, w_sFor, w_loop_nil, w_loop_cons, w_addI, w_subI, w_ltI, w_leI, w_gtI, w_geI, w_eqI, w_neI, w_eqS, w_neS, w_lenT, w_lenF, w_ixT2, w_ixF2, atI_pos, ixN_nat, Int.reduceToNat, Int.reduceLE, Int.reduceLT, Int.reduceNeg, startD, List.map_cons, List.map_nil, List.length_cons, List.length_nil, List.replicate, List.cons_append, List.nil_append, List.getElem?_cons_zero, List.getElem?_cons_succ, List.set_cons_zero, List.set_cons_succ, Nat.reduceAdd, Nat.reduceSub, Nat.reduceEqDiff, if_true, if_false, Bool.false_eq_true, decide_true, decide_false, Int.reduceEq, Int.reduceAdd, Int.reduceSub, Int.reduceMul, Bool.not_true, Bool.not_false, c_0, c_1, c_2, c_3, c_4, c_5, c_6, c_7, c_8, c_9, c_10, c_11, c_12, sz_0, sz_1, sz_2, sz_3, sz_4, sz_5, sz_6, sz_7, sz_8, sz_9, sz_10, sz_11, sz_12, sz_13, sz_14, sz_15, sz_16, er, hp, ne_wait_say, ne_wait_go, ne_wait_ask, ne_say_wait, ne_say_go, ne_say_ask, ne_go_wait, ne_go_say, ne_go_ask, ne_ask_wait, ne_ask_say, ne_ask_go, nf_ins_program, nf_ins_place, nf_ins_number, nf_program_ins, nf_program_place, nf_program_number, nf_place_ins, nf_place_program, nf_place_number, nf_number_ins, nf_number_program, nf_number_place, h1, l1, l2, and_self, b1, b2, b3]
  exact ⟨trivial, g1⟩
theorem where_ok {ins : Int} {w : Str} {S : Sto} {l : Nat} (hS : S[l]? = some (box ins w)) : F_Processor_where [.ref l] S = .ok (.int 0) S := by
  apply eq_of_wp
  unfold F_Processor_where b_Processor_where
  simp only [w_dVar, w_dC, w_dNil, w_dCons, w_dTup, w_dLst, w_d2, w_d2T, w_d3, w_d3T, w_tstB, w_tAndD, w_tOrD, w_tNotD, w_dAnd, w_dOr, w_dNot, w_dIf, w_dNeg, w_sNext, w_sSeq, w_sIf, w_sRet, w_sExpr, w_sAsg, w_gVar, w_sBrk, w_gsNil, w_gsCons, w_gTupD, w_sPar, w_iVal, w_iEnumD, w_iZipD, w_iRngD1, w_iRngD2, w_tYesD, w_gSubD, w_oNone, w_oSome, w_dSlice, w_dCall, w_dFld, w_sFldD, w_gFldD, w_dCallF, w_dMeth, w_dMake, w_sRaise, w_sRaiseT, w_dExF, w_dExI, kB_ap, w_bind, w_ok, w_exc, w_stuck, w_dFn, kFn_nx, kFn_ret, w_sTry, w_sFor, w_loop_nil, w_loop_cons, w_addI, w_subI, w_ltI, w_leI, w_gtI, w_geI, w_eqI, w_neI, w_eqS, w_neS, w_lenT, w_lenF, w_ixT2, w_ixF2, atI_pos, ixN_nat, Int.reduceToNat, Int.reduceLE, Int.reduceLT, Int.reduceNeg, startD, List.map_cons, List.map_nil, List.length_cons, List.length_nil, List.replicate, List.cons_append, List.nil_append, List.getElem?_cons_zero, List.getElem?_cons_succ, List.set_cons_zero, List.set_cons_succ, Nat.reduceAdd, Nat.reduceSub, Nat.reduceEqDiff, if_true, if_false, Bool.false_eq_true, decide_true, decide_false, Int.reduceEq, Int.reduceAdd, Int.reduceSub, Int.reduceMul, Bool.not_true, Bool.not_false, c_0, c_1, c_2, c_3, c_4, c_5, c_6, c_7, c_8, c_9, c_10, c_11, c_12, sz_0, sz_1, sz_2, sz_3, sz_4, sz_5, sz_6, sz_7, sz_8, sz_9, sz_10, sz_11, sz_12, sz_13, sz_14, sz_15, sz_16]
  rw [w_getF hS (by decide) look_place]
  simp only [w_dVar, w_dC, w_dNil, w_dCons, w_dTup, w_dLst, w_d2, w_d2T, w_d3, w_d3T, w_tstB, w_tAndD, w_tOrD, w_tNotD, w_dAnd, w_dOr, w_dNot, w_dIf, w_dNeg, w_sNext, w_sSeq, w_sIf, w_sRet, w_sExpr, w_sAsg, w_gVar, w_sBrk, w_gsNil, w_gsCons, w_gTupD, w_sPar, w_iVal, w_iEnumD, w_iZipD, w_iRngD1, w_iRngD2, w_tYesD, w_gSubD, w_oNone, w_oSome, w_dSlice, w_dCall, w_dFld, w_sFldD, w_gFldD, w_dCallF, w_dMeth, w_dMake, w_sRaise, w_sRaiseT, w_dExF, w_dExI, kB_ap, w_bind, w_ok, w_exc, w_stuck, w_dFn, kFn_nx, kFn_ret, w_sTry, w_sFor, w_loop_nil, w_loop_cons, w_addI, w_subI, w_ltI, w_leI, w_gtI, w_geI, w_eqI, w_neI, w_eqS, w_neS, w_lenT, w_lenF, w_ixT2, w_ixF2, atI_pos, ixN_nat, Int.reduceToNat, Int.reduceLE, Int.reduceLT, Int.reduceNeg, startD, List.map_cons, List.map_nil, List.length_cons, List.length_nil, List.replicate, List.cons_append, List.nil_append, List.getElem?_cons_zero, List.getElem?_cons_succ, List.set_cons_zero, List.set_cons_succ, Nat.reduceAdd, Nat.reduceSub, Nat.reduceEqDiff, if_true, if_false, Bool.false_eq_true, decide_true, decide_false, Int.reduceEq, Int.reduceAdd, Int.reduceSub, Int.reduceMul, Bool.not_true, Bool.not_false, c_0, c_1, c_2, c_3, c_4, c_5, c_6, c_7, c_8, c_9, c_10, c_11, c_12, sz_0, sz_1, sz_2, sz_3, sz_4, sz_5, sz_6, sz_7, sz_8, sz_9, sz_10, sz_11, sz_12, sz_13, sz_14, sz_15, sz_16]
  trivial
theorem Dr.grow {ns : List Int} {l : Nat} {S S' : Sto} (h : Dr ns l S) (g : Grow S S') : Dr ns l S' := by
  obtain ⟨i, mx, lf, e, hi⟩ := h
  exact ⟨i, mx, lf, g.get e, hi⟩
theorem draw {ns : List Int} {l : Nat} {S : Sto} {many : Int} (h : Dr ns l S) (hm : 0 < many) (hl : many < 1000) :
    Wp (F__law_drawn [.ref l, .int many] S) (fun d S' => ∃ v, d = .int v ∧ 0 ≤ v ∧ v < many ∧ Dr ns l S') (fun _ _ => False) := by
  obtain ⟨i, mx, lf, e, hi⟩ := h
  have hlog : many.natAbs.log2 < 9000 := by
    have h1 : many.natAbs < 2 ^ 10 := by omega
    have h2 : many.natAbs ≠ 0 := by omega
    have := (Nat.log2_lt h2).mpr h1
    omega
  refine Wp.mono (drawn_ok e hi hm hlog) ?_ fun _ _ z => z
  rintro d S' ⟨v, i', mx', lf', rfl, h0, h1, hi', rfl⟩
  exact ⟨v, rfl, h0, h1, i', mx', lf', set_same (List.getElem?_eq_some_iff.mp e).1, hi'⟩
theorem strOk01 {w : Str} (h : W01 w) : PyData.strOk w = true := by
  unfold PyData.strOk
  rw [Array.all_eq_true_iff_forall_mem]
  intro c hc
  rcases h.2 c (by simpa using hc) with rfl | rfl <;> decide
theorem ok_go : PyData.strOk (Str.ofString "go") = true := by decide +kernel
theorem ok_say : PyData.strOk (Str.ofString "say") = true := by decide +kernel
theorem ok_ask : PyData.strOk (Str.ofString "ask") = true := by decide +kernel
theorem ok_wait : PyData.strOk (Str.ofString "wait") = true := by decide +kernel
theorem same_ne {a b c d : PyData} {x : D} {S : Sto} (h : toP S 60 x = some (.tuple (a :: b :: [])) ∨ toP S 60 x = some (.tuple (a :: b :: c :: []))) (hx : ∀ ds, x = .tup ds → True) (hs : ∀ p, toP S 60 x = some p → SeqAt.shaped p = true) (hn : ∃ ds, x = .tup ds) : sameD x wt S = some false := by
  obtain ⟨ds, rfl⟩ := hn
  have e2 : toP S 60 wt = some (.tuple [.str "wait"]) := rfl
  have s2 : SeqAt.shaped (.tuple [.str "wait"]) = true := by simp [SeqAt.shaped, PyData.canLay0, PyData.canLayAll0, PyData.depth, PyData.depthAll, ok_wait]
  rcases h with h | h
  · have s1 := hs _ h
    have e3 : PyData.eqv (.tuple [a, b]) (.tuple [.str "wait"]) = false := by simp [PyData.eqv, PyData.eqvAll]
    simp only [sameD, h, e2, s1, s2, e3, Bool.and_self, if_true]
  · have s1 := hs _ h
    have e3 : PyData.eqv (.tuple [a, b, c]) (.tuple [.str "wait"]) = false := by simp [PyData.eqv, PyData.eqvAll]
    simp only [sameD, h, e2, s1, s2, e3, Bool.and_self, if_true]
theorem same_go {j : Int} {S : Sto} : sameD (goD j) wt S = some false := by
  have e : toP S 60 (goD j) = some (.tuple [.str "go", .int j]) := rfl
  refine same_ne (a := .str "go") (b := .int j) (c := .none) (d := .none) (.inl e) (fun _ _ => trivial) (fun p hp => ?_) ⟨_, rfl⟩
  rw [e] at hp; cases hp
  simp [SeqAt.shaped, PyData.canLay0, PyData.canLayAll0, PyData.depth, PyData.depthAll, ok_go]
theorem same_say {w : Str} {S : Sto} (hw : W01 w) : sameD (sayD w) wt S = some false := by
  have e : toP S 60 (sayD w) = some (.tuple [.str "say", .str w]) := rfl
  refine same_ne (a := .str "say") (b := .str w) (c := .none) (d := .none) (.inl e) (fun _ _ => trivial) (fun p hp => ?_) ⟨_, rfl⟩
  rw [e] at hp; cases hp
  simp [SeqAt.shaped, PyData.canLay0, PyData.canLayAll0, PyData.depth, PyData.depthAll, ok_say, strOk01 hw]
theorem same_ask {i j : Int} {S : Sto} : sameD (.tup [.str "ask", .int i, .int j]) wt S = some false := by
  have e : toP S 60 (.tup [.str "ask", .int i, .int j]) = some (.tuple [.str "ask", .int i, .int j]) := rfl
  refine same_ne (a := .str "ask") (b := .int i) (c := .int j) (d := .none) (.inr e) (fun _ _ => trivial) (fun p hp => ?_) ⟨_, rfl⟩
  rw [e] at hp; cases hp
  simp [SeqAt.shaped, PyData.canLay0, PyData.canLayAll0, PyData.depth, PyData.depthAll, ok_ask]
/-- a sign, told often -/
theorem rep_01 {c : Nat} {n : Int} (hc : c = 48 ∨ c = 49) (h0 : 0 ≤ n) (h1 : n ≤ 10) : W01 (repS ⟨#[c]⟩ n) ∧ (((repS ⟨#[c]⟩ n).length : Nat) : Int) = n := by
  have e : (repS ⟨#[c]⟩ n).cps.toList = List.replicate n.toNat c := by
    unfold repS
    simp
  have el : (repS ⟨#[c]⟩ n).length = n.toNat := by
    unfold Str.length
    rw [← Array.length_toList, e, List.length_replicate]
  refine ⟨⟨by rw [el, sizeLine_eq]; omega, fun x hx => ?_⟩, by rw [el]; omega⟩
  rw [e] at hx
  rw [(List.mem_replicate.mp hx).2]
  exact hc
theorem w_repS {c : Nat} {n : Int} {S : Sto} {Q : D → Sto → Prop} {X : Exc → Sto → Prop} (h0 : 0 ≤ n) (h1 : n ≤ 10) : Wp (mulD (.str ⟨#[c]⟩) (.int n) S) Q X = Q (.str (repS ⟨#[c]⟩ n)) S := by
  have e : (⟨#[c]⟩ : Str).length * n.toNat ≤ sizeLine := by
    have : (⟨#[c]⟩ : Str).length = 1 := rfl
    rw [this, sizeLine_eq]; omega
  simp only [mulD]
  rw [if_pos ⟨by omega, by omega, e⟩]
  rfl
theorem one_is : Str.ofString "1" = ⟨#[49]⟩ := by decide +kernel
theorem nought_is : Str.ofString "0" = ⟨#[48]⟩ := by decide +kernel
theorem cut_mem {ds : List D} {lo hi : Option Int} {d : D} (h : d ∈ cutL ds lo hi) : d ∈ ds := List.mem_of_mem_drop (List.mem_of_mem_take h)
theorem cut_len {ds : List D} {lo hi : Option Int} : (cutL ds lo hi).length ≤ ds.length := by
  unfold cutL
  rw [List.length_take, List.length_drop]
  omega
theorem w_repT {d : D} {n : Int} {S : Sto} {Q : D → Sto → Prop} {X : Exc → Sto → Prop} (h0 : 0 ≤ n) (h1 : n ≤ 10) : Wp (mulD (.tup [d]) (.int n) S) Q X = Q (.tup (List.replicate n.toNat d)) S := by
  have e : (List.replicate n.toNat [d]).flatten = List.replicate n.toNat d := by simp
  have e2 : [d].length * n.toNat ≤ sizeLine := by
    rw [sizeLine_eq]; simp; omega
  simp only [mulD]
  rw [if_pos ⟨by omega, by omega, e2⟩, e]
  rfl
theorem plain1 {ns : List Int} : Wp (F_law [.frl (ns.map .int)] []) (fun d _ => d = .bl true) (fun _ _ => False) := by
  unfold F_law b_law
  simp only [w_dVar, w_dC, w_dNil, w_dCons, w_dTup, w_dLst, w_d2, w_d2T, w_d3, w_d3T, w_tstB, w_tAndD, w_tOrD, w_tNotD, w_dAnd, w_dOr, w_dNot, w_dIf, w_dNeg, w_sNext, w_sSeq, w_sIf, w_sRet, w_sExpr, w_sAsg, w_gVar, w_sBrk, w_gsNil, w_gsCons, w_gTupD, w_sPar, w_iVal, w_iEnumD, w_iZipD, w_iRngD1, w_iRngD2, w_tYesD, w_gSubD, w_oNone, w_oSome, w_dSlice, w_dCall, w_dFld, w_sFldD, w_gFldD, w_dCallF, w_dMeth, w_dMake, w_sRaise, w_sRaiseT, w_dExF, w_dExI, kB_ap, w_bind, w_ok, w_exc, w_stuck, w_dFn, kFn_nx, kFn_ret, w_sTry, w_sFor, w_loop_nil, w_loop_cons, w_addI, w_subI, w_ltI, w_leI, w_gtI, w_geI, w_eqI, w_neI, w_eqS, w_neS, w_lenT, w_lenF, w_ixT2, w_ixF2, atI_pos, ixN_nat, Int.reduceToNat, Int.reduceLE, Int.reduceLT, Int.reduceNeg, startD, List.map_cons, List.map_nil, List.length_cons, List.length_nil, List.replicate, List.cons_append, List.nil_append, List.getElem?_cons_zero, List.getElem?_cons_succ, List.set_cons_zero, List.set_cons_succ, Nat.reduceAdd, Nat.reduceSub, Nat.reduceEqDiff, if_true, if_false, Bool.false_eq_true, decide_true, decide_false, Int.reduceEq, Int.reduceAdd, Int.reduceSub, Int.reduceMul, Bool.not_true, Bool.not_false, c_0, c_1, c_2, c_3, c_4, c_5, c_6, c_7, c_8, c_9, c_10, c_11, c_12, sz_0, sz_1, sz_2, sz_3, sz_4, sz_5, sz_6, sz_7, sz_8, sz_9, sz_10, sz_11, sz_12, sz_13, sz_14, sz_15, sz_16]
  refine Wp.then_ start_ok ?_
  rintro _ S1 ⟨mx, rfl, rfl⟩
  simp only [w_dVar, w_dC, w_dNil, w_dCons, w_dTup, w_dLst, w_d2, w_d2T, w_d3, w_d3T, w_tstB, w_tAndD, w_tOrD, w_tNotD, w_dAnd, w_dOr, w_dNot, w_dIf, w_dNeg, w_sNext, w_sSeq, w_sIf, w_sRet, w_sExpr, w_sAsg, w_gVar, w_sBrk, w_gsNil, w_gsCons, w_gTupD, w_sPar, w_iVal, w_iEnumD, w_iZipD, w_iRngD1, w_iRngD2, w_tYesD, w_gSubD, w_oNone, w_oSome, w_dSlice, w_dCall, w_dFld, w_sFldD, w_gFldD, w_dCallF, w_dMeth, w_dMake, w_sRaise, w_sRaiseT, w_dExF, w_dExI, kB_ap, w_bind, w_ok, w_exc, w_stuck, w_dFn, kFn_nx, kFn_ret, w_sTry, w_sFor, w_loop_nil, w_loop_cons, w_addI, w_subI, w_ltI, w_leI, w_gtI, w_geI, w_eqI, w_neI, w_eqS, w_neS, w_lenT, w_lenF, w_ixT2, w_ixF2, atI_pos, ixN_nat, Int.reduceToNat, Int.reduceLE, Int.reduceLT, Int.reduceNeg, startD, List.map_cons, List.map_nil, List.length_cons, List.length_nil, List.replicate, List.cons_append, List.nil_append, List.getElem?_cons_zero, List.getElem?_cons_succ, List.set_cons_zero, List.set_cons_succ, Nat.reduceAdd, Nat.reduceSub, Nat.reduceEqDiff, if_true, if_false, Bool.false_eq_true, decide_true, decide_false, Int.reduceEq, Int.reduceAdd, Int.reduceSub, Int.reduceMul, Bool.not_true, Bool.not_false, c_0, c_1, c_2, c_3, c_4, c_5, c_6, c_7, c_8, c_9, c_10, c_11, c_12, sz_0, sz_1, sz_2, sz_3, sz_4, sz_5, sz_6, sz_7, sz_8, sz_9, sz_10, sz_11, sz_12, sz_13, sz_14, sz_15, sz_16]
  try rw [w_ite (by decide)]
  simp only [w_dVar, w_dC, w_dNil, w_dCons, w_dTup, w_dLst, w_d2, w_d2T, w_d3, w_d3T, w_tstB, w_tAndD, w_tOrD, w_tNotD, w_dAnd, w_dOr, w_dNot, w_dIf, w_dNeg, w_sNext, w_sSeq, w_sIf, w_sRet, w_sExpr, w_sAsg, w_gVar, w_sBrk, w_gsNil, w_gsCons, w_gTupD, w_sPar, w_iVal, w_iEnumD, w_iZipD, w_iRngD1, w_iRngD2, w_tYesD, w_gSubD, w_oNone, w_oSome, w_dSlice, w_dCall, w_dFld, w_sFldD, w_gFldD, w_dCallF, w_dMeth, w_dMake, w_sRaise, w_sRaiseT, w_dExF, w_dExI, kB_ap, w_bind, w_ok, w_exc, w_stuck, w_dFn, kFn_nx, kFn_ret, w_sTry, w_sFor, w_loop_nil, w_loop_cons, w_addI, w_subI, w_ltI, w_leI, w_gtI, w_geI, w_eqI, w_neI, w_eqS, w_neS, w_lenT, w_lenF, w_ixT2, w_ixF2, atI_pos, ixN_nat, Int.reduceToNat, Int.reduceLE, Int.reduceLT, Int.reduceNeg, startD, List.map_cons, List.map_nil, List.length_cons, List.length_nil, List.replicate, List.cons_append, List.nil_append, List.getElem?_cons_zero, List.getElem?_cons_succ, List.set_cons_zero, List.set_cons_succ, Nat.reduceAdd, Nat.reduceSub, Nat.reduceEqDiff, if_true, if_false, Bool.false_eq_true, decide_true, decide_false, Int.reduceEq, Int.reduceAdd, Int.reduceSub, Int.reduceMul, Bool.not_true, Bool.not_false, c_0, c_1, c_2, c_3, c_4, c_5, c_6, c_7, c_8, c_9, c_10, c_11, c_12, sz_0, sz_1, sz_2, sz_3, sz_4, sz_5, sz_6, sz_7, sz_8, sz_9, sz_10, sz_11, sz_12, sz_13, sz_14, sz_15, sz_16]
  refine w_loop (fun _ sd S' => Dr ns 0 S' ∧ ∃ a2 a3 a4 a5 a6 a7 a8 a9, sd = [some (.frl (ns.map .int)), some (.ref 0), a2, a3, a4, a5, a6, a7, a8, a9]) (fun _ _ _ _ => rfl) ?_ ?_ _ _ _ ⟨⟨0, mx, 0, rfl, by decide⟩, none, none, none, none, none, none, none, none, rfl⟩
  · rintro sd S' ⟨_, a2, a3, a4, a5, a6, a7, a8, a9, rfl⟩
    simp only [w_dVar, w_dC, w_dNil, w_dCons, w_dTup, w_dLst, w_d2, w_d2T, w_d3, w_d3T, w_tstB, w_tAndD, w_tOrD, w_tNotD, w_dAnd, w_dOr, w_dNot, w_dIf, w_dNeg, w_sNext, w_sSeq, w_sIf, w_sRet, w_sExpr, w_sAsg, w_gVar, w_sBrk, w_gsNil, w_gsCons, w_gTupD, w_sPar, w_iVal, w_iEnumD, w_iZipD, w_iRngD1, w_iRngD2, w_tYesD, w_gSubD, w_oNone, w_oSome, w_dSlice, w_dCall, w_dFld, w_sFldD, w_gFldD, w_dCallF, w_dMeth, w_dMake, w_sRaise, w_sRaiseT, w_dExF, w_dExI, kB_ap, w_bind, w_ok, w_exc, w_stuck, w_dFn, kFn_nx, kFn_ret, w_sTry, w_sFor, w_loop_nil, w_loop_cons, w_addI, w_subI, w_ltI, w_leI, w_gtI, w_geI, w_eqI, w_neI, w_eqS, w_neS, w_lenT, w_lenF, w_ixT2, w_ixF2, atI_pos, ixN_nat, Int.reduceToNat, Int.reduceLE, Int.reduceLT, Int.reduceNeg, startD, List.map_cons, List.map_nil, List.length_cons, List.length_nil, List.replicate, List.cons_append, List.nil_append, List.getElem?_cons_zero, List.getElem?_cons_succ, List.set_cons_zero, List.set_cons_succ, Nat.reduceAdd, Nat.reduceSub, Nat.reduceEqDiff, if_true, if_false, Bool.false_eq_true, decide_true, decide_false, Int.reduceEq, Int.reduceAdd, Int.reduceSub, Int.reduceMul, Bool.not_true, Bool.not_false, c_0, c_1, c_2, c_3, c_4, c_5, c_6, c_7, c_8, c_9, c_10, c_11, c_12, sz_0, sz_1, sz_2, sz_3, sz_4, sz_5, sz_6, sz_7, sz_8, sz_9, sz_10, sz_11, sz_12, sz_13, sz_14, sz_15, sz_16]
  · rintro x xs sd S' ⟨h, a2, a3, a4, a5, a6, a7, a8, a9, rfl⟩
    simp only [w_dVar, w_dC, w_dNil, w_dCons, w_dTup, w_dLst, w_d2, w_d2T, w_d3, w_d3T, w_tstB, w_tAndD, w_tOrD, w_tNotD, w_dAnd, w_dOr, w_dNot, w_dIf, w_dNeg, w_sNext, w_sSeq, w_sIf, w_sRet, w_sExpr, w_sAsg, w_gVar, w_sBrk, w_gsNil, w_gsCons, w_gTupD, w_sPar, w_iVal, w_iEnumD, w_iZipD, w_iRngD1, w_iRngD2, w_tYesD, w_gSubD, w_oNone, w_oSome, w_dSlice, w_dCall, w_dFld, w_sFldD, w_gFldD, w_dCallF, w_dMeth, w_dMake, w_sRaise, w_sRaiseT, w_dExF, w_dExI, kB_ap, w_bind, w_ok, w_exc, w_stuck, w_dFn, kFn_nx, kFn_ret, w_sTry, w_sFor, w_loop_nil, w_loop_cons, w_addI, w_subI, w_ltI, w_leI, w_gtI, w_geI, w_eqI, w_neI, w_eqS, w_neS, w_lenT, w_lenF, w_ixT2, w_ixF2, atI_pos, ixN_nat, Int.reduceToNat, Int.reduceLE, Int.reduceLT, Int.reduceNeg, startD, List.map_cons, List.map_nil, List.length_cons, List.length_nil, List.replicate, List.cons_append, List.nil_append, List.getElem?_cons_zero, List.getElem?_cons_succ, List.set_cons_zero, List.set_cons_succ, Nat.reduceAdd, Nat.reduceSub, Nat.reduceEqDiff, if_true, if_false, Bool.false_eq_true, decide_true, decide_false, Int.reduceEq, Int.reduceAdd, Int.reduceSub, Int.reduceMul, Bool.not_true, Bool.not_false, c_0, c_1, c_2, c_3, c_4, c_5, c_6, c_7, c_8, c_9, c_10, c_11, c_12, sz_0, sz_1, sz_2, sz_3, sz_4, sz_5, sz_6, sz_7, sz_8, sz_9, sz_10, sz_11, sz_12, sz_13, sz_14, sz_15, sz_16]
    refine Wp.then_ (draw h (by decide) (by decide)) ?_
    rintro _ S1 ⟨ins, rfl, i0, i1, h⟩
    simp only [w_dVar, w_dC, w_dNil, w_dCons, w_dTup, w_dLst, w_d2, w_d2T, w_d3, w_d3T, w_tstB, w_tAndD, w_tOrD, w_tNotD, w_dAnd, w_dOr, w_dNot, w_dIf, w_dNeg, w_sNext, w_sSeq, w_sIf, w_sRet, w_sExpr, w_sAsg, w_gVar, w_sBrk, w_gsNil, w_gsCons, w_gTupD, w_sPar, w_iVal, w_iEnumD, w_iZipD, w_iRngD1, w_iRngD2, w_tYesD, w_gSubD, w_oNone, w_oSome, w_dSlice, w_dCall, w_dFld, w_sFldD, w_gFldD, w_dCallF, w_dMeth, w_dMake, w_sRaise, w_sRaiseT, w_dExF, w_dExI, kB_ap, w_bind, w_ok, w_exc, w_stuck, w_dFn, kFn_nx, kFn_ret, w_sTry, w_sFor, w_loop_nil, w_loop_cons, w_addI, w_subI, w_ltI, w_leI, w_gtI, w_geI, w_eqI, w_neI, w_eqS, w_neS, w_lenT, w_lenF, w_ixT2, w_ixF2, atI_pos, ixN_nat, Int.reduceToNat, Int.reduceLE, Int.reduceLT, Int.reduceNeg, startD, List.map_cons, List.map_nil, List.length_cons, List.length_nil, List.replicate, List.cons_append, List.nil_append, List.getElem?_cons_zero, List.getElem?_cons_succ, List.set_cons_zero, List.set_cons_succ, Nat.reduceAdd, Nat.reduceSub, Nat.reduceEqDiff, if_true, if_false, Bool.false_eq_true, decide_true, decide_false, Int.reduceEq, Int.reduceAdd, Int.reduceSub, Int.reduceMul, Bool.not_true, Bool.not_false, c_0, c_1, c_2, c_3, c_4, c_5, c_6, c_7, c_8, c_9, c_10, c_11, c_12, sz_0, sz_1, sz_2, sz_3, sz_4, sz_5, sz_6, sz_7, sz_8, sz_9, sz_10, sz_11, sz_12, sz_13, sz_14, sz_15, sz_16]
    refine Wp.then_ (draw h (by decide) (by decide)) ?_
    rintro _ S2 ⟨outs, rfl, o0, o1, h⟩
    simp only [w_dVar, w_dC, w_dNil, w_dCons, w_dTup, w_dLst, w_d2, w_d2T, w_d3, w_d3T, w_tstB, w_tAndD, w_tOrD, w_tNotD, w_dAnd, w_dOr, w_dNot, w_dIf, w_dNeg, w_sNext, w_sSeq, w_sIf, w_sRet, w_sExpr, w_sAsg, w_gVar, w_sBrk, w_gsNil, w_gsCons, w_gTupD, w_sPar, w_iVal, w_iEnumD, w_iZipD, w_iRngD1, w_iRngD2, w_tYesD, w_gSubD, w_oNone, w_oSome, w_dSlice, w_dCall, w_dFld, w_sFldD, w_gFldD, w_dCallF, w_dMeth, w_dMake, w_sRaise, w_sRaiseT, w_dExF, w_dExI, kB_ap, w_bind, w_ok, w_exc, w_stuck, w_dFn, kFn_nx, kFn_ret, w_sTry, w_sFor, w_loop_nil, w_loop_cons, w_addI, w_subI, w_ltI, w_leI, w_gtI, w_geI, w_eqI, w_neI, w_eqS, w_neS, w_lenT, w_lenF, w_ixT2, w_ixF2, atI_pos, ixN_nat, Int.reduceToNat, Int.reduceLE, Int.reduceLT, Int.reduceNeg, startD, List.map_cons, List.map_nil, List.length_cons, List.length_nil, List.replicate, List.cons_append, List.nil_append, List.getElem?_cons_zero, List.getElem?_cons_succ, List.set_cons_zero, List.set_cons_succ, Nat.reduceAdd, Nat.reduceSub, Nat.reduceEqDiff, if_true, if_false, Bool.false_eq_true, decide_true, decide_false, Int.reduceEq, Int.reduceAdd, Int.reduceSub, Int.reduceMul, Bool.not_true, Bool.not_false, c_0, c_1, c_2, c_3, c_4, c_5, c_6, c_7, c_8, c_9, c_10, c_11, c_12, sz_0, sz_1, sz_2, sz_3, sz_4, sz_5, sz_6, sz_7, sz_8, sz_9, sz_10, sz_11, sz_12, sz_13, sz_14, sz_15, sz_16]
    refine Wp.then_ (draw h (by decide) (by decide)) ?_
    rintro _ S3 ⟨sg, rfl, s0, s1, h⟩
    simp only [w_dVar, w_dC, w_dNil, w_dCons, w_dTup, w_dLst, w_d2, w_d2T, w_d3, w_d3T, w_tstB, w_tAndD, w_tOrD, w_tNotD, w_dAnd, w_dOr, w_dNot, w_dIf, w_dNeg, w_sNext, w_sSeq, w_sIf, w_sRet, w_sExpr, w_sAsg, w_gVar, w_sBrk, w_gsNil, w_gsCons, w_gTupD, w_sPar, w_iVal, w_iEnumD, w_iZipD, w_iRngD1, w_iRngD2, w_tYesD, w_gSubD, w_oNone, w_oSome, w_dSlice, w_dCall, w_dFld, w_sFldD, w_gFldD, w_dCallF, w_dMeth, w_dMake, w_sRaise, w_sRaiseT, w_dExF, w_dExI, kB_ap, w_bind, w_ok, w_exc, w_stuck, w_dFn, kFn_nx, kFn_ret, w_sTry, w_sFor, w_loop_nil, w_loop_cons, w_addI, w_subI, w_ltI, w_leI, w_gtI, w_geI, w_eqI, w_neI, w_eqS, w_neS, w_lenT, w_lenF, w_ixT2, w_ixF2, atI_pos, ixN_nat, Int.reduceToNat, Int.reduceLE, Int.reduceLT, Int.reduceNeg, startD, List.map_cons, List.map_nil, List.length_cons, List.length_nil, List.replicate, List.cons_append, List.nil_append, List.getElem?_cons_zero, List.getElem?_cons_succ, List.set_cons_zero, List.set_cons_succ, Nat.reduceAdd, Nat.reduceSub, Nat.reduceEqDiff, if_true, if_false, Bool.false_eq_true, decide_true, decide_false, Int.reduceEq, Int.reduceAdd, Int.reduceSub, Int.reduceMul, Bool.not_true, Bool.not_false, c_0, c_1, c_2, c_3, c_4, c_5, c_6, c_7, c_8, c_9, c_10, c_11, c_12, sz_0, sz_1, sz_2, sz_3, sz_4, sz_5, sz_6, sz_7, sz_8, sz_9, sz_10, sz_11, sz_12, sz_13, sz_14, sz_15, sz_16]
    obtain ⟨c, hc, hc2⟩ : ∃ c, atI (Str.ofString "01").cps.toList sg = some c ∧ (c = 48 ∨ c = 49) := by
      rw [s01]
      have : sg = 0 ∨ sg = 1 := by omega
      rcases this with rfl | rfl
      · exact ⟨48, rfl, .inl rfl⟩
      · exact ⟨49, rfl, .inr rfl⟩
    rw [w_ixS (by rw [sizeLine_eq]; decide +kernel) hc]
    simp only [w_dVar, w_dC, w_dNil, w_dCons, w_dTup, w_dLst, w_d2, w_d2T, w_d3, w_d3T, w_tstB, w_tAndD, w_tOrD, w_tNotD, w_dAnd, w_dOr, w_dNot, w_dIf, w_dNeg, w_sNext, w_sSeq, w_sIf, w_sRet, w_sExpr, w_sAsg, w_gVar, w_sBrk, w_gsNil, w_gsCons, w_gTupD, w_sPar, w_iVal, w_iEnumD, w_iZipD, w_iRngD1, w_iRngD2, w_tYesD, w_gSubD, w_oNone, w_oSome, w_dSlice, w_dCall, w_dFld, w_sFldD, w_gFldD, w_dCallF, w_dMeth, w_dMake, w_sRaise, w_sRaiseT, w_dExF, w_dExI, kB_ap, w_bind, w_ok, w_exc, w_stuck, w_dFn, kFn_nx, kFn_ret, w_sTry, w_sFor, w_loop_nil, w_loop_cons, w_addI, w_subI, w_ltI, w_leI, w_gtI, w_geI, w_eqI, w_neI, w_eqS, w_neS, w_lenT, w_lenF, w_ixT2, w_ixF2, atI_pos, ixN_nat, Int.reduceToNat, Int.reduceLE, Int.reduceLT, Int.reduceNeg, startD, List.map_cons, List.map_nil, List.length_cons, List.length_nil, List.replicate, List.cons_append, List.nil_append, List.getElem?_cons_zero, List.getElem?_cons_succ, List.set_cons_zero, List.set_cons_succ, Nat.reduceAdd, Nat.reduceSub, Nat.reduceEqDiff, if_true, if_false, Bool.false_eq_true, decide_true, decide_false, Int.reduceEq, Int.reduceAdd, Int.reduceSub, Int.reduceMul, Bool.not_true, Bool.not_false, c_0, c_1, c_2, c_3, c_4, c_5, c_6, c_7, c_8, c_9, c_10, c_11, c_12, sz_0, sz_1, sz_2, sz_3, sz_4, sz_5, sz_6, sz_7, sz_8, sz_9, sz_10, sz_11, sz_12, sz_13, sz_14, sz_15, sz_16]
    rw [w_repS (by omega) (by omega)]
    obtain ⟨hw, hwl⟩ := rep_01 (c := c) (n := 1 + outs) hc2 (by omega) (by omega)
    generalize repS ⟨#[c]⟩ (1 + outs) = w at hw hwl
    simp only [w_dVar, w_dC, w_dNil, w_dCons, w_dTup, w_dLst, w_d2, w_d2T, w_d3, w_d3T, w_tstB, w_tAndD, w_tOrD, w_tNotD, w_dAnd, w_dOr, w_dNot, w_dIf, w_dNeg, w_sNext, w_sSeq, w_sIf, w_sRet, w_sExpr, w_sAsg, w_gVar, w_sBrk, w_gsNil, w_gsCons, w_gTupD, w_sPar, w_iVal, w_iEnumD, w_iZipD, w_iRngD1, w_iRngD2, w_tYesD, w_gSubD, w_oNone, w_oSome, w_dSlice, w_dCall, w_dFld, w_sFldD, w_gFldD, w_dCallF, w_dMeth, w_dMake, w_sRaise, w_sRaiseT, w_dExF, w_dExI, kB_ap, w_bind, w_ok, w_exc, w_stuck, w_dFn, kFn_nx, kFn_ret, w_sTry, w_sFor, w_loop_nil, w_loop_cons, w_addI, w_subI, w_ltI, w_leI, w_gtI, w_geI, w_eqI, w_neI, w_eqS, w_neS, w_lenT, w_lenF, w_ixT2, w_ixF2, atI_pos, ixN_nat, Int.reduceToNat, Int.reduceLE, Int.reduceLT, Int.reduceNeg, startD, List.map_cons, List.map_nil, List.length_cons, List.length_nil, List.replicate, List.cons_append, List.nil_append, List.getElem?_cons_zero, List.getElem?_cons_succ, List.set_cons_zero, List.set_cons_succ, Nat.reduceAdd, Nat.reduceSub, Nat.reduceEqDiff, if_true, if_false, Bool.false_eq_true, decide_true, decide_false, Int.reduceEq, Int.reduceAdd, Int.reduceSub, Int.reduceMul, Bool.not_true, Bool.not_false, c_0, c_1, c_2, c_3, c_4, c_5, c_6, c_7, c_8, c_9, c_10, c_11, c_12, sz_0, sz_1, sz_2, sz_3, sz_4, sz_5, sz_6, sz_7, sz_8, sz_9, sz_10, sz_11, sz_12, sz_13, sz_14, sz_15, sz_16]
    refine Wp.then_ (draw h (by decide) (by decide)) ?_
    rintro _ S4 ⟨kk, rfl, k0, k1, h⟩
    simp only [w_dVar, w_dC, w_dNil, w_dCons, w_dTup, w_dLst, w_d2, w_d2T, w_d3, w_d3T, w_tstB, w_tAndD, w_tOrD, w_tNotD, w_dAnd, w_dOr, w_dNot, w_dIf, w_dNeg, w_sNext, w_sSeq, w_sIf, w_sRet, w_sExpr, w_sAsg, w_gVar, w_sBrk, w_gsNil, w_gsCons, w_gTupD, w_sPar, w_iVal, w_iEnumD, w_iZipD, w_iRngD1, w_iRngD2, w_tYesD, w_gSubD, w_oNone, w_oSome, w_dSlice, w_dCall, w_dFld, w_sFldD, w_gFldD, w_dCallF, w_dMeth, w_dMake, w_sRaise, w_sRaiseT, w_dExF, w_dExI, kB_ap, w_bind, w_ok, w_exc, w_stuck, w_dFn, kFn_nx, kFn_ret, w_sTry, w_sFor, w_loop_nil, w_loop_cons, w_addI, w_subI, w_ltI, w_leI, w_gtI, w_geI, w_eqI, w_neI, w_eqS, w_neS, w_lenT, w_lenF, w_ixT2, w_ixF2, atI_pos, ixN_nat, Int.reduceToNat, Int.reduceLE, Int.reduceLT, Int.reduceNeg, startD, List.map_cons, List.map_nil, List.length_cons, List.length_nil, List.replicate, List.cons_append, List.nil_append, List.getElem?_cons_zero, List.getElem?_cons_succ, List.set_cons_zero, List.set_cons_succ, Nat.reduceAdd, Nat.reduceSub, Nat.reduceEqDiff, if_true, if_false, Bool.false_eq_true, decide_true, decide_false, Int.reduceEq, Int.reduceAdd, Int.reduceSub, Int.reduceMul, Bool.not_true, Bool.not_false, c_0, c_1, c_2, c_3, c_4, c_5, c_6, c_7, c_8, c_9, c_10, c_11, c_12, sz_0, sz_1, sz_2, sz_3, sz_4, sz_5, sz_6, sz_7, sz_8, sz_9, sz_10, sz_11, sz_12, sz_13, sz_14, sz_15, sz_16, sliceD]
    refine Wp.then_ (draw h (by decide) (by decide)) ?_
    rintro _ S5 ⟨nn, rfl, n0, n1, h⟩
    simp only [w_dVar, w_dC, w_dNil, w_dCons, w_dTup, w_dLst, w_d2, w_d2T, w_d3, w_d3T, w_tstB, w_tAndD, w_tOrD, w_tNotD, w_dAnd, w_dOr, w_dNot, w_dIf, w_dNeg, w_sNext, w_sSeq, w_sIf, w_sRet, w_sExpr, w_sAsg, w_gVar, w_sBrk, w_gsNil, w_gsCons, w_gTupD, w_sPar, w_iVal, w_iEnumD, w_iZipD, w_iRngD1, w_iRngD2, w_tYesD, w_gSubD, w_oNone, w_oSome, w_dSlice, w_dCall, w_dFld, w_sFldD, w_gFldD, w_dCallF, w_dMeth, w_dMake, w_sRaise, w_sRaiseT, w_dExF, w_dExI, kB_ap, w_bind, w_ok, w_exc, w_stuck, w_dFn, kFn_nx, kFn_ret, w_sTry, w_sFor, w_loop_nil, w_loop_cons, w_addI, w_subI, w_ltI, w_leI, w_gtI, w_geI, w_eqI, w_neI, w_eqS, w_neS, w_lenT, w_lenF, w_ixT2, w_ixF2, atI_pos, ixN_nat, Int.reduceToNat, Int.reduceLE, Int.reduceLT, Int.reduceNeg, startD, List.map_cons, List.map_nil, List.length_cons, List.length_nil, List.replicate, List.cons_append, List.nil_append, List.getElem?_cons_zero, List.getElem?_cons_succ, List.set_cons_zero, List.set_cons_succ, Nat.reduceAdd, Nat.reduceSub, Nat.reduceEqDiff, if_true, if_false, Bool.false_eq_true, decide_true, decide_false, Int.reduceEq, Int.reduceAdd, Int.reduceSub, Int.reduceMul, Bool.not_true, Bool.not_false, c_0, c_1, c_2, c_3, c_4, c_5, c_6, c_7, c_8, c_9, c_10, c_11, c_12, sz_0, sz_1, sz_2, sz_3, sz_4, sz_5, sz_6, sz_7, sz_8, sz_9, sz_10, sz_11, sz_12, sz_13, sz_14, sz_15, sz_16]
    rw [w_repT (by omega) (by omega)]
    simp only [w_dVar, w_dC, w_dNil, w_dCons, w_dTup, w_dLst, w_d2, w_d2T, w_d3, w_d3T, w_tstB, w_tAndD, w_tOrD, w_tNotD, w_dAnd, w_dOr, w_dNot, w_dIf, w_dNeg, w_sNext, w_sSeq, w_sIf, w_sRet, w_sExpr, w_sAsg, w_gVar, w_sBrk, w_gsNil, w_gsCons, w_gTupD, w_sPar, w_iVal, w_iEnumD, w_iZipD, w_iRngD1, w_iRngD2, w_tYesD, w_gSubD, w_oNone, w_oSome, w_dSlice, w_dCall, w_dFld, w_sFldD, w_gFldD, w_dCallF, w_dMeth, w_dMake, w_sRaise, w_sRaiseT, w_dExF, w_dExI, kB_ap, w_bind, w_ok, w_exc, w_stuck, w_dFn, kFn_nx, kFn_ret, w_sTry, w_sFor, w_loop_nil, w_loop_cons, w_addI, w_subI, w_ltI, w_leI, w_gtI, w_geI, w_eqI, w_neI, w_eqS, w_neS, w_lenT, w_lenF, w_ixT2, w_ixF2, atI_pos, ixN_nat, Int.reduceToNat, Int.reduceLE, Int.reduceLT, Int.reduceNeg, startD, List.map_cons, List.map_nil, List.length_cons, List.length_nil, List.replicate, List.cons_append, List.nil_append, List.getElem?_cons_zero, List.getElem?_cons_succ, List.set_cons_zero, List.set_cons_succ, Nat.reduceAdd, Nat.reduceSub, Nat.reduceEqDiff, if_true, if_false, Bool.false_eq_true, decide_true, decide_false, Int.reduceEq, Int.reduceAdd, Int.reduceSub, Int.reduceMul, Bool.not_true, Bool.not_false, c_0, c_1, c_2, c_3, c_4, c_5, c_6, c_7, c_8, c_9, c_10, c_11, c_12, sz_0, sz_1, sz_2, sz_3, sz_4, sz_5, sz_6, sz_7, sz_8, sz_9, sz_10, sz_11, sz_12, sz_13, sz_14, sz_15, sz_16]
    have hl1 := @cut_len [sayD w, wt, goD 0] none (some kk)
    have hrl : (cutL [sayD w, wt, goD 0] none (some kk) ++ List.replicate nn.toNat wt).length ≤ 7 := by
      rw [List.length_append, List.length_replicate]
      simp at hl1
      omega
    have hle : (cutL [sayD w, wt, goD 0] none (some kk)).length + (List.replicate nn.toNat wt).length ≤ sizeLine := by
      rw [← List.length_append, sizeLine_eq]
      exact Nat.le_trans hrl (by decide)
    rw [w_addT (a := cutL [sayD w, wt, goD 0] none (some kk)) (b := List.replicate nn.toNat wt) hle]
    have hr : ∀ d ∈ cutL [sayD w, wt, goD 0] none (some kk) ++ List.replicate nn.toNat wt, d = sayD w ∨ d = wt ∨ d = goD 0 := by
      intro d hd
      rcases List.mem_append.mp hd with hd | hd
      · have := cut_mem hd
        simpa using this
      · exact .inr (.inl (List.mem_replicate.mp hd).2)
    generalize cutL [sayD w, wt, goD 0] none (some kk) ++ List.replicate nn.toNat wt = rs at hrl hr
    simp only [w_dVar, w_dC, w_dNil, w_dCons, w_dTup, w_dLst, w_d2, w_d2T, w_d3, w_d3T, w_tstB, w_tAndD, w_tOrD, w_tNotD, w_dAnd, w_dOr, w_dNot, w_dIf, w_dNeg, w_sNext, w_sSeq, w_sIf, w_sRet, w_sExpr, w_sAsg, w_gVar, w_sBrk, w_gsNil, w_gsCons, w_gTupD, w_sPar, w_iVal, w_iEnumD, w_iZipD, w_iRngD1, w_iRngD2, w_tYesD, w_gSubD, w_oNone, w_oSome, w_dSlice, w_dCall, w_dFld, w_sFldD, w_gFldD, w_dCallF, w_dMeth, w_dMake, w_sRaise, w_sRaiseT, w_dExF, w_dExI, kB_ap, w_bind, w_ok, w_exc, w_stuck, w_dFn, kFn_nx, kFn_ret, w_sTry, w_sFor, w_loop_nil, w_loop_cons, w_addI, w_subI, w_ltI, w_leI, w_gtI, w_geI, w_eqI, w_neI, w_eqS, w_neS, w_lenT, w_lenF, w_ixT2, w_ixF2, atI_pos, ixN_nat, Int.reduceToNat, Int.reduceLE, Int.reduceLT, Int.reduceNeg, startD, List.map_cons, List.map_nil, List.length_cons, List.length_nil, List.replicate, List.cons_append, List.nil_append, List.getElem?_cons_zero, List.getElem?_cons_succ, List.set_cons_zero, List.set_cons_succ, Nat.reduceAdd, Nat.reduceSub, Nat.reduceEqDiff, if_true, if_false, Bool.false_eq_true, decide_true, decide_false, Int.reduceEq, Int.reduceAdd, Int.reduceSub, Int.reduceMul, Bool.not_true, Bool.not_false, c_0, c_1, c_2, c_3, c_4, c_5, c_6, c_7, c_8, c_9, c_10, c_11, c_12, sz_0, sz_1, sz_2, sz_3, sz_4, sz_5, sz_6, sz_7, sz_8, sz_9, sz_10, sz_11, sz_12, sz_13, sz_14, sz_15, sz_16]
    have hI : 1 ≤ 1 + ins ∧ 1 + ins ≤ 4 := by omega
    have hO : 1 ≤ 1 + outs ∧ 1 + outs ≤ 3 := by omega
    refine Wp.then_ (draw h (by omega) (by omega)) ?_
    rintro _ S6 ⟨jj, rfl, j0, j1, h⟩
    simp only [w_dVar, w_dC, w_dNil, w_dCons, w_dTup, w_dLst, w_d2, w_d2T, w_d3, w_d3T, w_tstB, w_tAndD, w_tOrD, w_tNotD, w_dAnd, w_dOr, w_dNot, w_dIf, w_dNeg, w_sNext, w_sSeq, w_sIf, w_sRet, w_sExpr, w_sAsg, w_gVar, w_sBrk, w_gsNil, w_gsCons, w_gTupD, w_sPar, w_iVal, w_iEnumD, w_iZipD, w_iRngD1, w_iRngD2, w_tYesD, w_gSubD, w_oNone, w_oSome, w_dSlice, w_dCall, w_dFld, w_sFldD, w_gFldD, w_dCallF, w_dMeth, w_dMake, w_sRaise, w_sRaiseT, w_dExF, w_dExI, kB_ap, w_bind, w_ok, w_exc, w_stuck, w_dFn, kFn_nx, kFn_ret, w_sTry, w_sFor, w_loop_nil, w_loop_cons, w_addI, w_subI, w_ltI, w_leI, w_gtI, w_geI, w_eqI, w_neI, w_eqS, w_neS, w_lenT, w_lenF, w_ixT2, w_ixF2, atI_pos, ixN_nat, Int.reduceToNat, Int.reduceLE, Int.reduceLT, Int.reduceNeg, startD, List.map_cons, List.map_nil, List.length_cons, List.length_nil, List.replicate, List.cons_append, List.nil_append, List.getElem?_cons_zero, List.getElem?_cons_succ, List.set_cons_zero, List.set_cons_succ, Nat.reduceAdd, Nat.reduceSub, Nat.reduceEqDiff, if_true, if_false, Bool.false_eq_true, decide_true, decide_false, Int.reduceEq, Int.reduceAdd, Int.reduceSub, Int.reduceMul, Bool.not_true, Bool.not_false, c_0, c_1, c_2, c_3, c_4, c_5, c_6, c_7, c_8, c_9, c_10, c_11, c_12, sz_0, sz_1, sz_2, sz_3, sz_4, sz_5, sz_6, sz_7, sz_8, sz_9, sz_10, sz_11, sz_12, sz_13, sz_14, sz_15, sz_16]
    refine Wp.then_ (draw h (by omega) (by omega)) ?_
    rintro _ S7 ⟨aa, rfl, b0, b1, h⟩
    simp only [w_dVar, w_dC, w_dNil, w_dCons, w_dTup, w_dLst, w_d2, w_d2T, w_d3, w_d3T, w_tstB, w_tAndD, w_tOrD, w_tNotD, w_dAnd, w_dOr, w_dNot, w_dIf, w_dNeg, w_sNext, w_sSeq, w_sIf, w_sRet, w_sExpr, w_sAsg, w_gVar, w_sBrk, w_gsNil, w_gsCons, w_gTupD, w_sPar, w_iVal, w_iEnumD, w_iZipD, w_iRngD1, w_iRngD2, w_tYesD, w_gSubD, w_oNone, w_oSome, w_dSlice, w_dCall, w_dFld, w_sFldD, w_gFldD, w_dCallF, w_dMeth, w_dMake, w_sRaise, w_sRaiseT, w_dExF, w_dExI, kB_ap, w_bind, w_ok, w_exc, w_stuck, w_dFn, kFn_nx, kFn_ret, w_sTry, w_sFor, w_loop_nil, w_loop_cons, w_addI, w_subI, w_ltI, w_leI, w_gtI, w_geI, w_eqI, w_neI, w_eqS, w_neS, w_lenT, w_lenF, w_ixT2, w_ixF2, atI_pos, ixN_nat, Int.reduceToNat, Int.reduceLE, Int.reduceLT, Int.reduceNeg, startD, List.map_cons, List.map_nil, List.length_cons, List.length_nil, List.replicate, List.cons_append, List.nil_append, List.getElem?_cons_zero, List.getElem?_cons_succ, List.set_cons_zero, List.set_cons_succ, Nat.reduceAdd, Nat.reduceSub, Nat.reduceEqDiff, if_true, if_false, Bool.false_eq_true, decide_true, decide_false, Int.reduceEq, Int.reduceAdd, Int.reduceSub, Int.reduceMul, Bool.not_true, Bool.not_false, c_0, c_1, c_2, c_3, c_4, c_5, c_6, c_7, c_8, c_9, c_10, c_11, c_12, sz_0, sz_1, sz_2, sz_3, sz_4, sz_5, sz_6, sz_7, sz_8, sz_9, sz_10, sz_11, sz_12, sz_13, sz_14, sz_15, sz_16, itemsD]
    have hz : ∀ d : D, [d].length + rs.length ≤ sizeLine := fun d => by rw [sizeLine_eq]; simp; omega
    rw [w_addT (hz _)]
    simp only [w_dVar, w_dC, w_dNil, w_dCons, w_dTup, w_dLst, w_d2, w_d2T, w_d3, w_d3T, w_tstB, w_tAndD, w_tOrD, w_tNotD, w_dAnd, w_dOr, w_dNot, w_dIf, w_dNeg, w_sNext, w_sSeq, w_sIf, w_sRet, w_sExpr, w_sAsg, w_gVar, w_sBrk, w_gsNil, w_gsCons, w_gTupD, w_sPar, w_iVal, w_iEnumD, w_iZipD, w_iRngD1, w_iRngD2, w_tYesD, w_gSubD, w_oNone, w_oSome, w_dSlice, w_dCall, w_dFld, w_sFldD, w_gFldD, w_dCallF, w_dMeth, w_dMake, w_sRaise, w_sRaiseT, w_dExF, w_dExI, kB_ap, w_bind, w_ok, w_exc, w_stuck, w_dFn, kFn_nx, kFn_ret, w_sTry, w_sFor, w_loop_nil, w_loop_cons, w_addI, w_subI, w_ltI, w_leI, w_gtI, w_geI, w_eqI, w_neI, w_eqS, w_neS, w_lenT, w_lenF, w_ixT2, w_ixF2, atI_pos, ixN_nat, Int.reduceToNat, Int.reduceLE, Int.reduceLT, Int.reduceNeg, startD, List.map_cons, List.map_nil, List.length_cons, List.length_nil, List.replicate, List.cons_append, List.nil_append, List.getElem?_cons_zero, List.getElem?_cons_succ, List.set_cons_zero, List.set_cons_succ, Nat.reduceAdd, Nat.reduceSub, Nat.reduceEqDiff, if_true, if_false, Bool.false_eq_true, decide_true, decide_false, Int.reduceEq, Int.reduceAdd, Int.reduceSub, Int.reduceMul, Bool.not_true, Bool.not_false, c_0, c_1, c_2, c_3, c_4, c_5, c_6, c_7, c_8, c_9, c_10, c_11, c_12, sz_0, sz_1, sz_2, sz_3, sz_4, sz_5, sz_6, sz_7, sz_8, sz_9, sz_10, sz_11, sz_12, sz_13, sz_14, sz_15, sz_16]
    refine Wp.then_ (refused_bad hI hO (.inr ⟨_, rs, rfl, fun S => same_go⟩)) ?_
    rintro _ S8 ⟨rfl, g⟩
    have h := h.grow g
    simp only [w_dVar, w_dC, w_dNil, w_dCons, w_dTup, w_dLst, w_d2, w_d2T, w_d3, w_d3T, w_tstB, w_tAndD, w_tOrD, w_tNotD, w_dAnd, w_dOr, w_dNot, w_dIf, w_dNeg, w_sNext, w_sSeq, w_sIf, w_sRet, w_sExpr, w_sAsg, w_gVar, w_sBrk, w_gsNil, w_gsCons, w_gTupD, w_sPar, w_iVal, w_iEnumD, w_iZipD, w_iRngD1, w_iRngD2, w_tYesD, w_gSubD, w_oNone, w_oSome, w_dSlice, w_dCall, w_dFld, w_sFldD, w_gFldD, w_dCallF, w_dMeth, w_dMake, w_sRaise, w_sRaiseT, w_dExF, w_dExI, kB_ap, w_bind, w_ok, w_exc, w_stuck, w_dFn, kFn_nx, kFn_ret, w_sTry, w_sFor, w_loop_nil, w_loop_cons, w_addI, w_subI, w_ltI, w_leI, w_gtI, w_geI, w_eqI, w_neI, w_eqS, w_neS, w_lenT, w_lenF, w_ixT2, w_ixF2, atI_pos, ixN_nat, Int.reduceToNat, Int.reduceLE, Int.reduceLT, Int.reduceNeg, startD, List.map_cons, List.map_nil, List.length_cons, List.length_nil, List.replicate, List.cons_append, List.nil_append, List.getElem?_cons_zero, List.getElem?_cons_succ, List.set_cons_zero, List.set_cons_succ, Nat.reduceAdd, Nat.reduceSub, Nat.reduceEqDiff, if_true, if_false, Bool.false_eq_true, decide_true, decide_false, Int.reduceEq, Int.reduceAdd, Int.reduceSub, Int.reduceMul, Bool.not_true, Bool.not_false, c_0, c_1, c_2, c_3, c_4, c_5, c_6, c_7, c_8, c_9, c_10, c_11, c_12, sz_0, sz_1, sz_2, sz_3, sz_4, sz_5, sz_6, sz_7, sz_8, sz_9, sz_10, sz_11, sz_12, sz_13, sz_14, sz_15, sz_16]
    rw [w_addT (hz _)]
    simp only [w_dVar, w_dC, w_dNil, w_dCons, w_dTup, w_dLst, w_d2, w_d2T, w_d3, w_d3T, w_tstB, w_tAndD, w_tOrD, w_tNotD, w_dAnd, w_dOr, w_dNot, w_dIf, w_dNeg, w_sNext, w_sSeq, w_sIf, w_sRet, w_sExpr, w_sAsg, w_gVar, w_sBrk, w_gsNil, w_gsCons, w_gTupD, w_sPar, w_iVal, w_iEnumD, w_iZipD, w_iRngD1, w_iRngD2, w_tYesD, w_gSubD, w_oNone, w_oSome, w_dSlice, w_dCall, w_dFld, w_sFldD, w_gFldD, w_dCallF, w_dMeth, w_dMake, w_sRaise, w_sRaiseT, w_dExF, w_dExI, kB_ap, w_bind, w_ok, w_exc, w_stuck, w_dFn, kFn_nx, kFn_ret, w_sTry, w_sFor, w_loop_nil, w_loop_cons, w_addI, w_subI, w_ltI, w_leI, w_gtI, w_geI, w_eqI, w_neI, w_eqS, w_neS, w_lenT, w_lenF, w_ixT2, w_ixF2, atI_pos, ixN_nat, Int.reduceToNat, Int.reduceLE, Int.reduceLT, Int.reduceNeg, startD, List.map_cons, List.map_nil, List.length_cons, List.length_nil, List.replicate, List.cons_append, List.nil_append, List.getElem?_cons_zero, List.getElem?_cons_succ, List.set_cons_zero, List.set_cons_succ, Nat.reduceAdd, Nat.reduceSub, Nat.reduceEqDiff, if_true, if_false, Bool.false_eq_true, decide_true, decide_false, Int.reduceEq, Int.reduceAdd, Int.reduceSub, Int.reduceMul, Bool.not_true, Bool.not_false, c_0, c_1, c_2, c_3, c_4, c_5, c_6, c_7, c_8, c_9, c_10, c_11, c_12, sz_0, sz_1, sz_2, sz_3, sz_4, sz_5, sz_6, sz_7, sz_8, sz_9, sz_10, sz_11, sz_12, sz_13, sz_14, sz_15, sz_16]
    refine Wp.then_ (refused_bad hI hO (.inr ⟨_, rs, rfl, fun S => same_go⟩)) ?_
    rintro _ S9 ⟨rfl, g⟩
    have h := h.grow g
    simp only [w_dVar, w_dC, w_dNil, w_dCons, w_dTup, w_dLst, w_d2, w_d2T, w_d3, w_d3T, w_tstB, w_tAndD, w_tOrD, w_tNotD, w_dAnd, w_dOr, w_dNot, w_dIf, w_dNeg, w_sNext, w_sSeq, w_sIf, w_sRet, w_sExpr, w_sAsg, w_gVar, w_sBrk, w_gsNil, w_gsCons, w_gTupD, w_sPar, w_iVal, w_iEnumD, w_iZipD, w_iRngD1, w_iRngD2, w_tYesD, w_gSubD, w_oNone, w_oSome, w_dSlice, w_dCall, w_dFld, w_sFldD, w_gFldD, w_dCallF, w_dMeth, w_dMake, w_sRaise, w_sRaiseT, w_dExF, w_dExI, kB_ap, w_bind, w_ok, w_exc, w_stuck, w_dFn, kFn_nx, kFn_ret, w_sTry, w_sFor, w_loop_nil, w_loop_cons, w_addI, w_subI, w_ltI, w_leI, w_gtI, w_geI, w_eqI, w_neI, w_eqS, w_neS, w_lenT, w_lenF, w_ixT2, w_ixF2, atI_pos, ixN_nat, Int.reduceToNat, Int.reduceLE, Int.reduceLT, Int.reduceNeg, startD, List.map_cons, List.map_nil, List.length_cons, List.length_nil, List.replicate, List.cons_append, List.nil_append, List.getElem?_cons_zero, List.getElem?_cons_succ, List.set_cons_zero, List.set_cons_succ, Nat.reduceAdd, Nat.reduceSub, Nat.reduceEqDiff, if_true, if_false, Bool.false_eq_true, decide_true, decide_false, Int.reduceEq, Int.reduceAdd, Int.reduceSub, Int.reduceMul, Bool.not_true, Bool.not_false, c_0, c_1, c_2, c_3, c_4, c_5, c_6, c_7, c_8, c_9, c_10, c_11, c_12, sz_0, sz_1, sz_2, sz_3, sz_4, sz_5, sz_6, sz_7, sz_8, sz_9, sz_10, sz_11, sz_12, sz_13, sz_14, sz_15, sz_16]
    rw [w_addT (hz _)]
    simp only [w_dVar, w_dC, w_dNil, w_dCons, w_dTup, w_dLst, w_d2, w_d2T, w_d3, w_d3T, w_tstB, w_tAndD, w_tOrD, w_tNotD, w_dAnd, w_dOr, w_dNot, w_dIf, w_dNeg, w_sNext, w_sSeq, w_sIf, w_sRet, w_sExpr, w_sAsg, w_gVar, w_sBrk, w_gsNil, w_gsCons, w_gTupD, w_sPar, w_iVal, w_iEnumD, w_iZipD, w_iRngD1, w_iRngD2, w_tYesD, w_gSubD, w_oNone, w_oSome, w_dSlice, w_dCall, w_dFld, w_sFldD, w_gFldD, w_dCallF, w_dMeth, w_dMake, w_sRaise, w_sRaiseT, w_dExF, w_dExI, kB_ap, w_bind, w_ok, w_exc, w_stuck, w_dFn, kFn_nx, kFn_ret, w_sTry, w_sFor, w_loop_nil, w_loop_cons, w_addI, w_subI, w_ltI, w_leI, w_gtI, w_geI, w_eqI, w_neI, w_eqS, w_neS, w_lenT, w_lenF, w_ixT2, w_ixF2, atI_pos, ixN_nat, Int.reduceToNat, Int.reduceLE, Int.reduceLT, Int.reduceNeg, startD, List.map_cons, List.map_nil, List.length_cons, List.length_nil, List.replicate, List.cons_append, List.nil_append, List.getElem?_cons_zero, List.getElem?_cons_succ, List.set_cons_zero, List.set_cons_succ, Nat.reduceAdd, Nat.reduceSub, Nat.reduceEqDiff, if_true, if_false, Bool.false_eq_true, decide_true, decide_false, Int.reduceEq, Int.reduceAdd, Int.reduceSub, Int.reduceMul, Bool.not_true, Bool.not_false, c_0, c_1, c_2, c_3, c_4, c_5, c_6, c_7, c_8, c_9, c_10, c_11, c_12, sz_0, sz_1, sz_2, sz_3, sz_4, sz_5, sz_6, sz_7, sz_8, sz_9, sz_10, sz_11, sz_12, sz_13, sz_14, sz_15, sz_16]
    refine Wp.then_ (refused_bad hI hO (.inr ⟨_, rs, rfl, fun S => same_ask⟩)) ?_
    rintro _ S10 ⟨rfl, g⟩
    have h := h.grow g
    simp only [w_dVar, w_dC, w_dNil, w_dCons, w_dTup, w_dLst, w_d2, w_d2T, w_d3, w_d3T, w_tstB, w_tAndD, w_tOrD, w_tNotD, w_dAnd, w_dOr, w_dNot, w_dIf, w_dNeg, w_sNext, w_sSeq, w_sIf, w_sRet, w_sExpr, w_sAsg, w_gVar, w_sBrk, w_gsNil, w_gsCons, w_gTupD, w_sPar, w_iVal, w_iEnumD, w_iZipD, w_iRngD1, w_iRngD2, w_tYesD, w_gSubD, w_oNone, w_oSome, w_dSlice, w_dCall, w_dFld, w_sFldD, w_gFldD, w_dCallF, w_dMeth, w_dMake, w_sRaise, w_sRaiseT, w_dExF, w_dExI, kB_ap, w_bind, w_ok, w_exc, w_stuck, w_dFn, kFn_nx, kFn_ret, w_sTry, w_sFor, w_loop_nil, w_loop_cons, w_addI, w_subI, w_ltI, w_leI, w_gtI, w_geI, w_eqI, w_neI, w_eqS, w_neS, w_lenT, w_lenF, w_ixT2, w_ixF2, atI_pos, ixN_nat, Int.reduceToNat, Int.reduceLE, Int.reduceLT, Int.reduceNeg, startD, List.map_cons, List.map_nil, List.length_cons, List.length_nil, List.replicate, List.cons_append, List.nil_append, List.getElem?_cons_zero, List.getElem?_cons_succ, List.set_cons_zero, List.set_cons_succ, Nat.reduceAdd, Nat.reduceSub, Nat.reduceEqDiff, if_true, if_false, Bool.false_eq_true, decide_true, decide_false, Int.reduceEq, Int.reduceAdd, Int.reduceSub, Int.reduceMul, Bool.not_true, Bool.not_false, c_0, c_1, c_2, c_3, c_4, c_5, c_6, c_7, c_8, c_9, c_10, c_11, c_12, sz_0, sz_1, sz_2, sz_3, sz_4, sz_5, sz_6, sz_7, sz_8, sz_9, sz_10, sz_11, sz_12, sz_13, sz_14, sz_15, sz_16]
    rw [w_addT (hz _)]
    simp only [w_dVar, w_dC, w_dNil, w_dCons, w_dTup, w_dLst, w_d2, w_d2T, w_d3, w_d3T, w_tstB, w_tAndD, w_tOrD, w_tNotD, w_dAnd, w_dOr, w_dNot, w_dIf, w_dNeg, w_sNext, w_sSeq, w_sIf, w_sRet, w_sExpr, w_sAsg, w_gVar, w_sBrk, w_gsNil, w_gsCons, w_gTupD, w_sPar, w_iVal, w_iEnumD, w_iZipD, w_iRngD1, w_iRngD2, w_tYesD, w_gSubD, w_oNone, w_oSome, w_dSlice, w_dCall, w_dFld, w_sFldD, w_gFldD, w_dCallF, w_dMeth, w_dMake, w_sRaise, w_sRaiseT, w_dExF, w_dExI, kB_ap, w_bind, w_ok, w_exc, w_stuck, w_dFn, kFn_nx, kFn_ret, w_sTry, w_sFor, w_loop_nil, w_loop_cons, w_addI, w_subI, w_ltI, w_leI, w_gtI, w_geI, w_eqI, w_neI, w_eqS, w_neS, w_lenT, w_lenF, w_ixT2, w_ixF2, atI_pos, ixN_nat, Int.reduceToNat, Int.reduceLE, Int.reduceLT, Int.reduceNeg, startD, List.map_cons, List.map_nil, List.length_cons, List.length_nil, List.replicate, List.cons_append, List.nil_append, List.getElem?_cons_zero, List.getElem?_cons_succ, List.set_cons_zero, List.set_cons_succ, Nat.reduceAdd, Nat.reduceSub, Nat.reduceEqDiff, if_true, if_false, Bool.false_eq_true, decide_true, decide_false, Int.reduceEq, Int.reduceAdd, Int.reduceSub, Int.reduceMul, Bool.not_true, Bool.not_false, c_0, c_1, c_2, c_3, c_4, c_5, c_6, c_7, c_8, c_9, c_10, c_11, c_12, sz_0, sz_1, sz_2, sz_3, sz_4, sz_5, sz_6, sz_7, sz_8, sz_9, sz_10, sz_11, sz_12, sz_13, sz_14, sz_15, sz_16]
    refine Wp.then_ (refused_bad hI hO (.inr ⟨_, rs, rfl, fun S => same_say hw⟩)) ?_
    rintro _ S11 ⟨rfl, g⟩
    have h := h.grow g
    simp only [w_dVar, w_dC, w_dNil, w_dCons, w_dTup, w_dLst, w_d2, w_d2T, w_d3, w_d3T, w_tstB, w_tAndD, w_tOrD, w_tNotD, w_dAnd, w_dOr, w_dNot, w_dIf, w_dNeg, w_sNext, w_sSeq, w_sIf, w_sRet, w_sExpr, w_sAsg, w_gVar, w_sBrk, w_gsNil, w_gsCons, w_gTupD, w_sPar, w_iVal, w_iEnumD, w_iZipD, w_iRngD1, w_iRngD2, w_tYesD, w_gSubD, w_oNone, w_oSome, w_dSlice, w_dCall, w_dFld, w_sFldD, w_gFldD, w_dCallF, w_dMeth, w_dMake, w_sRaise, w_sRaiseT, w_dExF, w_dExI, kB_ap, w_bind, w_ok, w_exc, w_stuck, w_dFn, kFn_nx, kFn_ret, w_sTry, w_sFor, w_loop_nil, w_loop_cons, w_addI, w_subI, w_ltI, w_leI, w_gtI, w_geI, w_eqI, w_neI, w_eqS, w_neS, w_lenT, w_lenF, w_ixT2, w_ixF2, atI_pos, ixN_nat, Int.reduceToNat, Int.reduceLE, Int.reduceLT, Int.reduceNeg, startD, List.map_cons, List.map_nil, List.length_cons, List.length_nil, List.replicate, List.cons_append, List.nil_append, List.getElem?_cons_zero, List.getElem?_cons_succ, List.set_cons_zero, List.set_cons_succ, Nat.reduceAdd, Nat.reduceSub, Nat.reduceEqDiff, if_true, if_false, Bool.false_eq_true, decide_true, decide_false, Int.reduceEq, Int.reduceAdd, Int.reduceSub, Int.reduceMul, Bool.not_true, Bool.not_false, c_0, c_1, c_2, c_3, c_4, c_5, c_6, c_7, c_8, c_9, c_10, c_11, c_12, sz_0, sz_1, sz_2, sz_3, sz_4, sz_5, sz_6, sz_7, sz_8, sz_9, sz_10, sz_11, sz_12, sz_13, sz_14, sz_15, sz_16]
    refine Wp.then_ (refused_bad hI hO (.inl rfl)) ?_
    rintro _ S12 ⟨rfl, g⟩
    have h := h.grow g
    simp only [w_dVar, w_dC, w_dNil, w_dCons, w_dTup, w_dLst, w_d2, w_d2T, w_d3, w_d3T, w_tstB, w_tAndD, w_tOrD, w_tNotD, w_dAnd, w_dOr, w_dNot, w_dIf, w_dNeg, w_sNext, w_sSeq, w_sIf, w_sRet, w_sExpr, w_sAsg, w_gVar, w_sBrk, w_gsNil, w_gsCons, w_gTupD, w_sPar, w_iVal, w_iEnumD, w_iZipD, w_iRngD1, w_iRngD2, w_tYesD, w_gSubD, w_oNone, w_oSome, w_dSlice, w_dCall, w_dFld, w_sFldD, w_gFldD, w_dCallF, w_dMeth, w_dMake, w_sRaise, w_sRaiseT, w_dExF, w_dExI, kB_ap, w_bind, w_ok, w_exc, w_stuck, w_dFn, kFn_nx, kFn_ret, w_sTry, w_sFor, w_loop_nil, w_loop_cons, w_addI, w_subI, w_ltI, w_leI, w_gtI, w_geI, w_eqI, w_neI, w_eqS, w_neS, w_lenT, w_lenF, w_ixT2, w_ixF2, atI_pos, ixN_nat, Int.reduceToNat, Int.reduceLE, Int.reduceLT, Int.reduceNeg, startD, List.map_cons, List.map_nil, List.length_cons, List.length_nil, List.replicate, List.cons_append, List.nil_append, List.getElem?_cons_zero, List.getElem?_cons_succ, List.set_cons_zero, List.set_cons_succ, Nat.reduceAdd, Nat.reduceSub, Nat.reduceEqDiff, if_true, if_false, Bool.false_eq_true, decide_true, decide_false, Int.reduceEq, Int.reduceAdd, Int.reduceSub, Int.reduceMul, Bool.not_true, Bool.not_false, c_0, c_1, c_2, c_3, c_4, c_5, c_6, c_7, c_8, c_9, c_10, c_11, c_12, sz_0, sz_1, sz_2, sz_3, sz_4, sz_5, sz_6, sz_7, sz_8, sz_9, sz_10, sz_11, sz_12, sz_13, sz_14, sz_15, sz_16]
    rw [w_addT (hz _)]
    simp only [w_dVar, w_dC, w_dNil, w_dCons, w_dTup, w_dLst, w_d2, w_d2T, w_d3, w_d3T, w_tstB, w_tAndD, w_tOrD, w_tNotD, w_dAnd, w_dOr, w_dNot, w_dIf, w_dNeg, w_sNext, w_sSeq, w_sIf, w_sRet, w_sExpr, w_sAsg, w_gVar, w_sBrk, w_gsNil, w_gsCons, w_gTupD, w_sPar, w_iVal, w_iEnumD, w_iZipD, w_iRngD1, w_iRngD2, w_tYesD, w_gSubD, w_oNone, w_oSome, w_dSlice, w_dCall, w_dFld, w_sFldD, w_gFldD, w_dCallF, w_dMeth, w_dMake, w_sRaise, w_sRaiseT, w_dExF, w_dExI, kB_ap, w_bind, w_ok, w_exc, w_stuck, w_dFn, kFn_nx, kFn_ret, w_sTry, w_sFor, w_loop_nil, w_loop_cons, w_addI, w_subI, w_ltI, w_leI, w_gtI, w_geI, w_eqI, w_neI, w_eqS, w_neS, w_lenT, w_lenF, w_ixT2, w_ixF2, atI_pos, ixN_nat, Int.reduceToNat, Int.reduceLE, Int.reduceLT, Int.reduceNeg, startD, List.map_cons, List.map_nil, List.length_cons, List.length_nil, List.replicate, List.cons_append, List.nil_append, List.getElem?_cons_zero, List.getElem?_cons_succ, List.set_cons_zero, List.set_cons_succ, Nat.reduceAdd, Nat.reduceSub, Nat.reduceEqDiff, if_true, if_false, Bool.false_eq_true, decide_true, decide_false, Int.reduceEq, Int.reduceAdd, Int.reduceSub, Int.reduceMul, Bool.not_true, Bool.not_false, c_0, c_1, c_2, c_3, c_4, c_5, c_6, c_7, c_8, c_9, c_10, c_11, c_12, sz_0, sz_1, sz_2, sz_3, sz_4, sz_5, sz_6, sz_7, sz_8, sz_9, sz_10, sz_11, sz_12, sz_13, sz_14, sz_15, sz_16]
    have hok : ∀ m : Int, 0 < m → ∀ d ∈ rs, StepOk (1 + ins) (1 + outs) m d := fun m hm d hd => by
      rcases hr d hd with rfl | rfl | rfl
      · exact .inr (.inl ⟨w, rfl, hw, hwl⟩)
      · exact .inl rfl
      · exact .inr (.inr ⟨0, rfl, by omega, hm⟩)
    refine Wp.then_ (refused_ok hI hO (by omega) (hok _ (by omega))) ?_
    rintro _ S13 ⟨rfl, g⟩
    have h := h.grow g
    have en : decide (D.non = D.non) = true := rfl
    simp only [w_dVar, w_dC, w_dNil, w_dCons, w_dTup, w_dLst, w_d2, w_d2T, w_d3, w_d3T, w_tstB, w_tAndD, w_tOrD, w_tNotD, w_dAnd, w_dOr, w_dNot, w_dIf, w_dNeg, w_sNext, w_sSeq, w_sIf, w_sRet, w_sExpr, w_sAsg, w_gVar, w_sBrk, w_gsNil, w_gsCons, w_gTupD, w_sPar, w_iVal, w_iEnumD, w_iZipD, w_iRngD1, w_iRngD2, w_tYesD, w_gSubD, w_oNone, w_oSome, w_dSlice, w_dCall, w_dFld, w_sFldD, w_gFldD, w_dCallF, w_dMeth, w_dMake, w_sRaise, w_sRaiseT, w_dExF, w_dExI, kB_ap, w_bind, w_ok, w_exc, w_stuck, w_dFn, kFn_nx, kFn_ret, w_sTry, w_sFor, w_loop_nil, w_loop_cons, w_addI, w_subI, w_ltI, w_leI, w_gtI, w_geI, w_eqI, w_neI, w_eqS, w_neS, w_lenT, w_lenF, w_ixT2, w_ixF2, atI_pos, ixN_nat, Int.reduceToNat, Int.reduceLE, Int.reduceLT, Int.reduceNeg, startD, List.map_cons, List.map_nil, List.length_cons, List.length_nil, List.replicate, List.cons_append, List.nil_append, List.getElem?_cons_zero, List.getElem?_cons_succ, List.set_cons_zero, List.set_cons_succ, Nat.reduceAdd, Nat.reduceSub, Nat.reduceEqDiff, if_true, if_false, Bool.false_eq_true, decide_true, decide_false, Int.reduceEq, Int.reduceAdd, Int.reduceSub, Int.reduceMul, Bool.not_true, Bool.not_false, c_0, c_1, c_2, c_3, c_4, c_5, c_6, c_7, c_8, c_9, c_10, c_11, c_12, sz_0, sz_1, sz_2, sz_3, sz_4, sz_5, sz_6, sz_7, sz_8, sz_9, sz_10, sz_11, sz_12, sz_13, sz_14, sz_15, sz_16, isNotD, en]
    rw [w_addT (hz _)]
    simp only [w_dVar, w_dC, w_dNil, w_dCons, w_dTup, w_dLst, w_d2, w_d2T, w_d3, w_d3T, w_tstB, w_tAndD, w_tOrD, w_tNotD, w_dAnd, w_dOr, w_dNot, w_dIf, w_dNeg, w_sNext, w_sSeq, w_sIf, w_sRet, w_sExpr, w_sAsg, w_gVar, w_sBrk, w_gsNil, w_gsCons, w_gTupD, w_sPar, w_iVal, w_iEnumD, w_iZipD, w_iRngD1, w_iRngD2, w_tYesD, w_gSubD, w_oNone, w_oSome, w_dSlice, w_dCall, w_dFld, w_sFldD, w_gFldD, w_dCallF, w_dMeth, w_dMake, w_sRaise, w_sRaiseT, w_dExF, w_dExI, kB_ap, w_bind, w_ok, w_exc, w_stuck, w_dFn, kFn_nx, kFn_ret, w_sTry, w_sFor, w_loop_nil, w_loop_cons, w_addI, w_subI, w_ltI, w_leI, w_gtI, w_geI, w_eqI, w_neI, w_eqS, w_neS, w_lenT, w_lenF, w_ixT2, w_ixF2, atI_pos, ixN_nat, Int.reduceToNat, Int.reduceLE, Int.reduceLT, Int.reduceNeg, startD, List.map_cons, List.map_nil, List.length_cons, List.length_nil, List.replicate, List.cons_append, List.nil_append, List.getElem?_cons_zero, List.getElem?_cons_succ, List.set_cons_zero, List.set_cons_succ, Nat.reduceAdd, Nat.reduceSub, Nat.reduceEqDiff, if_true, if_false, Bool.false_eq_true, decide_true, decide_false, Int.reduceEq, Int.reduceAdd, Int.reduceSub, Int.reduceMul, Bool.not_true, Bool.not_false, c_0, c_1, c_2, c_3, c_4, c_5, c_6, c_7, c_8, c_9, c_10, c_11, c_12, sz_0, sz_1, sz_2, sz_3, sz_4, sz_5, sz_6, sz_7, sz_8, sz_9, sz_10, sz_11, sz_12, sz_13, sz_14, sz_15, sz_16]
    rw [w_addT (by rw [sizeLine_eq]; simp; omega)]
    simp only [w_dVar, w_dC, w_dNil, w_dCons, w_dTup, w_dLst, w_d2, w_d2T, w_d3, w_d3T, w_tstB, w_tAndD, w_tOrD, w_tNotD, w_dAnd, w_dOr, w_dNot, w_dIf, w_dNeg, w_sNext, w_sSeq, w_sIf, w_sRet, w_sExpr, w_sAsg, w_gVar, w_sBrk, w_gsNil, w_gsCons, w_gTupD, w_sPar, w_iVal, w_iEnumD, w_iZipD, w_iRngD1, w_iRngD2, w_tYesD, w_gSubD, w_oNone, w_oSome, w_dSlice, w_dCall, w_dFld, w_sFldD, w_gFldD, w_dCallF, w_dMeth, w_dMake, w_sRaise, w_sRaiseT, w_dExF, w_dExI, kB_ap, w_bind, w_ok, w_exc, w_stuck, w_dFn, kFn_nx, kFn_ret, w_sTry, w_sFor, w_loop_nil, w_loop_cons, w_addI, w_subI, w_ltI, w_leI, w_gtI, w_geI, w_eqI, w_neI, w_eqS, w_neS, w_lenT, w_lenF, w_ixT2, w_ixF2, atI_pos, ixN_nat, Int.reduceToNat, Int.reduceLE, Int.reduceLT, Int.reduceNeg, startD, List.map_cons, List.map_nil, List.length_cons, List.length_nil, List.replicate, List.cons_append, List.nil_append, List.getElem?_cons_zero, List.getElem?_cons_succ, List.set_cons_zero, List.set_cons_succ, Nat.reduceAdd, Nat.reduceSub, Nat.reduceEqDiff, if_true, if_false, Bool.false_eq_true, decide_true, decide_false, Int.reduceEq, Int.reduceAdd, Int.reduceSub, Int.reduceMul, Bool.not_true, Bool.not_false, c_0, c_1, c_2, c_3, c_4, c_5, c_6, c_7, c_8, c_9, c_10, c_11, c_12, sz_0, sz_1, sz_2, sz_3, sz_4, sz_5, sz_6, sz_7, sz_8, sz_9, sz_10, sz_11, sz_12, sz_13, sz_14, sz_15, sz_16]
    refine Wp.then_ (refused_ok hI hO (by simp; omega) (fun d hd => ?_)) ?_
    · rcases List.mem_append.mp hd with hd | hd
      · exact hok _ (by omega) d hd
      · rw [List.mem_singleton] at hd
        subst hd
        exact .inr (.inr ⟨_, rfl, by omega, by simp; omega⟩)
    rintro _ S14 ⟨rfl, g⟩
    have h := h.grow g
    have eh : hasD D.non (.tup [D.non, D.int (1 + (rs.length : Nat))]) S14 = some true := rfl
    simp only [w_dVar, w_dC, w_dNil, w_dCons, w_dTup, w_dLst, w_d2, w_d2T, w_d3, w_d3T, w_tstB, w_tAndD, w_tOrD, w_tNotD, w_dAnd, w_dOr, w_dNot, w_dIf, w_dNeg, w_sNext, w_sSeq, w_sIf, w_sRet, w_sExpr, w_sAsg, w_gVar, w_sBrk, w_gsNil, w_gsCons, w_gTupD, w_sPar, w_iVal, w_iEnumD, w_iZipD, w_iRngD1, w_iRngD2, w_tYesD, w_gSubD, w_oNone, w_oSome, w_dSlice, w_dCall, w_dFld, w_sFldD, w_gFldD, w_dCallF, w_dMeth, w_dMake, w_sRaise, w_sRaiseT, w_dExF, w_dExI, kB_ap, w_bind, w_ok, w_exc, w_stuck, w_dFn, kFn_nx, kFn_ret, w_sTry, w_sFor, w_loop_nil, w_loop_cons, w_addI, w_subI, w_ltI, w_leI, w_gtI, w_geI, w_eqI, w_neI, w_eqS, w_neS, w_lenT, w_lenF, w_ixT2, w_ixF2, atI_pos, ixN_nat, Int.reduceToNat, Int.reduceLE, Int.reduceLT, Int.reduceNeg, startD, List.map_cons, List.map_nil, List.length_cons, List.length_nil, List.replicate, List.cons_append, List.nil_append, List.getElem?_cons_zero, List.getElem?_cons_succ, List.set_cons_zero, List.set_cons_succ, Nat.reduceAdd, Nat.reduceSub, Nat.reduceEqDiff, if_true, if_false, Bool.false_eq_true, decide_true, decide_false, Int.reduceEq, Int.reduceAdd, Int.reduceSub, Int.reduceMul, Bool.not_true, Bool.not_false, c_0, c_1, c_2, c_3, c_4, c_5, c_6, c_7, c_8, c_9, c_10, c_11, c_12, sz_0, sz_1, sz_2, sz_3, sz_4, sz_5, sz_6, sz_7, sz_8, sz_9, sz_10, sz_11, sz_12, sz_13, sz_14, sz_15, sz_16, notInD, eh]
    refine Wp.then_ (init_ok (l := S14.length) (ds := [sayD w, goD 0]) get_last hI hO (by simp) (fun d hd => ?_)) ?_
    · rcases List.mem_cons.mp hd with rfl | hd
      · exact .inr (.inl ⟨w, rfl, hw, hwl⟩)
      · rw [List.mem_singleton] at hd
        subst hd
        exact .inr (.inr ⟨0, rfl, by omega, by first | omega | (simp; done) | (simp; omega)⟩)
    rintro _ _ ⟨rfl, T, gT, rfl⟩
    have hlt : S14.length < T.length := by
      have := gT.len
      simp at this
      omega
    obtain ⟨S15, e15⟩ : ∃ S15, S15 = T.set S14.length (box (1 + ins) w) := ⟨_, rfl⟩
    have g15 : Grow S14 S15 := by
      obtain ⟨U, rfl⟩ := gT
      exact ⟨_, by rw [e15, List.append_assoc, List.set_append_right _ _ (Nat.le_refl _)]⟩
    have hb : S15[S14.length]? = some (box (1 + ins) w) := by rw [e15]; exact set_same hlt
    have h := h.grow g15
    have l1 : List.lookup (Str.ofString "beat") [(Str.ofString "ins", D.int (1 + ins)), (Str.ofString "program", D.tup [wt, sayD w, goD 0]), (Str.ofString "place", D.int 0)] = none := look_no (by decide +kernel) (by decide +kernel) (by decide +kernel)
    have l2 : List.lookup (Str.ofString "where") [(Str.ofString "ins", D.int (1 + ins)), (Str.ofString "program", D.tup [wt, sayD w, goD 0]), (Str.ofString "place", D.int 0)] = none := look_no (by decide +kernel) (by decide +kernel) (by decide +kernel)
    have e15' : T.set S14.length (DO.ins 5 [(Str.ofString "ins", D.int (1 + ins)), (Str.ofString "program", D.tup (wt :: [sayD w, goD 0])), (Str.ofString "place", D.int 0)]) = S15 := e15.symm
    rw [e15']
    simp only [w_dVar, w_dC, w_dNil, w_dCons, w_dTup, w_dLst, w_d2, w_d2T, w_d3, w_d3T, w_tstB, w_tAndD, w_tOrD, w_tNotD, w_dAnd, w_dOr, w_dNot, w_dIf, w_dNeg, w_sNext, w_sSeq, w_sIf, w_sRet, w_sExpr, w_sAsg, w_gVar, w_sBrk, w_gsNil, w_gsCons, w_gTupD, w_sPar, w_iVal, w_iEnumD, w_iZipD, w_iRngD1, w_iRngD2, w_tYesD, w_gSubD, w_oNone, w_oSome, w_dSlice, w_dCall, w_dFld, w_sFldD, w_gFldD, w_dCallF, w_dMeth, w_dMake, w_sRaise, w_sRaiseT, w_dExF, w_dExI, kB_ap, w_bind, w_ok, w_exc, w_stuck, w_dFn, kFn_nx, kFn_ret, w_sTry, w_sFor, w_loop_nil, w_loop_cons, w_addI, w_subI, w_ltI, w_leI, w_gtI, w_geI, w_eqI, w_neI, w_eqS, w_neS, w_lenT, w_lenF, w_ixT2, w_ixF2, atI_pos, ixN_nat, Int.reduceToNat, Int.reduceLE, Int.reduceLT, Int.reduceNeg, startD, List.map_cons, List.map_nil, List.length_cons, List.length_nil, List.replicate, List.cons_append, List.nil_append, List.getElem?_cons_zero, List.getElem?_cons_succ, List.set_cons_zero, List.set_cons_succ, Nat.reduceAdd, Nat.reduceSub, Nat.reduceEqDiff, if_true, if_false, Bool.false_eq_true, decide_true, decide_false, Int.reduceEq, Int.reduceAdd, Int.reduceSub, Int.reduceMul, Bool.not_true, Bool.not_false, c_0, c_1, c_2, c_3, c_4, c_5, c_6, c_7, c_8, c_9, c_10, c_11, c_12, sz_0, sz_1, sz_2, sz_3, sz_4, sz_5, sz_6, sz_7, sz_8, sz_9, sz_10, sz_11, sz_12, sz_13, sz_14, sz_15, sz_16, hb, l1, and_self, one_is, nought_is]
    rw [w_repS (by omega) (by omega)]
    obtain ⟨u1, u2⟩ := rep_01 (c := 49) (n := 1 + ins) (.inr rfl) (by omega) (by omega)
    simp only [w_dVar, w_dC, w_dNil, w_dCons, w_dTup, w_dLst, w_d2, w_d2T, w_d3, w_d3T, w_tstB, w_tAndD, w_tOrD, w_tNotD, w_dAnd, w_dOr, w_dNot, w_dIf, w_dNeg, w_sNext, w_sSeq, w_sIf, w_sRet, w_sExpr, w_sAsg, w_gVar, w_sBrk, w_gsNil, w_gsCons, w_gTupD, w_sPar, w_iVal, w_iEnumD, w_iZipD, w_iRngD1, w_iRngD2, w_tYesD, w_gSubD, w_oNone, w_oSome, w_dSlice, w_dCall, w_dFld, w_sFldD, w_gFldD, w_dCallF, w_dMeth, w_dMake, w_sRaise, w_sRaiseT, w_dExF, w_dExI, kB_ap, w_bind, w_ok, w_exc, w_stuck, w_dFn, kFn_nx, kFn_ret, w_sTry, w_sFor, w_loop_nil, w_loop_cons, w_addI, w_subI, w_ltI, w_leI, w_gtI, w_geI, w_eqI, w_neI, w_eqS, w_neS, w_lenT, w_lenF, w_ixT2, w_ixF2, atI_pos, ixN_nat, Int.reduceToNat, Int.reduceLE, Int.reduceLT, Int.reduceNeg, startD, List.map_cons, List.map_nil, List.length_cons, List.length_nil, List.replicate, List.cons_append, List.nil_append, List.getElem?_cons_zero, List.getElem?_cons_succ, List.set_cons_zero, List.set_cons_succ, Nat.reduceAdd, Nat.reduceSub, Nat.reduceEqDiff, if_true, if_false, Bool.false_eq_true, decide_true, decide_false, Int.reduceEq, Int.reduceAdd, Int.reduceSub, Int.reduceMul, Bool.not_true, Bool.not_false, c_0, c_1, c_2, c_3, c_4, c_5, c_6, c_7, c_8, c_9, c_10, c_11, c_12, sz_0, sz_1, sz_2, sz_3, sz_4, sz_5, sz_6, sz_7, sz_8, sz_9, sz_10, sz_11, sz_12, sz_13, sz_14, sz_15, sz_16]
    refine Wp.then_ (beat_ok hb u1 u2) ?_
    rintro _ S16 ⟨rfl, g⟩
    have h := h.grow g
    have hb := g.get hb
    simp only [w_dVar, w_dC, w_dNil, w_dCons, w_dTup, w_dLst, w_d2, w_d2T, w_d3, w_d3T, w_tstB, w_tAndD, w_tOrD, w_tNotD, w_dAnd, w_dOr, w_dNot, w_dIf, w_dNeg, w_sNext, w_sSeq, w_sIf, w_sRet, w_sExpr, w_sAsg, w_gVar, w_sBrk, w_gsNil, w_gsCons, w_gTupD, w_sPar, w_iVal, w_iEnumD, w_iZipD, w_iRngD1, w_iRngD2, w_tYesD, w_gSubD, w_oNone, w_oSome, w_dSlice, w_dCall, w_dFld, w_sFldD, w_gFldD, w_dCallF, w_dMeth, w_dMake, w_sRaise, w_sRaiseT, w_dExF, w_dExI, kB_ap, w_bind, w_ok, w_exc, w_stuck, w_dFn, kFn_nx, kFn_ret, w_sTry, w_sFor, w_loop_nil, w_loop_cons, w_addI, w_subI, w_ltI, w_leI, w_gtI, w_geI, w_eqI, w_neI, w_eqS, w_neS, w_lenT, w_lenF, w_ixT2, w_ixF2, atI_pos, ixN_nat, Int.reduceToNat, Int.reduceLE, Int.reduceLT, Int.reduceNeg, startD, List.map_cons, List.map_nil, List.length_cons, List.length_nil, List.replicate, List.cons_append, List.nil_append, List.getElem?_cons_zero, List.getElem?_cons_succ, List.set_cons_zero, List.set_cons_succ, Nat.reduceAdd, Nat.reduceSub, Nat.reduceEqDiff, if_true, if_false, Bool.false_eq_true, decide_true, decide_false, Int.reduceEq, Int.reduceAdd, Int.reduceSub, Int.reduceMul, Bool.not_true, Bool.not_false, c_0, c_1, c_2, c_3, c_4, c_5, c_6, c_7, c_8, c_9, c_10, c_11, c_12, sz_0, sz_1, sz_2, sz_3, sz_4, sz_5, sz_6, sz_7, sz_8, sz_9, sz_10, sz_11, sz_12, sz_13, sz_14, sz_15, sz_16, hb, l1, and_self]
    rw [w_repS (by omega) (by omega)]
    obtain ⟨u1, u2⟩ := rep_01 (c := 48) (n := 1 + ins) (.inl rfl) (by omega) (by omega)
    simp only [w_dVar, w_dC, w_dNil, w_dCons, w_dTup, w_dLst, w_d2, w_d2T, w_d3, w_d3T, w_tstB, w_tAndD, w_tOrD, w_tNotD, w_dAnd, w_dOr, w_dNot, w_dIf, w_dNeg, w_sNext, w_sSeq, w_sIf, w_sRet, w_sExpr, w_sAsg, w_gVar, w_sBrk, w_gsNil, w_gsCons, w_gTupD, w_sPar, w_iVal, w_iEnumD, w_iZipD, w_iRngD1, w_iRngD2, w_tYesD, w_gSubD, w_oNone, w_oSome, w_dSlice, w_dCall, w_dFld, w_sFldD, w_gFldD, w_dCallF, w_dMeth, w_dMake, w_sRaise, w_sRaiseT, w_dExF, w_dExI, kB_ap, w_bind, w_ok, w_exc, w_stuck, w_dFn, kFn_nx, kFn_ret, w_sTry, w_sFor, w_loop_nil, w_loop_cons, w_addI, w_subI, w_ltI, w_leI, w_gtI, w_geI, w_eqI, w_neI, w_eqS, w_neS, w_lenT, w_lenF, w_ixT2, w_ixF2, atI_pos, ixN_nat, Int.reduceToNat, Int.reduceLE, Int.reduceLT, Int.reduceNeg, startD, List.map_cons, List.map_nil, List.length_cons, List.length_nil, List.replicate, List.cons_append, List.nil_append, List.getElem?_cons_zero, List.getElem?_cons_succ, List.set_cons_zero, List.set_cons_succ, Nat.reduceAdd, Nat.reduceSub, Nat.reduceEqDiff, if_true, if_false, Bool.false_eq_true, decide_true, decide_false, Int.reduceEq, Int.reduceAdd, Int.reduceSub, Int.reduceMul, Bool.not_true, Bool.not_false, c_0, c_1, c_2, c_3, c_4, c_5, c_6, c_7, c_8, c_9, c_10, c_11, c_12, sz_0, sz_1, sz_2, sz_3, sz_4, sz_5, sz_6, sz_7, sz_8, sz_9, sz_10, sz_11, sz_12, sz_13, sz_14, sz_15, sz_16]
    refine Wp.then_ (beat_ok hb u1 u2) ?_
    rintro _ S17 ⟨rfl, g⟩
    have h := h.grow g
    have hb := g.get hb
    simp only [w_dVar, w_dC, w_dNil, w_dCons, w_dTup, w_dLst, w_d2, w_d2T, w_d3, w_d3T, w_tstB, w_tAndD, w_tOrD, w_tNotD, w_dAnd, w_dOr, w_dNot, w_dIf, w_dNeg, w_sNext, w_sSeq, w_sIf, w_sRet, w_sExpr, w_sAsg, w_gVar, w_sBrk, w_gsNil, w_gsCons, w_gTupD, w_sPar, w_iVal, w_iEnumD, w_iZipD, w_iRngD1, w_iRngD2, w_tYesD, w_gSubD, w_oNone, w_oSome, w_dSlice, w_dCall, w_dFld, w_sFldD, w_gFldD, w_dCallF, w_dMeth, w_dMake, w_sRaise, w_sRaiseT, w_dExF, w_dExI, kB_ap, w_bind, w_ok, w_exc, w_stuck, w_dFn, kFn_nx, kFn_ret, w_sTry, w_sFor, w_loop_nil, w_loop_cons, w_addI, w_subI, w_ltI, w_leI, w_gtI, w_geI, w_eqI, w_neI, w_eqS, w_neS, w_lenT, w_lenF, w_ixT2, w_ixF2, atI_pos, ixN_nat, Int.reduceToNat, Int.reduceLE, Int.reduceLT, Int.reduceNeg, startD, List.map_cons, List.map_nil, List.length_cons, List.length_nil, List.replicate, List.cons_append, List.nil_append, List.getElem?_cons_zero, List.getElem?_cons_succ, List.set_cons_zero, List.set_cons_succ, Nat.reduceAdd, Nat.reduceSub, Nat.reduceEqDiff, if_true, if_false, Bool.false_eq_true, decide_true, decide_false, Int.reduceEq, Int.reduceAdd, Int.reduceSub, Int.reduceMul, Bool.not_true, Bool.not_false, c_0, c_1, c_2, c_3, c_4, c_5, c_6, c_7, c_8, c_9, c_10, c_11, c_12, sz_0, sz_1, sz_2, sz_3, sz_4, sz_5, sz_6, sz_7, sz_8, sz_9, sz_10, sz_11, sz_12, sz_13, sz_14, sz_15, sz_16, hb, l2, and_self, where_ok hb]
    exact ⟨h, _, _, _, _, _, _, _, _, rfl⟩
theorem plain : ∀ ns : List Int, ns.length ≤ 63 → ∃ S', F_law [.frl (ns.map .int)] [] = .ok (.bl true) S' := fun ns _ => by
  obtain ⟨d, S', e, rfl⟩ := (plain1 (ns := ns)).ok
  exact ⟨S', e⟩
end Lw

namespace Lw
open PySem PySem.Spec PyProof.Rows L2 DL
theorem run (w : World) : HandSHeadRun.RunEq R (PySem.W.view R.prog [21]) hk ob 20000 loose w := by
  intro os
  kernel_rfl
end Lw
open PySem PySem.W PySem.Calls PyProof.Rows
theorem PySem.Challenge.cw_tablebeat_k45_programs_that_do_not_begin_holds : PySem.Challenge.rw_tablebeat_k45_programs_that_do_not_begin.Holds := by
  w_on; o_law
  refine HandSHeadRun.head_any (r := OpenLaw.row PySem.Challenge.rw_tablebeat_k45_programs_that_do_not_begin) (q := view (OpenLaw.row PySem.Challenge.rw_tablebeat_k45_programs_that_do_not_begin).prog [21]) (H := Lw.hk) (ob := Lw.ob) (M := 20000) (loose := Lw.loose) (d := HandSHeadRun.topDef (OpenLaw.row PySem.Challenge.rw_tablebeat_k45_programs_that_do_not_begin).prog 21) (kwd := []) Lw.ob_eq
    (by kernel_rfl) (fun s => by kernel_rfl) Lw.run (by kernel_rfl) (by kernel_rfl) (by kernel_rfl) (by rfl) (by first | assumption | decide +kernel) (by decide +kernel) ⟨rfl, rfl, rfl, rfl, rfl, by decide +kernel⟩ ?hw ?hc
  case hw => w_witness2
  case hc =>
    refine DL.walk_D (l := PySem.Challenge.rw_tablebeat_k45_programs_that_do_not_begin) (k := 7) (x := "_law_script") (Fl := Lw.F_law) rfl (by kernel_rfl) ⟨rfl, by decide, by decide⟩ Lw.plain ?F
    intro w mg fa h Y G hmg0
    obtain ⟨K, KX, c, e⟩ := Y
    have T := Lw.tx_of KX G c e
    have hmg : mg ("law" : PySem.Str) = some (.ref fa) := by
      have e : (HandSHeadRun.topDef (OpenLaw.row PySem.Challenge.rw_tablebeat_k45_programs_that_do_not_begin).prog 21).name = ("law" : PySem.Str) := by kernel_rfl
      rw [← e]
      exact hmg0
    obtain ⟨fd, Fu⟩ := T.f_law
    have e2 := hmg.symm.trans T.g_law
    cases e2
    obtain ⟨hb, hF⟩ := Lw.d_law (P := (PySem.Challenge.rw_tablebeat_k45_programs_that_do_not_begin).prog) (w := w) T Fu
    exact ⟨K, Lw.cl K, fd, KX, hb, fun base _ _ => hF base⟩

