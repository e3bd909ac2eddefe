import PyProof.Rows.All
import Wide.All
import OpenK.AllK
import Wide.FinOn
import HandS.ForMost
import HandS.ForExc
import HandS.CallSlots
import HandS.TupAny
import HandS.Zip
import HandS.Flow
import HandS.TupMul
import HandS.Lambda
import KE.KeyNested
import HandS.Wide
import HandS.Deep
import HandS.NoneIn
import KE.GoesEnum
import KE.GoesZip
import HandS.Defaults
import HandS.ExcInit
import KE.KStateDown
import HandS.Head0
import HandS.Head1
import HandS.Head2
import HandS.HeadEnd
import HandS.HeadHook1
import HandS.HeadHook2
import HandS.EndBits
import KE.KExcIs
import HandS.ExcIs
import HandS.ExcField
import KE.DataFind
import HandS.IsInst
import HandS.More
import HandS.EndTab
import HandS.HeadHook4
import HandS.HeadHook3
import HandS.Small
import KE.KDictKeyed
import KE.KDictDisplayH
import HandS.Conv
import HandS.SetKeys
import HandS.WordsDict
import HandS.TupLen
import KE.GoesMore
import KE.KDictZip
import HandS.Iter
import KE.LtData
import KE.SortData
import PyProof.WalkInts
import PyProof.MinMaxWalk
import KE.KDictCopyH
import KE.KDictSum
import HandS.SetFor
import PyProof.IsRules
import KE.KDflt
import HandS.RaiseMore
import HandS.Strs
import HandS.TupSets
import HandS.Codes
import PyProof.DictRoadsH
import PySem.Challenge.RW_tablebeat_k12_the_fewest_marks
set_option Elab.async false
set_option linter.all false
set_option maxRecDepth 100000
set_option maxHeartbeats 0
namespace DL
open PySem PySem.Spec PyProof.Rows L2

inductive D where
  | non | bl (b : Bool) | int (i : Int) | str (x : Str)
  | tup (xs : List D) | frl (xs : List D) | ref (l : Nat)
  | exn (a dd : Nat) (ns : List Str) (xs : List D)
  deriving Inhabited

mutual
def D.eqd : (a b : D) → Decidable (a = b)
  | .non, .non => Decidable.isTrue rfl
  | .bl a, .bl b => if h : a = b then Decidable.isTrue (by rw [h]) else Decidable.isFalse (fun e => h (by injection e))
  | .int a, .int b => if h : a = b then Decidable.isTrue (by rw [h]) else Decidable.isFalse (fun e => h (by injection e))
  | .str a, .str b => if h : a = b then Decidable.isTrue (by rw [h]) else Decidable.isFalse (fun e => h (by injection e))
  | .tup a, .tup b => match D.eqds a b with
    | Decidable.isTrue h => Decidable.isTrue (by rw [h])
    | Decidable.isFalse h => Decidable.isFalse (fun e => h (by injection e))
  | .frl a, .frl b => match D.eqds a b with
    | Decidable.isTrue h => Decidable.isTrue (by rw [h])
    | Decidable.isFalse h => Decidable.isFalse (fun e => h (by injection e))
  | .ref a, .ref b => if h : a = b then Decidable.isTrue (by rw [h]) else Decidable.isFalse (fun e => h (by injection e))
  | .non, .bl _ => Decidable.isFalse nofun | .non, .int _ => Decidable.isFalse nofun | .non, .str _ => Decidable.isFalse nofun | .non, .tup _ => Decidable.isFalse nofun | .non, .frl _ => Decidable.isFalse nofun | .non, .ref _ => Decidable.isFalse nofun
  | .bl _, .non => Decidable.isFalse nofun | .bl _, .int _ => Decidable.isFalse nofun | .bl _, .str _ => Decidable.isFalse nofun | .bl _, .tup _ => Decidable.isFalse nofun | .bl _, .frl _ => Decidable.isFalse nofun | .bl _, .ref _ => Decidable.isFalse nofun
  | .int _, .non => Decidable.isFalse nofun | .int _, .bl _ => Decidable.isFalse nofun | .int _, .str _ => Decidable.isFalse nofun | .int _, .tup _ => Decidable.isFalse nofun | .int _, .frl _ => Decidable.isFalse nofun | .int _, .ref _ => Decidable.isFalse nofun
  | .str _, .non => Decidable.isFalse nofun | .str _, .bl _ => Decidable.isFalse nofun | .str _, .int _ => Decidable.isFalse nofun | .str _, .tup _ => Decidable.isFalse nofun | .str _, .frl _ => Decidable.isFalse nofun | .str _, .ref _ => Decidable.isFalse nofun
  | .tup _, .non => Decidable.isFalse nofun | .tup _, .bl _ => Decidable.isFalse nofun | .tup _, .int _ => Decidable.isFalse nofun | .tup _, .str _ => Decidable.isFalse nofun | .tup _, .frl _ => Decidable.isFalse nofun | .tup _, .ref _ => Decidable.isFalse nofun
  | .frl _, .non => Decidable.isFalse nofun | .frl _, .bl _ => Decidable.isFalse nofun | .frl _, .int _ => Decidable.isFalse nofun | .frl _, .str _ => Decidable.isFalse nofun | .frl _, .tup _ => Decidable.isFalse nofun | .frl _, .ref _ => Decidable.isFalse nofun
  | .ref _, .non => Decidable.isFalse nofun | .ref _, .bl _ => Decidable.isFalse nofun | .ref _, .int _ => Decidable.isFalse nofun | .ref _, .str _ => Decidable.isFalse nofun | .ref _, .tup _ => Decidable.isFalse nofun | .ref _, .frl _ => Decidable.isFalse nofun
  | .exn a b c d, .exn a' b' c' d' => match D.eqds d d' with
    | Decidable.isTrue h => if g : a = a' ∧ b = b' ∧ c = c' then Decidable.isTrue (by obtain ⟨rfl, rfl, rfl⟩ := g; rw [h]) else Decidable.isFalse (fun e => g (by injection e with e1 e2 e3 e4; exact ⟨e1, e2, e3⟩))
    | Decidable.isFalse h => Decidable.isFalse (fun e => h (by injection e))
  | .non, .exn _ _ _ _ => Decidable.isFalse nofun | .bl _, .exn _ _ _ _ => Decidable.isFalse nofun | .int _, .exn _ _ _ _ => Decidable.isFalse nofun | .str _, .exn _ _ _ _ => Decidable.isFalse nofun | .tup _, .exn _ _ _ _ => Decidable.isFalse nofun | .frl _, .exn _ _ _ _ => Decidable.isFalse nofun | .ref _, .exn _ _ _ _ => Decidable.isFalse nofun
  | .exn _ _ _ _, .non => Decidable.isFalse nofun | .exn _ _ _ _, .bl _ => Decidable.isFalse nofun | .exn _ _ _ _, .int _ => Decidable.isFalse nofun | .exn _ _ _ _, .str _ => Decidable.isFalse nofun | .exn _ _ _ _, .tup _ => Decidable.isFalse nofun | .exn _ _ _ _, .frl _ => Decidable.isFalse nofun | .exn _ _ _ _, .ref _ => Decidable.isFalse nofun
def D.eqds : (a b : List D) → Decidable (a = b)
  | [], [] => Decidable.isTrue rfl
  | [], _ :: _ => Decidable.isFalse nofun
  | _ :: _, [] => Decidable.isFalse nofun
  | x :: xs, y :: ys => match D.eqd x y, D.eqds xs ys with
    | Decidable.isTrue h, Decidable.isTrue g => Decidable.isTrue (by rw [h, g])
    | Decidable.isFalse h, _ => Decidable.isFalse (fun e => h (by injection e))
    | _, Decidable.isFalse g => Decidable.isFalse (fun e => g (by injection e))
end
instance : DecidableEq D := D.eqd

inductive DO where
  | lst (xs : List D)
  | dic (k : Nat) (kvs : List (D × D))
  | ins (c : Nat) (fs : List (Str × D))
  | dead
  deriving Inhabited, DecidableEq
def DO.live : DO → Bool
  | .dead => false
  | .dic 3 _ => false
  | .dic 4 _ => false
  | .dic 5 _ => false
  | .dic 6 _ => false
  | .dic 7 _ => false
  | _ => true

structure Exc where
  c : Nat
  fs : Option (List (Str × D))
  deriving Inhabited, DecidableEq

abbrev Sto := List DO
abbrev Sl := List (Option D)
inductive Res (α : Type) where
  | ok (a : α) (S : Sto) | exc (x : Exc) (S : Sto) | stuck
  deriving Inhabited
def Res.bind {α β : Type} (r : Res α) (k : α → Sto → Res β) : Res β := match r with
  | .ok a S => k a S
  | .exc x S => .exc x S
  | .stuck => .stuck
inductive Fl where
  | nx (sd : Sl) | ret (d : D) | brk (sd : Sl) | cnt (sd : Sl)
  deriving Inhabited

structure Cl where
  f : Nat → Addr
  T : List (Addr × Str)
  hh : NestedKey → Int
  lam : Nat → Hp → Obj → Prop
  lmb : Nat → List V → Hp → Obj → Prop
instance : CoeFun Cl (fun _ => Nat → Addr) := ⟨Cl.f⟩
def Imm : HO → Prop
  | .tup _ => True
  | .frz _ _ => True
  | .xd _ => True
  | u => ∃ c q, u = LamX.CodeO c q
theorem imm_code {c : Addr} {q : Str} : Imm (LamX.CodeO c q) := by
  unfold LamX.CodeO
  exact ⟨c, q, rfl⟩
theorem imm_tbl {ps : Array Value} (h : Imm (.tbl ps)) : False := by
  obtain ⟨c, q, z⟩ := h
  unfold LamX.CodeO at z
  cases z
def Keep (H H' : Hp) : Prop := ∀ a o, H a = some o → Imm o → H' a = some o
theorem Keep.refl (H : Hp) : Keep H H := fun _ _ e _ => e
theorem Keep.trans {H H1 H2 : Hp} (a : Keep H H1) (b : Keep H1 H2) : Keep H H2 := fun x o e i => b x o (a x o e i) i
theorem Keep.new {H : Hp} {p : Addr} {o : HO} (h : H p = none) : Keep H (upd H p o) := fun a u e _ => by
  rw [upd_ne (ne_of_none e h)]; exact e
theorem Keep.put {H : Hp} {p : Addr} {o u : HO} (h : H p = some u) (n : ¬ Imm u) : Keep H (upd H p o) := fun a v e i => by
  have : a ≠ p := fun z => by subst z; rw [h] at e; cases e; exact n i
  rw [upd_ne this]; exact e

def Ext (m m' : List Addr) : Prop := ∀ (l : Nat) (a : Addr), m[l]? = some a → m'[l]? = some a
theorem Ext.refl (m : List Addr) : Ext m m := fun _ _ e => e
theorem Ext.trans {a b c : List Addr} (x : Ext a b) (y : Ext b c) : Ext a c := fun l p e => y l p (x l p e)
theorem Ext.snoc (m : List Addr) (p : Addr) : Ext m (m ++ [p]) := fun l a e => by
  rw [List.getElem?_append_left (List.getElem?_eq_some_iff.mp e).1]; exact e

def Fz (K : PySem.W.Frag) (H : Hp) (a : Addr) (xs : List V) : Prop :=
  (∃ o, H a = some (.frz o (.lst xs))) ∨
    ∃ (o : Obj) (its : Array Value) (n : Nat), K.lookup a = some o ∧ o.cls = .type "list" ∧ o.dict = none ∧ o.data = .seq its n ∧ its.size ≤ sizeLine ∧ Vals xs its.toList
theorem Fz.sq {K : PySem.W.Frag} {H : Hp} {a : Addr} {xs : List V} (h : Fz K H a xs) : SqL K H a xs := by
  rcases h with h | h
  · exact .inl (.inr h)
  · exact .inr h
theorem Fz.keep {K : PySem.W.Frag} {H H' : Hp} {a : Addr} {xs : List V} (k : Keep H H') (h : Fz K H a xs) : Fz K H' a xs := by
  rcases h with ⟨o, h⟩ | h
  · exact .inl ⟨o, k _ _ h trivial⟩
  · exact .inr h
theorem sqT_keep {K : PySem.W.Frag} {H H' : Hp} {a : Addr} {xs : List V} (k : Keep H H') (h : SqT K H a xs) : SqT K H' a xs := by
  rcases h with (h | ⟨o, h⟩) | h
  · exact .inl (.inl (k _ _ h trivial))
  · exact .inl (.inr ⟨o, k _ _ h trivial⟩)
  · exact .inr h

mutual
def RV (K : PySem.W.Frag) (m : List Addr) (H : Hp) : D → V → Prop
  | .non, v => v = .non
  | .bl b, v => v = .bl b
  | .int i, v => v = .int i
  | .str x, v => v = .str x
  | .tup ds, v => ∃ a vs, v = .ref a ∧ SqT K H a vs ∧ RVs K m H ds vs
  | .frl ds, v => ∃ a vs, v = .ref a ∧ Fz K H a vs ∧ RVs K m H ds vs
  | .ref l, v => ∃ a, m[l]? = some a ∧ v = .ref a
  | .exn a dd ns ds, v => v = .ref a ∧ ∃ vs, RVs K m H ds vs ∧ (ns ≠ [] → H dd = some (.xd (ns.zip vs)))
def RVs (K : PySem.W.Frag) (m : List Addr) (H : Hp) : List D → List V → Prop
  | [], vs => vs = []
  | d :: ds, vs => ∃ v vs', vs = v :: vs' ∧ RV K m H d v ∧ RVs K m H ds vs'
end

section
variable {K : PySem.W.Frag} {m m' : List Addr} {H H' : Hp}
mutual
theorem RV.mono (x : Ext m m') (k : Keep H H') : ∀ (d : D) {v : V}, RV K m H d v → RV K m' H' d v
  | .non, _, h => h
  | .bl _, _, h => h
  | .int _, _, h => h
  | .str _, _, h => h
  | .tup ds, _, ⟨a, vs, e, s, r⟩ => ⟨a, vs, e, sqT_keep k s, RVs.mono x k ds r⟩
  | .frl ds, _, ⟨a, vs, e, s, r⟩ => ⟨a, vs, e, s.keep k, RVs.mono x k ds r⟩
  | .ref l, _, ⟨a, e, r⟩ => ⟨a, x l a e, r⟩
  | .exn a dd ns ds, _, ⟨e, vs, r, h⟩ => ⟨e, vs, RVs.mono x k ds r, fun n => k _ _ (h n) trivial⟩
theorem RVs.mono (x : Ext m m') (k : Keep H H') : ∀ (ds : List D) {vs : List V}, RVs K m H ds vs → RVs K m' H' ds vs
  | [], _, h => h
  | d :: ds, _, ⟨v, vs', e, r, t⟩ => ⟨v, vs', e, RV.mono x k d r, RVs.mono x k ds t⟩
end
theorem RVs.length : ∀ {ds : List D} {vs : List V}, RVs K m H ds vs → ds.length = vs.length
  | [], _, h => by cases h; rfl
  | d :: ds, _, ⟨v, vs', e, r, t⟩ => by subst e; simp [RVs.length t]
theorem RVs.get : ∀ {ds : List D} {vs : List V} {i : Nat} {d : D}, RVs K m H ds vs → ds[i]? = some d → ∃ v, vs[i]? = some v ∧ RV K m H d v
  | [], _, _, _, _, e => by simp at e
  | d :: ds, _, 0, _, ⟨v, vs', e, r, t⟩, h => by
    subst e; simp at h; subst h; exact ⟨v, rfl, r⟩
  | d :: ds, _, i + 1, _, ⟨v, vs', e, r, t⟩, h => by
    subst e
    obtain ⟨w, e1, e2⟩ := RVs.get (i := i) t (by simpa using h)
    exact ⟨w, by simpa using e1, e2⟩
theorem RVs.set {d : D} {v : V} (r : RV K m H d v) : ∀ {ds : List D} {vs : List V} (i : Nat), RVs K m H ds vs → RVs K m H (ds.set i d) (vs.set i v)
  | [], _, _, h => by cases h; exact rfl
  | _ :: _, _, 0, ⟨w, vs', e, q, t⟩ => by subst e; exact ⟨v, vs', rfl, r, t⟩
  | _ :: _, _, i + 1, ⟨w, vs', e, q, t⟩ => by subst e; exact ⟨w, vs'.set i v, rfl, q, RVs.set r i t⟩
theorem RVs.append : ∀ {ds es : List D} {vs ws : List V}, RVs K m H ds vs → RVs K m H es ws → RVs K m H (ds ++ es) (vs ++ ws)
  | [], _, _, _, h, s => by cases h; exact s
  | _ :: _, _, _, _, ⟨w, vs', e, q, t⟩, s => by subst e; exact ⟨w, _, rfl, q, RVs.append t s⟩
theorem RVs.one {d : D} {v : V} (r : RV K m H d v) : RVs K m H [d] [v] := ⟨v, [], rfl, r, rfl⟩
theorem RVs.take : ∀ {ds : List D} {vs : List V} (n : Nat), RVs K m H ds vs → RVs K m H (ds.take n) (vs.take n)
  | _, _, 0, _ => rfl
  | [], _, _ + 1, h => by cases h; exact rfl
  | _ :: _, _, n + 1, ⟨w, vs', e, q, t⟩ => by subst e; exact ⟨w, _, rfl, q, RVs.take n t⟩
theorem RVs.drop : ∀ {ds : List D} {vs : List V} (n : Nat), RVs K m H ds vs → RVs K m H (ds.drop n) (vs.drop n)
  | _, _, 0, h => h
  | [], _, _ + 1, h => by cases h; exact rfl
  | _ :: _, _, n + 1, ⟨w, vs', e, q, t⟩ => by subst e; exact RVs.drop n t
theorem RVs.rep {ds : List D} {vs : List V} (r : RVs K m H ds vs) : ∀ n : Nat, RVs K m H (List.replicate n ds).flatten (List.replicate n vs).flatten
  | 0 => rfl
  | n + 1 => by
    rw [List.replicate_succ, List.replicate_succ, List.flatten_cons, List.flatten_cons]
    exact RVs.append r (RVs.rep r n)
theorem RVs.erase : ∀ {ds : List D} {vs : List V} (n : Nat), RVs K m H ds vs → RVs K m H (ds.eraseIdx n) (vs.eraseIdx n)
  | [], _, _, h => by cases h; exact rfl
  | _ :: _, _, 0, ⟨w, vs', e, q, t⟩ => by subst e; exact t
  | _ :: _, _, n + 1, ⟨w, vs', e, q, t⟩ => by subst e; exact ⟨w, _, rfl, q, RVs.erase n t⟩
theorem RVs.snoc {ds : List D} {vs : List V} {d : D} {v : V} (t : RVs K m H ds vs) (r : RV K m H d v) : RVs K m H (ds ++ [d]) (vs ++ [v]) := t.append (.one r)
theorem RVs.dropLast : ∀ {ds : List D} {vs : List V}, RVs K m H ds vs → RVs K m H ds.dropLast vs.dropLast := fun {ds vs} t => by
  rw [List.dropLast_eq_take, List.dropLast_eq_take, t.length]; exact t.take _
end

def RF (K : PySem.W.Frag) (m : List Addr) (H : Hp) : List (Str × D) → List (Str × V) → Prop
  | [], gs => gs = []
  | p :: fs, gs => ∃ v gs', gs = (p.1, v) :: gs' ∧ RV K m H p.2 v ∧ RF K m H fs gs'
def key0 : D → Option Key
  | .int i => some (.inl i)
  | .str x => some (.inr x)
  | _ => none
def RD0 (K : PySem.W.Frag) (m : List Addr) (H : Hp) : List (D × D) → List (Key × V) → Prop
  | [], gs => gs = []
  | p :: fs, gs => ∃ k v gs', gs = (k, v) :: gs' ∧ key0 p.1 = some k ∧ RV K m H p.2 v ∧ RD0 K m H fs gs'
def keys0 : List D → Option (List Key)
  | [] => some []
  | d :: ds => match key0 d, keys0 ds with
    | some k, some ks => some (k :: ks)
    | _, _ => none
def key1 : D → Option (List Key)
  | .tup ds => keys0 ds
  | _ => none
def RD1 (K : PySem.W.Frag) (m : List Addr) (H : Hp) : List (D × D) → List (List Key × V) → Prop
  | [], gs => gs = []
  | p :: fs, gs => ∃ k v gs', gs = (k, v) :: gs' ∧ key1 p.1 = some k ∧ RV K m H p.2 v ∧ RD1 K m H fs gs'
mutual
def nkey : D → Option NestedKey
  | .non => some .none
  | .int i => some (.num i)
  | .str x => some (.text x)
  | .tup ds => match nkeys ds with
    | some ks => some (.tup ks)
    | none => none
  | .bl _ => none
  | .frl _ => none
  | .ref _ => none
  | .exn _ _ _ _ => none
def nkeys : List D → Option (List NestedKey)
  | [] => some []
  | d :: ds => match nkey d, nkeys ds with
    | some k, some ks => some (k :: ks)
    | _, _ => none
end
def RawO (a : Addr) (es : Array DictEntry) (ep : Nat) : HO := .ext fun h => ∃ o, h.get? a = some o ∧ o.ExactDict ∧ o.data = .dict es ep
theorem rawO_ne {a c : Addr} {es : Array DictEntry} {ep : Nat} {q : Str} : RawO a es ep ≠ LamX.CodeO c q := by
  intro z
  unfold RawO LamX.CodeO at z
  injection z with z
  have h1 : ∃ o, (⟨Array.replicate (a + 1) { cls := .type "dict", data := .dict es ep }, {}⟩ : Heap).get? a = some o ∧ o.ExactDict ∧ o.data = .dict es ep := by
    refine ⟨{ cls := .type "dict", data := .dict es ep }, ?_, ⟨rfl, rfl, rfl⟩, rfl⟩
    simp only [Heap.get?, Array.getElem?_replicate]
    rw [if_pos (by omega)]
  have h2 := congrFun z ⟨Array.replicate (a + 1) { cls := .type "dict", data := .dict es ep }, {}⟩
  rw [h2] at h1
  obtain ⟨oc, vs, t, e1, e2, _⟩ := h1
  simp only [Heap.get?, Array.getElem?_replicate] at e1
  by_cases hc : c < a + 1
  · rw [if_pos hc] at e1
    cases e1
    cases e2
  · rw [if_neg hc] at e1
    cases e1
def RD2 (K : PySem.W.Frag) (m : List Addr) (H : Hp) : List (D × D) → List (NestedKey × Addr × Value) → Prop
  | [], xs => xs = []
  | p :: fs, xs => ∃ k b v u xs', xs = (k, b, u) :: xs' ∧ nkey p.1 = some k ∧ k.depth ≤ 8 ∧ RV K m H p.1 (.ref b) ∧ RV K m H p.2 v ∧ RelV v u ∧ RD2 K m H fs xs'
def RO (cl : Cl) (K : PySem.W.Frag) (m : List Addr) (H : Hp) : DO → Addr → Prop
  | .lst ds, a => ∃ vs, H a = some (.lst vs) ∧ RVs K m H ds vs
  | .dic 0 kvs, a => ∃ gs, H a = some (.dK gs) ∧ RD0 K m H kvs gs
  | .dic 1 kvs, a => ∃ gs, H a = some (.dT gs) ∧ RD1 K m H kvs gs
  | .dic 2 kvs, a => ∃ xs es ep, H a = some (RawO a es ep) ∧ es.toList = xs.map (fun x => ⟨cl.hh x.1, .ref x.2.1, x.2.2⟩) ∧ (xs.map (·.1)).Nodup ∧ (a == sysModules) = false ∧ RD2 K m H kvs xs
  | .dic 3 kvs, a => ∃ gs o, H a = some (.frz o (.dK gs)) ∧ RD0 K m H kvs gs
  | .dic 4 kvs, a => ∃ ds o vs, kvs = [(.non, .tup ds)] ∧ H a = some (.frz o (.tup vs)) ∧ o.cls = .type "tuple" ∧ o.dict = none ∧ RVs K m H ds vs
  | .dic 5 kvs, a => ∃ i o u, kvs = [(.int i, .non)] ∧ H a = some (.frz o u) ∧ ∀ H', Keep H H' → cl.lam i.toNat H' o
  | .dic 6 kvs, a => ∃ xs es ep o, H a = some (.frz o (RawO a es ep)) ∧ es.toList = xs.map (fun x => ⟨cl.hh x.1, .ref x.2.1, x.2.2⟩) ∧ (xs.map (·.1)).Nodup ∧ (a == sysModules) = false ∧ RD2 K m H kvs xs
  | .dic 7 kvs, a => ∃ i ds vs o u, kvs = [(.int i, .tup ds)] ∧ H a = some (.frz o u) ∧ RVs K m H ds vs ∧ ∀ H', Keep H H' → cl.lmb i.toNat vs H' o
  | .dic _ _, _ => False
  | .ins c fs, a => ∃ dx gs, H a = some (.ins (cl c) dx gs) ∧ RF K m H fs gs
  | .dead, a => ∃ o xs, H a = some (.frz o (.lst xs))
section
variable {cl : Cl} {K : PySem.W.Frag} {m m' : List Addr} {H H' : Hp}
theorem RF.mono (x : Ext m m') (k : Keep H H') : ∀ {fs : List (Str × D)} {gs : List (Str × V)}, RF K m H fs gs → RF K m' H' fs gs
  | [], _, h => h
  | _ :: _, _, ⟨v, gs', e, r, t⟩ => ⟨v, gs', e, RV.mono x k _ r, RF.mono x k t⟩
theorem RD0.mono (x : Ext m m') (k : Keep H H') : ∀ {fs : List (D × D)} {gs : List (Key × V)}, RD0 K m H fs gs → RD0 K m' H' fs gs
  | [], _, h => h
  | _ :: _, _, ⟨q, v, gs', e, hk, r, t⟩ => ⟨q, v, gs', e, hk, RV.mono x k _ r, RD0.mono x k t⟩
theorem RD1.mono (x : Ext m m') (k : Keep H H') : ∀ {fs : List (D × D)} {gs : List (List Key × V)}, RD1 K m H fs gs → RD1 K m' H' fs gs
  | [], _, h => h
  | _ :: _, _, ⟨q, v, gs', e, hk, r, t⟩ => ⟨q, v, gs', e, hk, RV.mono x k _ r, RD1.mono x k t⟩
theorem RD2.mono (x : Ext m m') (k : Keep H H') : ∀ {fs : List (D × D)} {xs : List (NestedKey × Addr × Value)}, RD2 K m H fs xs → RD2 K m' H' fs xs
  | [], _, h => h
  | _ :: _, _, ⟨q, b, v, u, xs', e, hk, hd, r1, r2, r3, t⟩ => ⟨q, b, v, u, xs', e, hk, hd, RV.mono x k _ r1, RV.mono x k _ r2, r3, RD2.mono x k t⟩
theorem RO.mono (x : Ext m m') (k : Keep H H') {a : Addr} (ha : H' a = H a) : ∀ {o : DO}, RO cl K m H o a → RO cl K m' H' o a
  | .lst ds, ⟨vs, e, r⟩ => ⟨vs, by rw [ha]; exact e, r.mono x k⟩
  | .dic 0 kvs, ⟨gs, e, r⟩ => ⟨gs, by rw [ha]; exact e, r.mono x k⟩
  | .dic 1 kvs, ⟨gs, e, r⟩ => ⟨gs, by rw [ha]; exact e, r.mono x k⟩
  | .dic 2 kvs, ⟨xs, es, ep, e, e1, e2, e3, r⟩ => ⟨xs, es, ep, by rw [ha]; exact e, e1, e2, e3, r.mono x k⟩
  | .dic 3 kvs, ⟨gs, o, e, r⟩ => ⟨gs, o, by rw [ha]; exact e, r.mono x k⟩
  | .dic 4 kvs, ⟨ds, o, vs, e0, e, e1, e2, r⟩ => ⟨ds, o, vs, e0, by rw [ha]; exact e, e1, e2, r.mono x k⟩
  | .dic 5 kvs, ⟨i, o, u, e0, e, r⟩ => ⟨i, o, u, e0, by rw [ha]; exact e, fun H2 k2 => r H2 (k.trans k2)⟩
  | .dic 6 kvs, ⟨xs, es, ep, o, e, e1, e2, e3, r⟩ => ⟨xs, es, ep, o, by rw [ha]; exact e, e1, e2, e3, r.mono x k⟩
  | .dic 7 kvs, ⟨i, ds, vs, o, u, e0, e, r, q⟩ => ⟨i, ds, vs, o, u, e0, by rw [ha]; exact e, r.mono x k, fun H2 k2 => q H2 (k.trans k2)⟩
  | .dic (_ + 8) kvs, h => h.elim
  | .ins c fs, ⟨dx, gs, e, r⟩ => ⟨dx, gs, by rw [ha]; exact e, r.mono x k⟩
  | .dead, ⟨o, u, e⟩ => ⟨o, u, by rw [ha]; exact e⟩
def OwnH (u : HO) : Prop := (∀ ps, u ≠ .tbl ps) ∧ ∀ c q, u ≠ LamX.CodeO c q
theorem RO.some {a : Addr} : ∀ {o : DO}, RO cl K m H o a → o.live = true → ∃ u, H a = some u ∧ ¬ Imm u ∧ OwnH u
  | .lst ds, ⟨vs, e, r⟩, _ => ⟨_, e, (fun z => by obtain ⟨c, q, z⟩ := z; unfold LamX.CodeO at z; cases z), (fun _ z => by cases z), fun _ _ z => by unfold LamX.CodeO at z; cases z⟩
  | .dic 0 kvs, ⟨gs, e, r⟩, _ => ⟨_, e, (fun z => by obtain ⟨c, q, z⟩ := z; unfold LamX.CodeO at z; cases z), (fun _ z => by cases z), fun _ _ z => by unfold LamX.CodeO at z; cases z⟩
  | .dic 1 kvs, ⟨gs, e, r⟩, _ => ⟨_, e, (fun z => by obtain ⟨c, q, z⟩ := z; unfold LamX.CodeO at z; cases z), (fun _ z => by cases z), fun _ _ z => by unfold LamX.CodeO at z; cases z⟩
  | .dic 2 kvs, ⟨xs, es, ep, e, _⟩, _ => ⟨_, e, (fun z => by unfold RawO at z; obtain ⟨c, q, z⟩ := z; exact rawO_ne z), (fun _ z => by unfold RawO at z; cases z), fun _ _ z => rawO_ne z⟩
  | .dic 3 _, _, h => by cases h
  | .dic 4 _, _, h => by cases h
  | .dic 5 _, _, h => by cases h
  | .dic 6 kvs, _, h => by cases h
  | .dic 7 _, _, h => by cases h
  | .dic (_ + 8) kvs, h, _ => h.elim
  | .ins c fs, ⟨dx, gs, e, r⟩, _ => ⟨_, e, (fun z => by obtain ⟨c, q, z⟩ := z; unfold LamX.CodeO at z; cases z), (fun _ z => by cases z), fun _ _ z => by unfold LamX.CodeO at z; cases z⟩
  | .dead, _, h => by cases h
theorem RO.any {a : Addr} : ∀ {o : DO}, RO cl K m H o a → ∃ u, H a = Option.some u ∧ OwnH u
  | .dead, ⟨o, u, e⟩ => ⟨_, e, (fun _ z => by cases z), fun _ _ z => by unfold LamX.CodeO at z; cases z⟩
  | .lst _, h => let ⟨u, e, _, w⟩ := RO.some h rfl; ⟨u, e, w⟩
  | .dic 0 _, h => let ⟨u, e, _, w⟩ := RO.some h rfl; ⟨u, e, w⟩
  | .dic 1 _, h => let ⟨u, e, _, w⟩ := RO.some h rfl; ⟨u, e, w⟩
  | .dic 2 _, h => let ⟨u, e, _, w⟩ := RO.some h rfl; ⟨u, e, w⟩
  | .dic 3 _, ⟨gs, o, e, r⟩ => ⟨_, e, (fun _ z => by cases z), fun _ _ z => by unfold LamX.CodeO at z; cases z⟩
  | .dic 4 _, ⟨_, o, vs, _, e, _⟩ => ⟨_, e, (fun _ z => by cases z), fun _ _ z => by unfold LamX.CodeO at z; cases z⟩
  | .dic 5 _, ⟨_, o, u, _, e, _⟩ => ⟨_, e, (fun _ z => by cases z), fun _ _ z => by unfold LamX.CodeO at z; cases z⟩
  | .dic 6 _, ⟨_, _, _, o, e, _⟩ => ⟨_, e, (fun _ z => by cases z), fun _ _ z => by unfold LamX.CodeO at z; cases z⟩
  | .dic 7 _, ⟨_, _, _, o, _, _, e, _⟩ => ⟨_, e, (fun _ z => by cases z), fun _ _ z => by unfold LamX.CodeO at z; cases z⟩
  | .dic (_ + 8) _, h => h.elim
  | .ins _ _, h => let ⟨u, e, _, w⟩ := RO.some h rfl; ⟨u, e, w⟩
end
structure RS (cl : Cl) (K : PySem.W.Frag) (m : List Addr) (S : Sto) (H : Hp) : Prop where
  len : m.length = S.length
  nd : ∀ (i j : Nat) (a : Addr), m[i]? = some a → m[j]? = some a → i = j
  obj : ∀ (l : Nat) (o : DO) (a : Addr), S[l]? = some o → m[l]? = some a → RO cl K m H o a
  tb : LamX.Tabs cl.T H
structure RSl (K : PySem.W.Frag) (m : List Addr) (H : Hp) (sd : Sl) (σ : L2.St) : Prop where
  len : sd.length = σ.length
  at_ : ∀ (i : Nat) (d : D), sd[i]? = some (some d) → ∃ v, σ[i]? = some (some v) ∧ RV K m H d v
def RX (K : PySem.W.Frag) (m : List Addr) (H : Hp) (x : Exc) (dd : Option Addr) : Prop :=
  match x.fs with
  | none => dd = none
  | some fs => ∃ d gs, dd = some d ∧ H d = some (.xd gs) ∧ RF K m H fs gs
section
variable {cl : Cl} {K : PySem.W.Frag} {m m' : List Addr} {S : Sto} {H H' : Hp} {sd : Sl} {σ : L2.St}
theorem RS.adr (r : RS cl K m S H) {l : Nat} {o : DO} (h : S[l]? = some o) : ∃ a, m[l]? = some a ∧ RO cl K m H o a := by
  have hl : l < m.length := by rw [r.len]; exact (List.getElem?_eq_some_iff.mp h).1
  have e : m[l]? = some m[l] := by simp [hl]
  exact ⟨m[l], e, r.obj l o _ h e⟩
theorem RS.back (r : RS cl K m S H) {l : Nat} {a : Addr} (h : m[l]? = some a) : ∃ o, S[l]? = some o ∧ RO cl K m H o a := by
  have hl : l < S.length := by rw [← r.len]; exact (List.getElem?_eq_some_iff.mp h).1
  have e : S[l]? = some S[l] := by simp [hl]
  exact ⟨S[l], e, r.obj l _ _ e h⟩
theorem RS.new (r : RS cl K m S H) {p : Addr} {u : HO} {o : DO} (hp : H p = none) (ho : RO cl K (m ++ [p]) (upd H p u) o p) : RS cl K (m ++ [p]) (S ++ [o]) (upd H p u) := by
  have ne : ∀ (l : Nat) (a : Addr), m[l]? = some a → a ≠ p := fun l a e => by
    obtain ⟨o', _, ro⟩ := r.back e
    obtain ⟨u', h', _⟩ := ro.any
    exact ne_of_none h' hp
  refine ⟨by simp [r.len], fun i j a hi hj => ?_, fun l o' a hs hm => ?_, r.tb.ext fun b o e => by rw [upd_ne (ne_of_none e hp)]; exact e⟩
  · rw [List.getElem?_append] at hi hj
    split at hi <;> split at hj
    · exact r.nd i j a hi hj
    · rename_i h1 h2
      have : a = p := by
        cases hz : j - m.length with
        | zero => rw [hz] at hj; simp at hj; exact hj.symm
        | succ n => rw [hz] at hj; simp at hj
      exact absurd this (ne i a hi)
    · have : a = p := by
        cases hz : i - m.length with
        | zero => rw [hz] at hi; simp at hi; exact hi.symm
        | succ n => rw [hz] at hi; simp at hi
      exact absurd this (ne j a hj)
    · rename_i h1 h2
      have e1 : i - m.length = 0 := by
        cases hz : i - m.length with
        | zero => rfl
        | succ n => rw [hz] at hi; simp at hi
      have e2 : j - m.length = 0 := by
        cases hz : j - m.length with
        | zero => rfl
        | succ n => rw [hz] at hj; simp at hj
      omega
  · rw [List.getElem?_append] at hs hm
    rw [← r.len] at hs
    split at hm
    · rename_i h1
      rw [if_pos h1] at hs
      exact (r.obj l o' a hs hm).mono (Ext.snoc m p) (Keep.new hp) (upd_ne (ne l a hm))
    · rename_i h1
      rw [if_neg h1] at hs
      have e1 : l - m.length = 0 := by
        cases hz : l - m.length with
        | zero => rfl
        | succ n => rw [hz] at hm; simp at hm
      rw [e1] at hm hs
      simp at hm hs
      subst hm hs
      exact ho
theorem tabs_put {T : List (Addr × Str)} {H : Hp} {a : Addr} {u0 u : HO} (hu : H a = some u0) (ow : OwnH u0) (t : LamX.Tabs T H) : LamX.Tabs T (upd H a u) := fun p hp => by
  obtain ⟨ps, h1, h2, h3⟩ := t p hp
  have ne : ∀ b w, H b = some w → (w = u0 → False) → b ≠ a := fun b w e n z => by subst z; rw [hu] at e; cases e; exact n rfl
  refine ⟨ps, by rw [upd_ne (ne _ _ h1 fun z => ow.1 ps z.symm)]; exact h1, h2, fun pos cv hc => ?_⟩
  obtain ⟨c, e1, e2⟩ := h3 pos cv hc
  exact ⟨c, e1, by rw [upd_ne (ne _ _ e2 fun z => ow.2 _ _ z.symm)]; exact e2⟩
theorem RS.put (r : RS cl K m S H) {l : Nat} {a : Addr} {o o' : DO} {u : HO} (hs : S[l]? = some o) (hm : m[l]? = some a) (ho : RO cl K m (upd H a u) o' a) (lv : o.live = true := by rfl) : RS cl K m (S.set l o') (upd H a u) := by
  have hl : l < S.length := (List.getElem?_eq_some_iff.mp hs).1
  obtain ⟨u0, hu, ni, ow⟩ := (r.obj l o a hs hm).some lv
  refine ⟨by simp [r.len], r.nd, fun i o2 b h1 h2 => ?_, tabs_put hu ow r.tb⟩
  by_cases e : l = i
  · subst e
    rw [hm] at h2; cases h2
    rw [List.getElem?_set_self hl] at h1; cases h1
    exact ho
  · rw [List.getElem?_set_ne e] at h1
    have nb : b ≠ a := fun z => by subst z; exact e (r.nd l i b hm h2)
    exact (r.obj i o2 b h1 h2).mono (Ext.refl m) (Keep.put hu ni) (upd_ne nb)
theorem RS.keepPut (r : RS cl K m S H) {l : Nat} {a : Addr} {o : DO} {u : HO} (hs : S[l]? = some o) (hm : m[l]? = some a) (lv : o.live = true := by rfl) : Keep H (upd H a u) := by
  obtain ⟨u0, hu, ni, _⟩ := (r.obj l o a hs hm).some lv
  exact Keep.put hu ni
theorem RS.ext (r : RS cl K m S H) {p : Addr} {u : HO} (hp : H p = none) : RS cl K m S (upd H p u) :=
  ⟨r.len, r.nd, fun l o a h1 h2 => by
    obtain ⟨u0, hu, _⟩ := (r.obj l o a h1 h2).any
    exact (r.obj l o a h1 h2).mono (Ext.refl m) (Keep.new hp) (upd_ne (ne_of_none hu hp)), r.tb.ext fun b o e => by rw [upd_ne (ne_of_none e hp)]; exact e⟩
theorem RSl.mono (x : Ext m m') (k : Keep H H') (r : RSl K m H sd σ) : RSl K m' H' sd σ :=
  ⟨r.len, fun i d e => let ⟨v, e1, e2⟩ := r.at_ i d e; ⟨v, e1, RV.mono x k d e2⟩⟩
theorem RSl.set {d : D} {v : V} (r : RSl K m H sd σ) (i : Nat) (h : RV K m H d v) : RSl K m H (sd.set i (some d)) (σ.set i (some v)) := by
  refine ⟨by simp [r.len], fun j d' e => ?_⟩
  by_cases z : i = j
  · subst z
    have hl : i < sd.length := by have := (List.getElem?_eq_some_iff.mp e).1; simpa using this
    rw [List.getElem?_set_self hl] at e; cases e
    exact ⟨v, by rw [List.getElem?_set_self (by rw [← r.len]; exact hl)], h⟩
  · rw [List.getElem?_set_ne z] at e
    rw [List.getElem?_set_ne z]
    exact r.at_ j d' e
theorem RSl.unset (r : RSl K m H sd σ) (i : Nat) : RSl K m H (sd.set i none) (σ.set i none) := by
  refine ⟨by simp [r.len], fun j d' e => ?_⟩
  by_cases z : i = j
  · subst z
    have hl : i < sd.length := by have := (List.getElem?_eq_some_iff.mp e).1; simpa using this
    rw [List.getElem?_set_self hl] at e; cases e
  · rw [List.getElem?_set_ne z] at e
    rw [List.getElem?_set_ne z]
    exact r.at_ j d' e
end

section
variable (cl : Cl) (K : PySem.W.Frag)
def Post {α β : Type} (Rv : List Addr → Hp → α → β → Prop) (m : List Addr) (H : Hp) (E : XK) (Q : β → Hp → Prop) : Res α → Prop
  | .ok d S' => ∀ m' v H', Ext m m' → Keep H H' → RS cl K m' S' H' → Rv m' H' d v → Q v H'
  | .exc x S' => ∀ m' dd H', Ext m m' → Keep H H' → RS cl K m' S' H' → RX K m' H' x dd → E (.ref (cl x.c)) dd H'
  | .stuck => False
end
section
variable {cl : Cl} {K : PySem.W.Frag} {α β γ δ : Type} {Rv : List Addr → Hp → α → β → Prop} {Rw : List Addr → Hp → γ → δ → Prop} {m m' : List Addr} {H H' : Hp} {E : XK} {Q : β → Hp → Prop}
theorem Post.mono (x : Ext m m') (k : Keep H H') : ∀ {r : Res α}, Post cl K Rv m H E Q r → Post cl K Rv m' H' E Q r
  | .ok _ _, h => fun m2 v H2 x2 k2 => h m2 v H2 (x.trans x2) (k.trans k2)
  | .exc _ _, h => fun m2 v H2 x2 k2 => h m2 v H2 (x.trans x2) (k.trans k2)
  | .stuck, h => h
theorem Post.bind {r : Res α} {k : α → Sto → Res γ} {Q' : δ → Hp → Prop} (h : Post cl K Rw m H E Q' (r.bind k))
    (hk : ∀ d S1 m1 v H1, Ext m m1 → Keep H H1 → RS cl K m1 S1 H1 → Rv m1 H1 d v → Post cl K Rw m1 H1 E Q' (k d S1) → Q v H1) : Post cl K Rv m H E Q r := by
  cases r with
  | ok d S1 => exact fun m1 v H1 x1 k1 rs rv => hk d S1 m1 v H1 x1 k1 rs rv (Post.mono x1 k1 h)
  | exc x S1 => exact h
  | stuck => exact h
theorem Post.imp {Q' : β → Hp → Prop} (hq : ∀ v H, Q v H → Q' v H) : ∀ {r : Res α}, Post cl K Rv m H E Q r → Post cl K Rv m H E Q' r
  | .ok _ _, h => fun m2 v H2 x2 k2 a b => hq _ _ (h m2 v H2 x2 k2 a b)
  | .exc _ _, h => h
  | .stuck, h => h
theorem Post.here {d : α} {v : β} {S : Sto} (h : Post cl K Rv m H E Q (.ok d S)) (rs : RS cl K m S H) (rv : Rv m H d v) : Q v H := h m v H (Ext.refl m) (Keep.refl H) rs rv
end
def RBool : List Addr → Hp → Bool → Bool → Prop := fun _ _ a b => a = b
inductive FC where
  | nx (σ : L2.St) | ret (v : V) | brk (σ : L2.St) | cnt (σ : L2.St)
def endQ (D : Ends) : FC → Hp → Prop
  | .nx σ, H => D.nx σ H
  | .ret v, H => D.rt v H
  | .brk σ, H => D.bk σ H
  | .cnt σ, H => D.ct σ H
def RFl (K : PySem.W.Frag) (m : List Addr) (H : Hp) : Fl → FC → Prop
  | .nx sd, .nx σ => RSl K m H sd σ
  | .ret d, .ret v => RV K m H d v
  | .brk sd, .brk σ => RSl K m H sd σ
  | .cnt sd, .cnt σ => RSl K m H sd σ
  | _, _ => False

section
variable (cl : Cl) (X : Cx) (E : XK)
def DE (e : Expr) (f : Sl → Sto → Res D) : Prop :=
  ∃ t, PE X e t ∧ ∀ m S H sd σ Q, RS cl X.K m S H → RSl X.K m H sd σ → Post cl X.K (RV X.K) m H E Q (f sd S) → t σ H Q
def DT (e : Expr) (f : Sl → Sto → Res Bool) : Prop :=
  ∃ t, PT X e t ∧ ∀ m S H sd σ Q, RS cl X.K m S H → RSl X.K m H sd σ → Post cl X.K RBool m H E Q (f sd S) → t σ H Q
def DW (e : Expr) (f : Sl → Sto → Res Bool) : Prop :=
  ∃ t, PW X e t ∧ ∀ m S H sd σ Q, RS cl X.K m S H → RSl X.K m H sd σ → Post cl X.K RBool m H E Q (f sd S) → t σ H Q
def DA (es : List Expr) (f : Sl → Sto → Res (List D)) : Prop :=
  ∃ t, PA X es t ∧ ∀ m S H sd σ Q, RS cl X.K m S H → RSl X.K m H sd σ → Post cl X.K (RVs X.K) m H E Q (f sd S) → t σ H Q
def DS (st : Stmt) (f : Sl → Sto → Res Fl) : Prop :=
  ∃ t, PS X st t ∧ ∀ m S H sd σ D, RS cl X.K m S H → RSl X.K m H sd σ → Post cl X.K (RFl X.K) m H E (endQ D) (f sd S) → t D σ H
def DSs (st : List Stmt) (f : Sl → Sto → Res Fl) : Prop :=
  ∃ t, PSs X st t ∧ ∀ m S H sd σ D, RS cl X.K m S H → RSl X.K m H sd σ → Post cl X.K (RFl X.K) m H E (endQ D) (f sd S) → t D σ H
def DG (tg : Expr) (f : D → Sl → Sto → Res Sl) : Prop :=
  ∃ g, PG X tg g ∧ ∀ m S H sd σ d v Q, RS cl X.K m S H → RSl X.K m H sd σ → RV X.K m H d v → Post cl X.K (RSl X.K) m H E Q (f d sd S) → g v σ H Q
def DGs (tg : List Expr) (f : List D → Sl → Sto → Res Sl) : Prop :=
  ∃ g, PGs X tg g ∧ ∀ m S H sd σ ds vs Q, RS cl X.K m S H → RSl X.K m H sd σ → RVs X.K m H ds vs → Post cl X.K (RSl X.K) m H E Q (f ds sd S) → g vs σ H Q
end

section
variable {cl : Cl} {X : Cx} {E : XK}
def dVar (i : Nat) : Sl → Sto → Res D := fun sd S => match sd[i]? with
  | some (some d) => .ok d S
  | _ => .stuck
def dC (d : D) : Sl → Sto → Res D := fun _ S => .ok d S
theorem z3 (i : Nat) {x : Str} {pos : Pos} (hN : X.N[i]? = some x := by rfl) (hv : Vis X.env.scope x := by first | exact Or.inl rfl | exact Or.inr (Or.inl rfl) | exact Or.inr (Or.inr rfl)) (hd : (x == ("__debug__" : Str)) = false := by decide)
    (hcd : (x == ("__classdict__" : Str)) = false := by decide) : DE cl X E (.Name x pos) (dVar i) := by
  refine ⟨_, pe_var hN hv hd hcd, fun m S H sd σ Q rs rl h => ?_⟩
  unfold dVar at h
  split at h
  · rename_i d e
    obtain ⟨v, e1, r⟩ := rl.at_ i d e
    exact ⟨v, e1, h.here rs r⟩
  · exact h.elim
theorem za {i : Int} {j pos} : DE cl X E (.Constant (.int i) j pos) (dC (.int i)) := ⟨_, pe_int, fun m S H sd σ Q rs rl h => h.here rs rfl⟩
theorem de_bl {i : Bool} {j pos} : DE cl X E (.Constant (.bool i) j pos) (dC (.bl i)) := ⟨_, pe_bl, fun m S H sd σ Q rs rl h => h.here rs rfl⟩
theorem de_non {j pos} : DE cl X E (.Constant .none j pos) (dC .non) := ⟨_, pe_non, fun m S H sd σ Q rs rl h => h.here rs rfl⟩
theorem zc {x : Str} {j pos} : DE cl X E (.Constant (.str x) j pos) (dC (.str x)) := ⟨_, pe_str, fun m S H sd σ Q rs rl h => h.here rs rfl⟩

def dNil : Sl → Sto → Res (List D) := fun _ S => .ok [] S
def dCons (f : Sl → Sto → Res D) (g : Sl → Sto → Res (List D)) : Sl → Sto → Res (List D) := fun sd S =>
  (f sd S).bind fun d S1 => (g sd S1).bind fun ds S2 => .ok (d :: ds) S2
theorem z7 : DA cl X E [] dNil := ⟨_, pa_nil, fun m S H sd σ Q rs rl h => h.here rs rfl⟩
theorem z4 {e : Expr} {es : List Expr} {f g} (he : DE cl X E e f) (hr : DA cl X E es g) (hs : starEach (e :: es) X.env = (false, eval e X.env) :: starEach es X.env := by rfl) : DA cl X E (e :: es) (dCons f g) := by
  obtain ⟨t, p, he⟩ := he
  obtain ⟨u, q, hr⟩ := hr
  refine ⟨_, pa_cons p q hs, fun m S H sd σ Q rs rl h => ?_⟩
  refine he m S H sd σ _ rs rl (Post.bind h fun d S1 m1 v H1 x1 k1 rs1 rv1 h1 => ?_)
  refine hr m1 S1 H1 sd σ _ rs1 (rl.mono x1 k1) (Post.bind h1 fun ds S2 m2 vs H2 x2 k2 rs2 rv2 h2 => ?_)
  exact h2.here rs2 ⟨v, vs, rfl, RV.mono x2 k2 d rv1, rv2⟩

def dTup (f : Sl → Sto → Res (List D)) : Sl → Sto → Res D := fun sd S => (f sd S).bind fun ds S1 => if ds.length ≤ sizeLine then .ok (.tup ds) S1 else .stuck
def dLst (f : Sl → Sto → Res (List D)) : Sl → Sto → Res D := fun sd S => (f sd S).bind fun ds S1 => if ds.length ≤ sizeLine then .ok (.ref S1.length) (S1 ++ [.lst ds]) else .stuck
theorem newTup {m : List Addr} {S : Sto} {H : Hp} {ds : List D} {vs : List V} {p : Addr} {K : PySem.W.Frag} (rs : RS cl K m S H) (r : RVs K m H ds vs) (hp : H p = none) :
    RS cl K m S (upd H p (.tup vs)) ∧ RV K m (upd H p (.tup vs)) (.tup ds) (.ref p) :=
  ⟨rs.ext hp, p, vs, rfl, .of upd_same, r.mono (Ext.refl m) (Keep.new hp)⟩
theorem newLst {m : List Addr} {S : Sto} {H : Hp} {ds : List D} {vs : List V} {p : Addr} {K : PySem.W.Frag} (rs : RS cl K m S H) (r : RVs K m H ds vs) (hp : H p = none) :
    RS cl K (m ++ [p]) (S ++ [.lst ds]) (upd H p (.lst vs)) ∧ RV K (m ++ [p]) (upd H p (.lst vs)) (.ref S.length) (.ref p) :=
  ⟨rs.new hp ⟨vs, upd_same, r.mono (Ext.snoc m p) (Keep.new hp)⟩, p, by rw [← rs.len]; simp, rfl⟩
theorem de_tup {es : List Expr} {f x1 pos} (h : DA cl X E es f) : DE cl X E (.Tuple es x1 pos) (dTup f) := by
  obtain ⟨t, p, h⟩ := h
  refine ⟨_, pe_tup p, fun m S H sd σ Q rs rl hh => ?_⟩
  refine h m S H sd σ _ rs rl (Post.bind hh fun ds S1 m1 vs H1 x1 k1 rs1 rv1 h1 => ?_)
  split at h1
  · rename_i hz
    refine ⟨by rw [← rv1.length]; exact hz, fun p hp => ?_⟩
    obtain ⟨a, b⟩ := newTup rs1 rv1 hp
    exact h1 m1 _ _ (Ext.refl m1) (Keep.new hp) a b
  · exact h1.elim
theorem de_lst {es : List Expr} {f pos} (h : DA cl X E es f) : DE cl X E (.List es pos) (dLst f) := by
  obtain ⟨t, p, h⟩ := h
  refine ⟨_, pe_lst p, fun m S H sd σ Q rs rl hh => ?_⟩
  refine h m S H sd σ _ rs rl (Post.bind hh fun ds S1 m1 vs H1 x1 k1 rs1 rv1 h1 => ?_)
  split at h1
  · rename_i hz
    refine ⟨by rw [← rv1.length]; exact hz, fun p hp => ?_⟩
    obtain ⟨a, b⟩ := newLst rs1 rv1 hp
    exact h1 _ _ _ (Ext.snoc m1 p) (Keep.new hp) a b
  · exact h1.elim
end
def lsD (d : D) (S : Sto) : Option (List D) := match d with
  | .frl ds => some ds
  | .ref l => match S[l]? with
    | some (.lst ds) => some ds
    | _ => none
  | _ => none
theorem ls_rv {cl : Cl} {K : PySem.W.Frag} {m : List Addr} {S : Sto} {H : Hp} {d : D} {v : V} {ds : List D} (rs : RS cl K m S H) (rv : RV K m H d v) (h : lsD d S = some ds) :
    ∃ a vs, v = .ref a ∧ SqL K H a vs ∧ RVs K m H ds vs := by
  unfold lsD at h
  split at h
  · cases h
    obtain ⟨a, vs, rfl, s1, r1⟩ := rv
    exact ⟨a, vs, rfl, s1.sq, r1⟩
  · split at h
    · rename_i es e1
      cases h
      obtain ⟨a, h1, ws, hv, r1⟩ := rs.adr e1
      obtain ⟨a', h2, rfl⟩ := rv
      rw [h1] at h2; cases h2
      exact ⟨a, ws, rfl, SqL.of hv, r1⟩
    · cases h
  · cases h
end DL

namespace DL
open PySem PySem.Spec PyProof.Rows L2

section
variable (cl : Cl) (X : Cx)
def OpD (f : Value → Value → Sem Value) (g : D → D → Sto → Res D) : Prop :=
  ∃ r, OpR X f r ∧ ∀ (E : XK) m S H x y vx vy Q, RS cl X.K m S H → RV X.K m H x vx → RV X.K m H y vy → Post cl X.K (RV X.K) m H E Q (g x y S) → r vx vy H Q
end
def d2 (g : D → D → Sto → Res D) (fa fb : Sl → Sto → Res D) : Sl → Sto → Res D := fun sd S => (fa sd S).bind fun x S1 => (fb sd S1).bind fun y S2 => g x y S2
def d2T (g : D → D → Sto → Res D) (fa fb : Sl → Sto → Res D) : Sl → Sto → Res Bool := fun sd S => (d2 g fa fb sd S).bind fun d S1 => match d with
  | .bl b => .ok b S1
  | _ => .stuck
section
variable {cl : Cl} {X : Cx} {E : XK} {a b c : Expr} {fa fb fc : Sl → Sto → Res D}
theorem zb {op : Operator} {g} (ho : OpD cl X (binaryOp op) g) (ha : DE cl X E a fa) (hb : DE cl X E b fb) {pos} : DE cl X E (.BinOp a op b pos) (d2 g fa fb) := by
  obtain ⟨r, ho, hr⟩ := ho
  obtain ⟨ta, pa, ha⟩ := ha
  obtain ⟨tb, pb, hb⟩ := hb
  refine ⟨_, pe_op ho pa pb, fun m S H sd σ Q rs rl h => ?_⟩
  refine ha m S H sd σ _ rs rl (Post.bind h fun x S1 m1 vx H1 x1 k1 rs1 rx h1 => ?_)
  refine hb m1 S1 H1 sd σ _ rs1 (rl.mono x1 k1) (Post.bind h1 fun y S2 m2 vy H2 x2 k2 rs2 ry h2 => ?_)
  exact hr E m2 S2 H2 x y vx vy Q rs2 (RV.mono x2 k2 x rx) ry h2
theorem de_cmp {op : CmpOp} {g} (ho : OpD cl X (compareOp op) g) (ha : DE cl X E a fa) (hb : DE cl X E b fb) {pos} (hm : behindInMarks op b = false := by with_unfolding_all rfl) : DE cl X E (.Compare a [op] [b] pos) (d2 g fa fb) := by
  obtain ⟨r, ho, hr⟩ := ho
  obtain ⟨ta, pa, ha⟩ := ha
  obtain ⟨tb, pb, hb⟩ := hb
  refine ⟨_, pe_cmpR ho pa pb hm, fun m S H sd σ Q rs rl h => ?_⟩
  refine ha m S H sd σ _ rs rl (Post.bind h fun x S1 m1 vx H1 x1 k1 rs1 rx h1 => ?_)
  refine hb m1 S1 H1 sd σ _ rs1 (rl.mono x1 k1) (Post.bind h1 fun y S2 m2 vy H2 x2 k2 rs2 ry h2 => ?_)
  exact hr E m2 S2 H2 x y vx vy Q rs2 (RV.mono x2 k2 x rx) ry h2
theorem bind_assoc {α β γ : Type} (r : Res α) (f : α → Sto → Res β) (g : β → Sto → Res γ) : (r.bind f).bind g = r.bind fun a S => (f a S).bind g := by
  cases r <;> rfl
theorem ze {op : CmpOp} {g} (ho : OpD cl X (compareOp op) g) (ha : DE cl X E a fa) (hb : DE cl X E b fb) {pos} (hm : behindInMarks op b = false := by with_unfolding_all rfl) : DT cl X E (.Compare a [op] [b] pos) (d2T g fa fb) := by
  obtain ⟨r, ho, hr⟩ := ho
  obtain ⟨ta, pa, ha⟩ := ha
  obtain ⟨tb, pb, hb⟩ := hb
  refine ⟨_, pt_cmpR ho pa pb hm, fun m S H sd σ Q rs rl h => ?_⟩
  unfold d2T d2 at h
  rw [bind_assoc] at h
  refine ha m S H sd σ _ rs rl (Post.bind h fun x S1 m1 vx H1 x1 k1 rs1 rx h1 => ?_)
  rw [bind_assoc] at h1
  refine hb m1 S1 H1 sd σ _ rs1 (rl.mono x1 k1) (Post.bind h1 fun y S2 m2 vy H2 x2 k2 rs2 ry h2 => ?_)
  refine hr E m2 S2 H2 x y vx vy _ rs2 (RV.mono x2 k2 x rx) ry (Post.bind h2 fun z S3 m3 vz H3 x3 k3 rs3 rz h3 => ?_)
  cases z with
  | bl k => exact ⟨k, rz, h3.here rs3 rfl⟩
  | _ => exact h3.elim
def d3 (g g' : D → D → Sto → Res D) (fa fb fc : Sl → Sto → Res D) : Sl → Sto → Res D := fun sd S => (fa sd S).bind fun x S1 => (fb sd S1).bind fun y S2 => (g x y S2).bind fun z S3 => match z with
  | .bl true => (fc sd S3).bind fun w S4 => g' y w S4
  | .bl false => .ok (.bl false) S3
  | _ => .stuck
def d3T (g g' : D → D → Sto → Res D) (fa fb fc : Sl → Sto → Res D) : Sl → Sto → Res Bool := fun sd S => (d3 g g' fa fb fc sd S).bind fun d S1 => match d with
  | .bl b => .ok b S1
  | _ => .stuck
theorem dt_chain {op op' : CmpOp} {g g'} (ho : OpD cl X (compareOp op) g) (ho' : OpD cl X (compareOp op') g') (ha : DE cl X E a fa) (hb : DE cl X E b fb) (hc : DE cl X E c fc) {pos} (hm : lastMarks [op, op'] [b, c] = false := by with_unfolding_all rfl) :
    DT cl X E (.Compare a [op, op'] [b, c] pos) (d3T g g' fa fb fc) := by
  obtain ⟨r, ho, hr⟩ := ho
  obtain ⟨r', ho', hr'⟩ := ho'
  obtain ⟨ta, pa, ha⟩ := ha
  obtain ⟨tb, pb, hb⟩ := hb
  obtain ⟨tc, pc, hc⟩ := hc
  refine ⟨_, pt_chain ho ho' pa pb pc hm, fun m S H sd σ Q rs rl h => ?_⟩
  unfold d3T d3 at h
  rw [bind_assoc] at h
  refine ha m S H sd σ _ rs rl (Post.bind h fun x S1 m1 vx H1 x1 k1 rs1 rx h1 => ?_)
  rw [bind_assoc] at h1
  refine hb m1 S1 H1 sd σ _ rs1 (rl.mono x1 k1) (Post.bind h1 fun y S2 m2 vy H2 x2 k2 rs2 ry h2 => ?_)
  rw [bind_assoc] at h2
  refine hr E m2 S2 H2 x y vx vy _ rs2 (RV.mono x2 k2 x rx) ry (Post.bind h2 fun z S3 m3 vz H3 x3 k3 rs3 rz h3 => ?_)
  cases z with
  | bl k =>
    refine ⟨k, rz, ?_⟩
    cases k with
    | false => exact iteF ⟨false, rfl, h3.here rs3 rfl⟩
    | true =>
      dsimp only at h3
      rw [bind_assoc] at h3
      refine iteT (hc m3 S3 H3 sd σ _ rs3 (rl.mono ((x1.trans x2).trans x3) ((k1.trans k2).trans k3)) (Post.bind h3 fun w S4 m4 vw H4 x4 k4 rs4 rw' h4 => ?_))
      refine hr' E m4 S4 H4 y w vy vw _ rs4 (RV.mono (x3.trans x4) (k3.trans k4) y ry) rw' (Post.bind h4 fun q S5 m5 vq H5 x5 k5 rs5 rq h5 => ?_)
      cases q with
      | bl k' => exact ⟨k', rq, h5.here rs5 rfl⟩
      | _ => exact h5.elim
  | _ => exact h3.elim
end

def addD : D → D → Sto → Res D
  | .int a, .int b, S => .ok (.int (a + b)) S
  | .str a, .str b, S => if a.length + b.length ≤ sizeLine then .ok (.str (a ++ b)) S else .stuck
  | .tup a, .tup b, S => if a.length + b.length ≤ sizeLine then .ok (.tup (a ++ b)) S else .stuck
  | a, b, S => match lsD a S, lsD b S with
    | some x, some y => if x.length + y.length ≤ sizeLine then .ok (.ref S.length) (S ++ [.lst (x ++ y)]) else .stuck
    | _, _ => .stuck
def subD : D → D → Sto → Res D
  | .int a, .int b, S => .ok (.int (a - b)) S
  | _, _, _ => .stuck
noncomputable def bnd (k : Nat) (a : Int) : Bool := @decide (-(2 ^ k : Int) ≤ a ∧ a < 2 ^ k) (Classical.propDecidable _)
theorem bnd_ok {k : Nat} {a : Int} (h : bnd k a = true) : -(2 ^ k : Int) ≤ a ∧ a < 2 ^ k := @of_decide_eq_true _ (Classical.propDecidable _) h
theorem bnd_of {k : Nat} {a : Int} (h : -(2 ^ k : Int) ≤ a ∧ a < 2 ^ k) : bnd k a = true := @decide_eq_true _ (Classical.propDecidable _) h
noncomputable def fdOk (b : Int) : Bool := @decide (0 < b ∧ b.natAbs.log2 < 9000) (Classical.propDecidable _)
theorem fdOk_ok {b : Int} (h : fdOk b = true) : 0 < b ∧ b.natAbs.log2 < 9000 := @of_decide_eq_true _ (Classical.propDecidable _) h
theorem fdOk_of {b : Int} (h : 0 < b ∧ b.natAbs.log2 < 9000) : fdOk b = true := @decide_eq_true _ (Classical.propDecidable _) h
theorem mul_ok {a b : Int} (hz : (bnd 63 a || bnd 63 b) = true) : (-(2 ^ 64) < a ∧ a < 2 ^ 64) ∨ (-(2 ^ 64) < b ∧ b < 2 ^ 64) := by
  rw [Bool.or_eq_true] at hz
  rcases hz with hz | hz
  · have := bnd_ok hz; exact .inl ⟨by omega, by omega⟩
  · have := bnd_ok hz; exact .inr ⟨by omega, by omega⟩
noncomputable def powOk (a b : Int) : Bool := @decide (0 ≤ b ∧ b ≤ 1000000 ∧ a.natAbs < 2 ^ 64) (Classical.propDecidable _)
theorem powOk_ok {a b : Int} (h : powOk a b = true) : 0 ≤ b ∧ b ≤ 1000000 ∧ a.natAbs < 2 ^ 64 := @of_decide_eq_true _ (Classical.propDecidable _) h
theorem powOk_of {a b : Int} (h : 0 ≤ b ∧ b ≤ 1000000 ∧ a.natAbs < 2 ^ 64) : powOk a b = true := @decide_eq_true _ (Classical.propDecidable _) h
def repS (z : Str) (n : Int) : Str := ⟨(List.replicate n.toNat z.cps.toList).flatten.toArray⟩
noncomputable def mulD : D → D → Sto → Res D
  | .int a, .int b, S => if (bnd 63 a || bnd 63 b) = true then .ok (.int (a * b)) S else .stuck
  | .str z, .int n, S => if bnd 63 n = true ∧ z.length * n.toNat ≤ sizeLine then .ok (.str (repS z n)) S else .stuck
  | .tup xs, .int n, S => if bnd 63 n = true ∧ xs.length * n.toNat ≤ sizeLine then .ok (.tup (List.replicate n.toNat xs).flatten) S else .stuck
  | .ref a, .int n, S => match S[a]? with
    | some (.lst xs) => if bnd 63 n = true ∧ xs.length * n.toNat ≤ sizeLine then .ok (.ref S.length) (S ++ [.lst (List.replicate n.toNat xs).flatten]) else .stuck
    | _ => .stuck
  | _, _, _ => .stuck
noncomputable def fdivD : D → D → Sto → Res D
  | .int a, .int b, S => if fdOk b = true then .ok (.int (a / b)) S else .stuck
  | _, _, _ => .stuck
def modD : D → D → Sto → Res D
  | .int a, .int b, S => if 0 < b then .ok (.int (a % b)) S else .stuck
  | _, _, _ => .stuck
noncomputable def powD : D → D → Sto → Res D
  | .int a, .int b, S => if powOk a b = true then .ok (.int (a ^ b.toNat)) S else .stuck
  | _, _, _ => .stuck
section
variable {cl : Cl} {X : Cx}
theorem op_catS : OpR X (binaryOp .Add) (fun x y H Q => ∃ l b xs zs, x = .ref l ∧ y = .ref b ∧ SqL X.K H l xs ∧ SqL X.K H b zs ∧ xs.length + zs.length ≤ sizeLine ∧ ∀ p, H p = none → Q (.ref p) (upd H p (.lst (xs ++ zs)))) := by
  intro pins s σ H x y v u Q I rx ry h
  obtain ⟨l, b, xs, zs, rfl, rfl, hH, hB, hz, q⟩ := h
  cases rx
  cases ry
  obtain ⟨its, r, ⟨⟨cls, dd, data, sl⟩, n, ho, hc, hdn, hdt⟩, hlen⟩ := I.list hH
  obtain ⟨its2, r2, ⟨⟨cls2, dd2, data2, sl2⟩, n2, ho2, hc2, hdn2, hdt2⟩, hlen2⟩ := I.list hB
  simp only at hc hdt hc2 hdt2
  subst hc hdt hc2 hdt2
  have ea : its.toArray ++ its2.toArray = (its ++ its2).toArray := by simp
  have l1 := r.length
  have l2 := r2.length
  refine concat_meets ⟨_, ho, rfl⟩ ⟨_, ho2, rfl⟩ noFill_list_add seq_list_add PySem.F.slot_list_add PySem.F.entry_list_add (PySem.F.args_list_add_2 _ _) (list_addW l b its.toArray its2.toArray n n2 dd dd2 sl sl2 (by simp; omega)) ⟨ho, ho2, ?_⟩
  rw [ea]
  exact ⟨.ref _, _, I.lnew (t' := s.toks) (r.append r2) (by rw [List.length_append]; omega), rfl, q _ I.fresh⟩
theorem flat_len (xs : List Nat) (n : Nat) : (List.replicate n xs).flatten.length = xs.length * n := by
  induction n with
  | zero => simp
  | succ n ih => rw [List.replicate_succ, List.flatten_cons, List.length_append, ih, Nat.mul_succ, Nat.add_comm]
theorem fold_rep (xs : Array Nat) : ∀ (n : Nat) (acc : Array Nat), (List.replicate n xs).foldl (· ++ ·) acc = acc ++ (List.replicate n xs.toList).flatten.toArray
  | 0, acc => by simp
  | n + 1, acc => by
    rw [List.replicate_succ, List.foldl_cons, fold_rep xs n, List.replicate_succ, List.flatten_cons]
    apply Array.ext'
    simp
theorem op_repS : OpR X (binaryOp .Mult) (fun x y H Q => ∃ (z : Str) (k : Int), x = .str z ∧ y = .int k ∧ -(2 ^ 63) ≤ k ∧ k < 2 ^ 63 ∧ z.length * k.toNat ≤ sizeLine ∧ Q (.str (repS z k)) H) := by
  intro pins s σ H x y v u Q I rx ry h
  obtain ⟨z, k, rfl, rfl, h1, h2, hz, q⟩ := h
  obtain ⟨t, rfl⟩ := rx
  obtain ⟨t', rfl⟩ := ry
  have hzl : z.length = z.cps.toList.length := by simp [Str.length]
  have sL : sizeLine = 16777216 := sizeLine_eq
  refine PySem.P.mul_str (by rw [decide_eq_false (by omega), decide_eq_false (by omega)]; rfl) (fun c1 c2 => ?_) (fun c1 c2 => ?_) ?_
  · rw [Bool.or_eq_false_iff] at c2
    have hk : 0 < k := by omega
    have e1 : (z.length : Int) * k ≤ 16777216 := by
      have : ((z.length * k.toNat : Nat) : Int) ≤ 16777216 := by rw [sL] at hz; exact Int.ofNat_le.mpr hz
      have e2 : ((z.length * k.toNat : Nat) : Int) = (z.length : Int) * k := by
        rw [Int.natCast_mul, Int.toNat_of_nonneg (by omega)]
      omega
    intro hgt
    have : (z.length : Int) ≤ (2 ^ 63 - 1) / k := by
      rw [Int.le_ediv_iff_mul_le hk]
      omega
    omega
  · exact decide_eq_false (by omega)
  · by_cases c1 : k < 1
    · rw [if_pos c1]
      have e : repS z k = Str.empty := by
        unfold repS
        rw [show k.toNat = 0 by omega]
        rfl
      rw [e] at q
      exact ⟨by decide, ⟨.str _, H, I.tok _, ⟨_, rfl⟩, q⟩⟩
    · rw [if_neg c1]
      by_cases c2 : (k == 1 || z.length == 0) = true
      · rw [if_pos c2]
        have e : repS z k = z := by
          unfold repS
          rw [Bool.or_eq_true] at c2
          rcases c2 with c2 | c2
          · have : k = 1 := by simpa using c2
            subst this
            simp
          · have : z.length = 0 := by simpa using c2
            have e0 : z.cps = #[] := by
              apply Array.eq_empty_of_size_eq_zero
              simpa [Str.length] using this
            cases z with
            | mk cps =>
              simp only at e0
              subst e0
              simp
        rw [e] at q
        exact ⟨.str _, H, I, ⟨_, rfl⟩, q⟩
      · rw [if_neg c2]
        have e : (⟨(List.replicate k.toNat z.cps).foldl (· ++ ·) #[]⟩ : Str) = repS z k := by
          unfold repS
          rw [fold_rep]
          simp
        show Made.post (.str _) _ _
        rw [e]
        refine ⟨?_, ⟨.str _, H, I.tok _, ⟨_, rfl⟩, q⟩⟩
        show (repS z k).cps.size ≤ _
        unfold repS
        rw [List.size_toArray, flat_len, ← hzl]
        exact hz
theorem tuple_mul1 (l : Addr) (items : Array Value) (n : Nat) (dd : Option Addr) (sl : Array (Option Value)) (x : Int) (u : Tok) (c0 : (decide (x < -(2 ^ 63)) || decide (x ≥ 2 ^ 63)) = false) (c1 : (items.isEmpty || x == 1) = true) :
    Meets (Builtin.«tuple.__mul__» ⟨[.ref l, .int x u], []⟩) (fun _ R s => s.heap.get? l = some { cls := .type "tuple", dict := dd, data := .seq items n, slots := sl } ∧
      R (.ok (.ret (Value.ref l))) s) :=
  .of_wp fun prog w A R s h => by
    obtain ⟨hp, g, d, tk, os⟩ := s
    obtain ⟨hl, h⟩ := h
    have f1 := AutoSeq1.idx_int
    wp_walk using wpAny_loadPart' hl
    repeat (first
      | (refine wpAny_ite_false (decide_eq_false (by rw [c0]; exact Bool.false_ne_true)) ?_; wp_walk using wpAny_loadPart' hl)
      | (refine wpAny_ite_true (decide_eq_true c1) ?_; wp_walk using wpAny_loadPart' hl))
    exact ⟨_, rfl, h⟩
theorem tuple_mul0 (l : Addr) (items : Array Value) (n : Nat) (dd : Option Addr) (sl : Array (Option Value)) (x : Int) (u : Tok) (c0 : (decide (x < -(2 ^ 63)) || decide (x ≥ 2 ^ 63)) = false) (c1 : (items.isEmpty || x == 1) = false) (c2 : (decide (x ≤ 0) || items.isEmpty) = true) :
    Meets (Builtin.«tuple.__mul__» ⟨[.ref l, .int x u], []⟩) (fun _ R s => s.heap.get? l = some { cls := .type "tuple", dict := dd, data := .seq items n, slots := sl } ∧
      R (.ok (.ret (Value.ref s.heap.objs.size))) { s with heap := s.heap.push { cls := Value.type "tuple", data := Data.seq #[] }, toks := s.toks }) :=
  .of_wp fun prog w A R s h => by
    obtain ⟨hp, g, d, tk, os⟩ := s
    obtain ⟨hl, h⟩ := h
    have f1 := AutoSeq1.idx_int
    wp_walk using wpAny_loadPart' hl
    repeat (first
      | (refine wpAny_ite_false (decide_eq_false (by rw [c0]; exact Bool.false_ne_true)) ?_; wp_walk using wpAny_loadPart' hl)
      | (refine wpAny_ite_false (decide_eq_false (by rw [c1]; exact Bool.false_ne_true)) ?_; wp_walk using wpAny_loadPart' hl)
      | (refine wpAny_ite_true (decide_eq_true c2) ?_; wp_walk using wpAny_loadPart' hl))
    exact ⟨_, rfl, h⟩
end
end DL

namespace DL
open PySem PySem.Spec PyProof.Rows L2
section
variable {cl : Cl} {X : Cx}
def rRepA (K : PySem.W.Frag) : R2 := fun x y H Q => ∃ l k xs, x = .ref l ∧ y = .int k ∧ SqT K H l xs ∧ -(2 ^ 63) ≤ k ∧ k < 2 ^ 63 ∧ xs.length * k.toNat ≤ sizeLine ∧
  ((xs = [] ∨ k = 1) → Q (.ref l) H) ∧ (¬ (xs = [] ∨ k = 1) → ∀ p, H p = none → Q (.ref p) (upd H p (.tup (List.replicate k.toNat xs).flatten)))
theorem op_repA : OpR X (binaryOp .Mult) (rRepA X.K) := by
  intro pins s σ H x y v u Q I rx ry h
  obtain ⟨l, k, xs, rfl, rfl, hT, h1, h2, hz, q1, q2⟩ := h
  cases rx
  obtain ⟨t, rfl⟩ := ry
  obtain ⟨its, r, ⟨⟨cls, dd, data, sl⟩, ho, hc, n, hd⟩, hs⟩ := I.tuple hT
  simp only at hc hd
  subst hc hd
  have hle : its.length = xs.length := r.length.symm
  have c0 : (decide (k < -(2 ^ 63)) || decide (k ≥ 2 ^ 63)) = false := by
    rw [decide_eq_false (by omega), decide_eq_false (by omega)] <;> rfl
  have sL : sizeLine = 16777216 := sizeLine_eq
  by_cases c : xs = [] ∨ k = 1
  · have c1 : (its.toArray.isEmpty || k == 1) = true := by
      rw [Bool.or_eq_true]
      rcases c with c | c
      · left
        rw [c] at hle
        rw [List.eq_nil_of_length_eq_zero hle]
        rfl
      · right; simp [c]
    refine wpAny_binaryOp_repeat_ref (T := "tuple") (U := "int") (by decide) ⟨_, ho, rfl⟩ (fun s' => typeIs_int s' k t) noFill_tuple_mul F.fills_int_mul F.slot_int_rmul repeat_tuple F.slot_int_index.lookup
      (call_meets F.slot_int_rmul (typeIs_int s k t) F.entry_int_rmul (F.args_int_rmul_2 _ _) (int_rmul_tuple k t l its.toArray n dd sl)
        ⟨ho, rfl, ⟨_, ho, rfl⟩, call_meets F.slot_tuple_mul ⟨_, ho, rfl⟩ F.entry_tuple_mul (F.args_tuple_mul_2 _ _) (tuple_mul1 l its.toArray n dd sl k t c0 c1) ⟨ho, ?_⟩⟩)
    exact ⟨.ref l, H, I, rfl, q1 c⟩
  · have hne : xs ≠ [] := fun e => c (.inl e)
    have hk1 : k ≠ 1 := fun e => c (.inr e)
    have hn : its ≠ [] := fun e => hne (by
      rw [e] at hle
      exact List.eq_nil_of_length_eq_zero hle.symm)
    have hi : its.toArray.isEmpty = false := by
      cases its with
      | nil => exact absurd rfl hn
      | cons a b => rfl
    have c1 : (its.toArray.isEmpty || k == 1) = false := by
      rw [hi, Bool.false_or]
      exact beq_eq_false_iff_ne.mpr hk1
    by_cases k0 : k ≤ 0
    · have c2 : (decide (k ≤ 0) || its.toArray.isEmpty) = true := by rw [decide_eq_true k0]; rfl
      refine wpAny_binaryOp_repeat_ref (T := "tuple") (U := "int") (by decide) ⟨_, ho, rfl⟩ (fun s' => typeIs_int s' k t) noFill_tuple_mul F.fills_int_mul F.slot_int_rmul repeat_tuple F.slot_int_index.lookup
        (call_meets F.slot_int_rmul (typeIs_int s k t) F.entry_int_rmul (F.args_int_rmul_2 _ _) (int_rmul_tuple k t l its.toArray n dd sl)
          ⟨ho, rfl, ⟨_, ho, rfl⟩, call_meets F.slot_tuple_mul ⟨_, ho, rfl⟩ F.entry_tuple_mul (F.args_tuple_mul_2 _ _) (tuple_mul0 l its.toArray n dd sl k t c0 c1 c2) ⟨ho, ?_⟩⟩)
      have e0 : (List.replicate k.toNat xs).flatten = [] := by rw [show k.toNat = 0 by omega]; rfl
      have q := q2 c
      rw [e0] at q
      refine ⟨.ref s.heap.objs.size, _, I.laid (t' := s.toks) (o := .tup []) (fun b ob q => Heap.get?_push_of_some _ q) (Nat.le_refl _) ?_, rfl, q _ (I.hok.fresh (Nat.le_refl _))⟩
      exact ⟨Nat.zero_le _, [], .nil, IsTup.new _ _⟩
    · have c2 : (decide (k ≤ 0) || its.toArray.isEmpty) = false := by
        rw [hi, Bool.or_false]
        exact decide_eq_false k0
      have hsz0 : its.toArray.size = xs.length := by rw [List.size_toArray, hle]
      have hm : ((its.toArray.size : Nat) : Int) * k ≤ 16777216 := by
        rw [hsz0]
        have e1 : ((xs.length * k.toNat : Nat) : Int) ≤ 16777216 := by rw [sL] at hz; exact Int.ofNat_le.mpr hz
        have e2 : ((xs.length * k.toNat : Nat) : Int) = (xs.length : Int) * k := by
          rw [Int.natCast_mul, Int.toNat_of_nonneg (by omega)]
        omega
      have flen : (List.replicate k.toNat its).flatten.length ≤ sizeLine := by
        rw [PyProof.Rows.lm_len_rep_flat, hle, Nat.mul_comm]
        exact hz
      have c4 : Builtin.Tuple.tupleTooMany (((its.toArray.size : Nat) : Int) * k) = false := by
        unfold Builtin.Tuple.tupleTooMany
        rw [sizeLine_eq]
        exact decide_eq_false (by omega)
      refine wpAny_binaryOp_repeat_ref (T := "tuple") (U := "int") (by decide) ⟨_, ho, rfl⟩ (fun s' => typeIs_int s' k t) noFill_tuple_mul F.fills_int_mul F.slot_int_rmul repeat_tuple F.slot_int_index.lookup
        (call_meets F.slot_int_rmul (typeIs_int s k t) F.entry_int_rmul (F.args_int_rmul_2 _ _) (int_rmul_tuple k t l its.toArray n dd sl)
          ⟨ho, rfl, ⟨_, ho, rfl⟩, call_meets F.slot_tuple_mul ⟨_, ho, rfl⟩ F.entry_tuple_mul (F.args_tuple_mul_2 _ _) (tuple_mulW l its.toArray n dd sl k t c0 c1 c2 (by omega) c4 (by rw [size_rep, List.size_toArray]; exact flen)) ⟨ho, ?_⟩⟩)
      rw [size_rep]
      refine ⟨.ref s.heap.objs.size, _, I.laid (t' := s.toks) (o := .tup (List.replicate k.toNat xs).flatten) (fun b ob q => Heap.get?_push_of_some _ q) (Nat.le_refl _) ?_, rfl, q2 c _ (I.hok.fresh (Nat.le_refl _))⟩
      exact ⟨by rw [PyProof.Rows.lm_len_rep_flat, Nat.mul_comm]; exact hz, _, r.rep k.toNat, IsTup.new _ _⟩

theorem op_addD : OpD cl X (binaryOp .Add) addD := by
  refine ⟨_, ((op_add.or op_add_str).or op_catA).or op_catS, fun E m S H x y vx vy Q rs rx ry h => ?_⟩
  unfold addD at h
  split at h
  · rename_i a b
    cases rx; cases ry
    exact .inl (.inl (.inl ⟨_, _, rfl, rfl, h.here rs rfl⟩))
  · rename_i a b
    cases rx; cases ry
    split at h
    · rename_i hz
      exact .inl (.inl (.inr ⟨_, _, rfl, rfl, hz, h.here rs rfl⟩))
    · exact h.elim
  · rename_i a b
    split at h
    · rename_i hz
      obtain ⟨p, vs, rfl, s1, r1⟩ := rx
      obtain ⟨q, ws, rfl, s2, r2⟩ := ry
      refine .inl (.inr ⟨p, q, vs, ws, rfl, rfl, s1, s2, by rw [← r1.length, ← r2.length]; exact hz, fun e => ?_, fun e1 e2 => ?_, fun e1 e2 p' hp => ?_⟩)
      · subst e
        have : a = [] := List.eq_nil_of_length_eq_zero r1.length
        subst this
        exact h.here rs ⟨q, ws, rfl, s2, r2⟩
      · subst e2
        have : b = [] := List.eq_nil_of_length_eq_zero r2.length
        subst this
        exact h.here rs ⟨p, vs, rfl, s1, by rw [List.append_nil]; exact r1⟩
      · obtain ⟨a1, b1⟩ := newTup rs (r1.append r2) hp
        exact h _ _ _ (Ext.refl m) (Keep.new hp) a1 b1
    · exact h.elim
  · rename_i a b _ _ _
    split at h
    · rename_i x y e1 e2
      split at h
      · rename_i hz
        obtain ⟨p, vs, rfl, hv, r1⟩ := ls_rv rs rx e1
        obtain ⟨q, ws, rfl, hw, r2⟩ := ls_rv rs ry e2
        refine .inr ⟨p, q, vs, ws, rfl, rfl, hv, hw, by rw [← r1.length, ← r2.length]; exact hz, fun p' hp => ?_⟩
        obtain ⟨a1, b1⟩ := newLst rs (r1.append r2) hp
        exact h _ _ _ (Ext.snoc m p') (Keep.new hp) a1 b1
      · exact h.elim
    · exact h.elim
theorem op_subD : OpD cl X (binaryOp .Sub) subD := by
  refine ⟨_, op_sub, fun E m S H x y vx vy Q rs rx ry h => ?_⟩
  unfold subD at h
  split at h
  · cases rx; cases ry
    exact ⟨_, _, rfl, rfl, h.here rs rfl⟩
  · exact h.elim
theorem op_fdivD : OpD cl X (binaryOp .FloorDiv) fdivD := by
  refine ⟨_, op_fdivW, fun E m S H x y vx vy Q rs rx ry h => ?_⟩
  unfold fdivD at h
  split at h
  · cases rx; cases ry
    split at h
    · rename_i hz
      exact ⟨_, _, rfl, rfl, fdOk_ok hz, h.here rs rfl⟩
    · exact h.elim
  · exact h.elim
theorem op_modD : OpD cl X (binaryOp .Mod) modD := by
  refine ⟨_, op_mod, fun E m S H x y vx vy Q rs rx ry h => ?_⟩
  unfold modD at h
  split at h
  · cases rx; cases ry
    split at h
    · rename_i hz
      exact ⟨_, _, rfl, rfl, hz, h.here rs rfl⟩
    · exact h.elim
  · exact h.elim
theorem op_powD : OpD cl X (binaryOp .Pow) powD := by
  refine ⟨_, op_pow, fun E m S H x y vx vy Q rs rx ry h => ?_⟩
  unfold powD at h
  split at h
  · cases rx; cases ry
    split at h
    · rename_i hz
      exact ⟨_, _, rfl, rfl, powOk_ok hz, h.here rs rfl⟩
    · exact h.elim
  · exact h.elim
theorem op_mulD : OpD cl X (binaryOp .Mult) mulD := by
  refine ⟨_, ((op_mul.or op_repS).or op_repA).or op_rep, fun E m S H x y vx vy Q rs rx ry h => ?_⟩
  unfold mulD at h
  split at h
  · cases rx; cases ry
    split at h
    · rename_i hz
      exact .inl (.inl (.inl ⟨_, _, rfl, rfl, mul_ok hz, h.here rs rfl⟩))
    · exact h.elim
  · cases rx; cases ry
    split at h
    · rename_i hz
      exact .inl (.inl (.inr ⟨_, _, rfl, rfl, (bnd_ok hz.1).1, (bnd_ok hz.1).2, hz.2, h.here rs rfl⟩))
    · exact h.elim
  · rename_i xs n
    split at h
    · rename_i hz
      obtain ⟨p, vs, rfl, s1, r1⟩ := rx
      cases ry
      refine .inl (.inr ⟨p, n, vs, rfl, rfl, s1, (bnd_ok hz.1).1, (bnd_ok hz.1).2, by rw [← r1.length]; exact hz.2, fun e => ?_, fun e p' hp => ?_⟩)
      · have e1 : (List.replicate n.toNat xs).flatten = xs := by
          rcases e with e | e
          · subst e
            have : xs = [] := List.eq_nil_of_length_eq_zero r1.length
            subst this
            simp
          · subst e; simp
        rw [e1] at h
        exact h.here rs ⟨p, vs, rfl, s1, r1⟩
      · obtain ⟨a1, b1⟩ := newTup rs (r1.rep n.toNat) hp
        exact h _ _ _ (Ext.refl m) (Keep.new hp) a1 b1
    · exact h.elim
  · rename_i a n
    split at h
    · rename_i xs e1
      split at h
      · rename_i hz
        obtain ⟨p, h1, ⟨vs, hv, r1⟩⟩ := rs.adr e1
        obtain ⟨p', h1', rfl⟩ := rx
        rw [h1] at h1'; cases h1'
        cases ry
        refine .inr ⟨p, n, vs, rfl, rfl, hv, (bnd_ok hz.1).1, (bnd_ok hz.1).2, by rw [← r1.length]; exact hz.2, fun p' hp => ?_⟩
        obtain ⟨a1, b1⟩ := newLst rs (r1.rep n.toNat) hp
        exact h _ _ _ (Ext.snoc m p') (Keep.new hp) a1 b1
      · exact h.elim
    · exact h.elim
  · exact h.elim

def mapO {α β : Type} (f : α → Option β) : List α → Option (List β)
  | [] => some []
  | x :: xs => match f x, mapO f xs with
    | some a, some b => some (a :: b)
    | _, _ => none
def toP (S : Sto) : Nat → D → Option PyData
  | _, .non => some .none
  | _, .bl b => some (.bool b)
  | _, .int i => some (.int i)
  | _, .str x => some (.str x)
  | n + 1, .tup ds => (mapO (toP S n) ds).map .tuple
  | n + 1, .frl ds => (mapO (toP S n) ds).map .list
  | n + 1, .ref l => match S[l]? with
    | some (.lst ds) => (mapO (toP S n) ds).map .list
    | _ => none
  | _, .exn _ _ _ _ => none
  | 0, _ => none
theorem dpAll {K : PySem.W.Frag} {m : List Addr} {H : Hp} {f : D → Option PyData} (hf : ∀ d p v, f d = some p → RV K m H d v → Dp K H v p) :
    ∀ (ds : List D) (ps : List PyData) (vs : List V), mapO f ds = some ps → RVs K m H ds vs → DpAll K H vs ps
  | [], ps, vs, e, r => by
    cases e; cases r; exact .nil
  | d :: ds, ps, vs, e, r => by
    obtain ⟨v, vs', rfl, r1, r2⟩ := r
    unfold mapO at e
    split at e
    · rename_i a b ea eb
      cases e
      exact .cons (hf d a v ea r1) (dpAll hf ds b vs' eb r2)
    · cases e
theorem toP_dp {K : PySem.W.Frag} {m : List Addr} {S : Sto} {H : Hp} (rs : RS cl K m S H) : ∀ (n : Nat) (d : D) (p : PyData) (v : V), toP S n d = some p → RV K m H d v → Dp K H v p := by
  have base : ∀ (n : Nat), (∀ d p v, toP S n d = some p → RV K m H d v → Dp K H v p) → ∀ d p v, toP S (n + 1) d = some p → RV K m H d v → Dp K H v p := by
    intro n ih d p v e r
    cases d with
    | non => cases e; cases r; exact .non
    | bl b => cases e; cases r; exact .bl b
    | int b => cases e; cases r; exact .int b
    | str b => cases e; cases r; exact .str b
    | exn _ _ _ _ => cases e
    | tup ds =>
      obtain ⟨a, vs, rfl, s1, r1⟩ := r
      obtain ⟨ps, e1, rfl⟩ := Option.map_eq_some_iff.mp e
      exact .tup s1 (dpAll ih ds ps vs e1 r1)
    | frl ds =>
      obtain ⟨a, vs, rfl, s1, r1⟩ := r
      obtain ⟨ps, e1, rfl⟩ := Option.map_eq_some_iff.mp e
      exact .lst s1.sq (dpAll ih ds ps vs e1 r1)
    | ref l =>
      obtain ⟨a, e0, rfl⟩ := r
      unfold toP at e
      split at e
      · rename_i ds es
        obtain ⟨a', h1, vs, hv, r1⟩ := rs.adr es
        rw [e0] at h1; cases h1
        obtain ⟨ps, e1, rfl⟩ := Option.map_eq_some_iff.mp e
        exact .lst (SqL.of hv) (dpAll ih ds ps vs e1 r1)
      · cases e
  intro n
  induction n with
  | zero =>
    intro d p v e r
    cases d with
    | non => cases e; cases r; exact .non
    | bl b => cases e; cases r; exact .bl b
    | int b => cases e; cases r; exact .int b
    | str b => cases e; cases r; exact .str b
    | _ => cases e
  | succ n ih => exact base n ih
def sameD (x y : D) (S : Sto) : Option Bool :=
  match x, y with
  | .int a, .int b => some (decide (a = b))
  | .str a, .str b => some (decide (a = b))
  | .bl a, .bl b => some (decide (a = b))
  | _, _ => match toP S 60 x, toP S 60 y with
    | some a, some b => if SeqAt.shaped a && SeqAt.shaped b then some (PyData.eqv a b) else none
    | _, _ => none
def eqD (x y : D) (S : Sto) : Res D := match sameD x y S with
  | some b => .ok (.bl b) S
  | none => .stuck
def neD (x y : D) (S : Sto) : Res D := match sameD x y S with
  | some b => .ok (.bl (!b)) S
  | none => .stuck
theorem sameD_cases {x y : D} {S : Sto} {b : Bool} (h : sameD x y S = some b) :
    (∃ i j, x = .int i ∧ y = .int j ∧ b = decide (i = j)) ∨ (∃ i j, x = .str i ∧ y = .str j ∧ b = decide (i = j)) ∨ (∃ i j, x = .bl i ∧ y = .bl j ∧ b = decide (i = j)) ∨
    ∃ p q, toP S 60 x = some p ∧ toP S 60 y = some q ∧ SeqAt.shaped p = true ∧ SeqAt.shaped q = true ∧ b = PyData.eqv p q := by
  unfold sameD at h
  split at h
  · cases h; exact .inl ⟨_, _, rfl, rfl, rfl⟩
  · cases h; exact .inr (.inl ⟨_, _, rfl, rfl, rfl⟩)
  · cases h; exact .inr (.inr (.inl ⟨_, _, rfl, rfl, rfl⟩))
  · split at h
    · rename_i p q e1 e2
      split at h
      · rename_i hs
        rw [Bool.and_eq_true] at hs
        cases h
        exact .inr (.inr (.inr ⟨p, q, e1, e2, hs.1, hs.2, rfl⟩))
      · cases h
    · cases h
theorem op_eqDD (hu : X.A.units + 64 < cLine) : OpD cl X (compareOp .Eq) eqD := by
  refine ⟨_, op_eq.or (op_eqD hu), fun E m S H x y vx vy Q rs rx ry h => ?_⟩
  unfold eqD at h
  split at h
  · rename_i b e
    rcases sameD_cases e with ⟨i, j, rfl, rfl, rfl⟩ | ⟨i, j, rfl, rfl, rfl⟩ | ⟨i, j, rfl, rfl, rfl⟩ | ⟨p, q, e1, e2, s1, s2, rfl⟩
    · cases rx; cases ry
      refine .inl ⟨rfl, ?_⟩
      have : decide (V.int i = V.int j) = decide (i = j) := by simp
      rw [this]; exact h.here rs rfl
    · cases rx; cases ry
      refine .inl ⟨rfl, ?_⟩
      have : decide (V.str i = V.str j) = decide (i = j) := by simp
      rw [this]; exact h.here rs rfl
    · cases rx; cases ry
      refine .inl ⟨rfl, ?_⟩
      have : decide (V.bl i = V.bl j) = decide (i = j) := by simp
      rw [this]; exact h.here rs rfl
    · exact .inr ⟨p, q, toP_dp rs _ _ _ _ e1 rx, toP_dp rs _ _ _ _ e2 ry, s1, s2, h.here rs rfl⟩
  · exact h.elim
theorem op_neDD (hu : X.A.units + 64 < cLine) : OpD cl X (compareOp .NotEq) neD := by
  refine ⟨_, op_ne.or (op_neD hu), fun E m S H x y vx vy Q rs rx ry h => ?_⟩
  unfold neD at h
  split at h
  · rename_i b e
    rcases sameD_cases e with ⟨i, j, rfl, rfl, rfl⟩ | ⟨i, j, rfl, rfl, rfl⟩ | ⟨i, j, rfl, rfl, rfl⟩ | ⟨p, q, e1, e2, s1, s2, rfl⟩
    · cases rx; cases ry
      refine .inl ⟨rfl, ?_⟩
      have : decide (V.int i = V.int j) = decide (i = j) := by simp
      rw [this]; exact h.here rs rfl
    · cases rx; cases ry
      refine .inl ⟨rfl, ?_⟩
      have : decide (V.str i = V.str j) = decide (i = j) := by simp
      rw [this]; exact h.here rs rfl
    · cases rx; cases ry
      refine .inl ⟨rfl, ?_⟩
      have : decide (V.bl i = V.bl j) = decide (i = j) := by simp
      rw [this]; exact h.here rs rfl
    · exact .inr ⟨p, q, toP_dp rs _ _ _ _ e1 rx, toP_dp rs _ _ _ _ e2 ry, s1, s2, h.here rs rfl⟩
  · exact h.elim
def ltD : D → D → Sto → Res D
  | .int a, .int b, S => .ok (.bl (decide (a < b))) S
  | _, _, _ => .stuck
def leD : D → D → Sto → Res D
  | .int a, .int b, S => .ok (.bl (decide (a ≤ b))) S
  | _, _, _ => .stuck
def gtD : D → D → Sto → Res D
  | .int a, .int b, S => .ok (.bl (decide (b < a))) S
  | _, _, _ => .stuck
def geD : D → D → Sto → Res D
  | .int a, .int b, S => .ok (.bl (decide (b ≤ a))) S
  | _, _, _ => .stuck
theorem op_ltD : OpD cl X (compareOp .Lt) ltD := by
  refine ⟨_, op_lt, fun E m S H x y vx vy Q rs rx ry h => ?_⟩
  unfold ltD at h
  split at h
  · cases rx; cases ry; exact ⟨_, _, rfl, rfl, h.here rs rfl⟩
  · exact h.elim
theorem op_leD : OpD cl X (compareOp .LtE) leD := by
  refine ⟨_, op_le, fun E m S H x y vx vy Q rs rx ry h => ?_⟩
  unfold leD at h
  split at h
  · cases rx; cases ry; exact ⟨_, _, rfl, rfl, h.here rs rfl⟩
  · exact h.elim
theorem op_gtD : OpD cl X (compareOp .Gt) gtD := by
  refine ⟨_, op_gt, fun E m S H x y vx vy Q rs rx ry h => ?_⟩
  unfold gtD at h
  split at h
  · cases rx; cases ry; exact ⟨_, _, rfl, rfl, h.here rs rfl⟩
  · exact h.elim
theorem op_geD : OpD cl X (compareOp .GtE) geD := by
  refine ⟨_, op_ge, fun E m S H x y vx vy Q rs rx ry h => ?_⟩
  unfold geD at h
  split at h
  · cases rx; cases ry; exact ⟨_, _, rfl, rfl, h.here rs rfl⟩
  · exact h.elim
def isD : D → D → Sto → Res D
  | x, .non, S => .ok (.bl (decide (x = .non))) S
  | _, _, _ => .stuck
def isNotD : D → D → Sto → Res D
  | x, .non, S => .ok (.bl (!decide (x = .non))) S
  | _, _, _ => .stuck
theorem rv_non {K : PySem.W.Frag} {m : List Addr} {H : Hp} {x : D} {v : V} (r : RV K m H x v) : decide (v = .non) = decide (x = .non) := by
  cases x with
  | non => cases r; simp
  | bl _ => cases r; simp
  | int _ => cases r; simp
  | str _ => cases r; simp
  | tup _ => obtain ⟨a, vs, rfl, _⟩ := r; simp
  | frl _ => obtain ⟨a, vs, rfl, _⟩ := r; simp
  | ref _ => obtain ⟨a, _, rfl⟩ := r; simp
  | exn _ _ _ _ => obtain ⟨rfl, _⟩ := r; simp
theorem op_isD : OpD cl X (compareOp .Is) isD := by
  refine ⟨_, op_isN, fun E m S H x y vx vy Q rs rx ry h => ?_⟩
  unfold isD at h
  split at h
  · cases ry
    refine ⟨rfl, ?_⟩
    rw [rv_non rx]; exact h.here rs rfl
  · exact h.elim
theorem op_isNotD : OpD cl X (compareOp .IsNot) isNotD := by
  refine ⟨_, op_notN, fun E m S H x y vx vy Q rs rx ry h => ?_⟩
  unfold isNotD at h
  split at h
  · cases ry
    refine ⟨rfl, ?_⟩
    rw [rv_non rx]; exact h.here rs rfl
  · exact h.elim
end
end DL

namespace DL
open PySem PySem.Spec PyProof.Rows L2
section
variable {cl : Cl} {K : PySem.W.Frag} {m : List Addr} {H : Hp} {E : XK} {D : Ends} {S : Sto} {sd : Sl} {σ : L2.St}
theorem Post.toNx (h : Post cl K (RFl K) m H E (endQ D) (.ok (.nx sd) S)) (rs : RS cl K m S H) (rl : RSl K m H sd σ) : D.nx σ H := h m (.nx σ) H (Ext.refl m) (Keep.refl H) rs rl
theorem Post.toBk (h : Post cl K (RFl K) m H E (endQ D) (.ok (.brk sd) S)) (rs : RS cl K m S H) (rl : RSl K m H sd σ) : D.bk σ H := h m (.brk σ) H (Ext.refl m) (Keep.refl H) rs rl
theorem Post.toCt (h : Post cl K (RFl K) m H E (endQ D) (.ok (.cnt sd) S)) (rs : RS cl K m S H) (rl : RSl K m H sd σ) : D.ct σ H := h m (.cnt σ) H (Ext.refl m) (Keep.refl H) rs rl
end
section
variable {cl : Cl} {K : PySem.W.Frag} {m : List Addr} {H : Hp} {E : XK} {En : Ends} {S : Sto} {d : D} {v : V}
theorem Post.toRt (h : Post cl K (RFl K) m H E (endQ En) (.ok (.ret d) S)) (rs : RS cl K m S H) (rv : RV K m H d v) : En.rt v H := h m (.ret v) H (Ext.refl m) (Keep.refl H) rs rv
end
def tstB (f : Sl → Sto → Res D) : Sl → Sto → Res Bool := fun sd S => (f sd S).bind fun d S1 => match d with
  | .bl b => .ok b S1
  | _ => .stuck
def tAndD (f g : Sl → Sto → Res Bool) : Sl → Sto → Res Bool := fun sd S => (f sd S).bind fun b S1 => if b then g sd S1 else .ok false S1
def tOrD (f g : Sl → Sto → Res Bool) : Sl → Sto → Res Bool := fun sd S => (f sd S).bind fun b S1 => if b then .ok true S1 else g sd S1
def tNotD (f : Sl → Sto → Res Bool) : Sl → Sto → Res Bool := fun sd S => (f sd S).bind fun b S1 => .ok (!b) S1
def dAnd (f g : Sl → Sto → Res D) : Sl → Sto → Res D := fun sd S => (f sd S).bind fun d S1 => match d with
  | .bl true => g sd S1
  | .bl false => .ok (.bl false) S1
  | _ => .stuck
def dOr (f g : Sl → Sto → Res D) : Sl → Sto → Res D := fun sd S => (f sd S).bind fun d S1 => match d with
  | .bl true => .ok (.bl true) S1
  | .bl false => g sd S1
  | _ => .stuck
def dNot (f : Sl → Sto → Res D) : Sl → Sto → Res D := fun sd S => (f sd S).bind fun d S1 => match d with
  | .bl b => .ok (.bl (!b)) S1
  | _ => .stuck
def dIf (c : Sl → Sto → Res Bool) (f g : Sl → Sto → Res D) : Sl → Sto → Res D := fun sd S => (c sd S).bind fun b S1 => if b then f sd S1 else g sd S1
def dNeg (f : Sl → Sto → Res D) : Sl → Sto → Res D := fun sd S => (f sd S).bind fun d S1 => match d with
  | .int i => .ok (.int (-i)) S1
  | _ => .stuck
section
variable {cl : Cl} {X : Cx} {E : XK} {a b c : Expr} {rest : List Expr} {fa fb fc : Sl → Sto → Res D} {ga gb gc : Sl → Sto → Res Bool} {pos : Pos}
theorem dt_val (ha : DE cl X E a fa) (he : ∀ whole, isTrue a X.env whole = (do let v ← whole; standAt a.pos; holding [v] (truthy v)) := by intro _; rfl) : DT cl X E a (tstB fa) := by
  obtain ⟨ta, pa, ha⟩ := ha
  refine ⟨_, pt_val pa he, fun m S H sd σ Q rs rl h => ?_⟩
  refine ha m S H sd σ _ rs rl (Post.bind h fun x S1 m1 vx H1 x1 k1 rs1 rx h1 => ?_)
  cases x with
  | bl k => exact ⟨k, rx, h1.here rs1 rfl⟩
  | _ => exact h1.elim
theorem dt_bool (h : DW cl X E a ga) : DT cl X E a ga := by
  obtain ⟨t, p, h⟩ := h
  exact ⟨t, p.pt, h⟩
theorem dw_and1 (ha : DT cl X E a ga) : DW cl X E (.BoolOp .And [a] pos) ga := by
  obtain ⟨t, p, h⟩ := ha
  exact ⟨t, pw_and1 p, h⟩
theorem dw_or1 (ha : DT cl X E a ga) : DW cl X E (.BoolOp .Or [a] pos) ga := by
  obtain ⟨t, p, h⟩ := ha
  exact ⟨t, pw_or1 p, h⟩
theorem dw_and (ha : DT cl X E a ga) (hb : DW cl X E (.BoolOp .And (b :: rest) pos) gb) : DW cl X E (.BoolOp .And (a :: b :: rest) pos) (tAndD ga gb) := by
  obtain ⟨t, p, ha⟩ := ha
  obtain ⟨u, q, hb⟩ := hb
  refine ⟨_, pw_and p q, fun m S H sd σ Q rs rl h => ?_⟩
  refine ha m S H sd σ _ rs rl (Post.bind h fun x S1 m1 vx H1 x1 k1 rs1 rx h1 => ?_)
  cases rx
  cases x with
  | true => exact iteT (hb m1 S1 H1 sd σ _ rs1 (rl.mono x1 k1) h1)
  | false => exact iteF (h1.here rs1 rfl)
theorem dw_or (ha : DT cl X E a ga) (hb : DW cl X E (.BoolOp .Or (b :: rest) pos) gb) : DW cl X E (.BoolOp .Or (a :: b :: rest) pos) (tOrD ga gb) := by
  obtain ⟨t, p, ha⟩ := ha
  obtain ⟨u, q, hb⟩ := hb
  refine ⟨_, pw_or p q, fun m S H sd σ Q rs rl h => ?_⟩
  refine ha m S H sd σ _ rs rl (Post.bind h fun x S1 m1 vx H1 x1 k1 rs1 rx h1 => ?_)
  cases rx
  cases x with
  | true => exact iteT (h1.here rs1 rfl)
  | false => exact iteF (hb m1 S1 H1 sd σ _ rs1 (rl.mono x1 k1) h1)
theorem dt_not (ha : DT cl X E a ga) : DT cl X E (.UnaryOp .Not a pos) (tNotD ga) := by
  obtain ⟨t, p, ha⟩ := ha
  refine ⟨_, pt_not p, fun m S H sd σ Q rs rl h => ?_⟩
  refine ha m S H sd σ _ rs rl (Post.bind h fun x S1 m1 vx H1 x1 k1 rs1 rx h1 => ?_)
  cases rx
  exact h1.here rs1 rfl
theorem de_one {op} (ha : DE cl X E a fa) : DE cl X E (.BoolOp op [a] pos) fa := by
  obtain ⟨t, p, ha⟩ := ha
  exact ⟨t, pe_one p, ha⟩
theorem de_and (ha : DE cl X E a fa) (hb : DE cl X E (.BoolOp .And (b :: rest) pos) fb) : DE cl X E (.BoolOp .And (a :: b :: rest) pos) (dAnd fa fb) := by
  obtain ⟨t, p, ha⟩ := ha
  obtain ⟨u, q, hb⟩ := hb
  refine ⟨_, pe_and p q, fun m S H sd σ Q rs rl h => ?_⟩
  refine ha m S H sd σ _ rs rl (Post.bind h fun x S1 m1 vx H1 x1 k1 rs1 rx h1 => ?_)
  cases x with
  | bl k =>
    refine ⟨k, rx, ?_⟩
    cases k with
    | true => exact iteT (hb m1 S1 H1 sd σ _ rs1 (rl.mono x1 k1) h1)
    | false => exact iteF (h1.here rs1 rfl)
  | _ => exact h1.elim
theorem de_if (hc : DT cl X E c gc) (ha : DE cl X E a fa) (hb : DE cl X E b fb) : DE cl X E (.IfExp c a b pos) (dIf gc fa fb) := by
  obtain ⟨tc, pc, hc⟩ := hc
  obtain ⟨t, p, ha⟩ := ha
  obtain ⟨u, q, hb⟩ := hb
  refine ⟨_, pe_ifExp pc p q, fun m S H sd σ Q rs rl h => ?_⟩
  refine hc m S H sd σ _ rs rl (Post.bind h fun x S1 m1 vx H1 x1 k1 rs1 rx h1 => ?_)
  cases rx
  cases x with
  | true => exact iteT (ha m1 S1 H1 sd σ _ rs1 (rl.mono x1 k1) h1)
  | false => exact iteF (hb m1 S1 H1 sd σ _ rs1 (rl.mono x1 k1) h1)
end

def sNext : Sl → Sto → Res Fl := fun sd S => .ok (.nx sd) S
def sSeq (f g : Sl → Sto → Res Fl) : Sl → Sto → Res Fl := fun sd S => (f sd S).bind fun fl S1 => match fl with
  | .nx sd1 => g sd1 S1
  | r => .ok r S1
def sIf (c : Sl → Sto → Res Bool) (f g : Sl → Sto → Res Fl) : Sl → Sto → Res Fl := fun sd S => (c sd S).bind fun b S1 => if b then f sd S1 else g sd S1
def sRet (f : Sl → Sto → Res D) : Sl → Sto → Res Fl := fun sd S => (f sd S).bind fun d S1 => .ok (.ret d) S1
def sExpr (f : Sl → Sto → Res D) : Sl → Sto → Res Fl := fun sd S => (f sd S).bind fun _ S1 => .ok (.nx sd) S1
def sAsg (f : Sl → Sto → Res D) (g : D → Sl → Sto → Res Sl) : Sl → Sto → Res Fl := fun sd S => (f sd S).bind fun d S1 => (g d sd S1).bind fun sd1 S2 => .ok (.nx sd1) S2
def gVar (i : Nat) : D → Sl → Sto → Res Sl := fun d sd S => .ok (sd.set i (some d)) S
section
variable {cl : Cl} {X : Cx} {E : XK} {a b c e : Expr} {st : Stmt} {sts sts' : List Stmt} {fa fb fc : Sl → Sto → Res D} {gc : Sl → Sto → Res Bool} {f g : Sl → Sto → Res Fl} {pos : Pos}
theorem dss_nil : DSs cl X E [] sNext := ⟨_, pss_nil, fun m S H sd σ D rs rl h => h.toNx rs rl⟩
theorem z8 (h1 : DS cl X E st f) (h2 : DSs cl X E sts g) : DSs cl X E (st :: sts) (sSeq f g) := by
  obtain ⟨t, p, h1⟩ := h1
  obtain ⟨u, q, h2⟩ := h2
  refine ⟨_, pss_cons p q, fun m S H sd σ D rs rl h => ?_⟩
  refine h1 m S H sd σ { D with nx := u D } rs rl (Post.bind h fun fl S1 m1 v H1 x1 k1 rs1 rv h3 => ?_)
  cases fl with
  | nx sd1 =>
    cases v with
    | nx σ1 => exact h2 m1 S1 H1 sd1 σ1 D rs1 rv h3
    | _ => exact rv.elim
  | ret d =>
    cases v with
    | ret w => exact h3.toRt rs1 rv
    | _ => exact rv.elim
  | brk sd1 =>
    cases v with
    | brk σ1 => exact h3.toBk rs1 rv
    | _ => exact rv.elim
  | cnt sd1 =>
    cases v with
    | cnt σ1 => exact h3.toCt rs1 rv
    | _ => exact rv.elim
theorem z9 (h1 : DS cl X E st f) : DSs cl X E [st] f := by
  obtain ⟨t, p, h1⟩ := h1
  exact ⟨_, pss_one p, h1⟩
def sBrk : Sl → Sto → Res Fl := fun sd S => .ok (.brk sd) S
theorem ds_break : DS cl X E (.Break pos) sBrk := ⟨_, ps_break, fun m S H sd σ D rs rl h => h.toBk rs rl⟩
theorem ds_if (hc : DT cl X E c gc) (ha : DSs cl X E sts f) (hb : DSs cl X E sts' g) : DS cl X E (.If c sts sts' pos) (sIf gc f g) := by
  obtain ⟨tc, pc, hc⟩ := hc
  obtain ⟨t, p, ha⟩ := ha
  obtain ⟨u, q, hb⟩ := hb
  refine ⟨_, ps_if pc p q, fun m S H sd σ D rs rl h => ?_⟩
  refine hc m S H sd σ _ rs rl (Post.bind h fun x S1 m1 vx H1 x1 k1 rs1 rx h1 => ?_)
  cases rx
  cases x with
  | true => exact iteT (ha m1 S1 H1 sd σ _ rs1 (rl.mono x1 k1) h1)
  | false => exact iteF (hb m1 S1 H1 sd σ _ rs1 (rl.mono x1 k1) h1)
theorem zf (he : DE cl X E e fa) : DS cl X E (.Return (some e) pos) (sRet fa) := by
  obtain ⟨t, p, he⟩ := he
  refine ⟨_, ps_ret p, fun m S H sd σ D rs rl h => ?_⟩
  refine he m S H sd σ _ rs rl (Post.bind h fun x S1 m1 vx H1 x1 k1 rs1 rx h1 => ?_)
  exact h1.toRt rs1 rx
theorem ds_expr (he : DE cl X E e fa) (hs : swapsWith e none pos.line X.env = pure false := by rfl) : DS cl X E (.Expr e pos) (sExpr fa) := by
  obtain ⟨t, p, he⟩ := he
  refine ⟨_, ps_expr p hs, fun m S H sd σ D rs rl h => ?_⟩
  refine he m S H sd σ _ rs rl (Post.bind h fun x S1 m1 vx H1 x1 k1 rs1 rx h1 => ?_)
  exact h1.toNx rs1 (rl.mono x1 k1)
theorem zd {i : Nat} {x : Str} {pos' : Pos} (hN : X.N.Nodup) (hi : X.N[i]? = some x) (hx : Loc X.env.scope x) (he : DE cl X E e fa) (hs : swapsWith e (some (.Name x pos')) pos.line X.env = pure false := by rfl) (hf : X.fn x = true ∨ X.env.scope.names.lookup x = some .local := by first | exact .inl rfl | exact .inr rfl | assumption) :
    DS cl X E (.Assign [.Name x pos'] e pos) (sAsg fa (gVar i)) := by
  obtain ⟨t, p, he⟩ := he
  refine ⟨_, ps_set hN hi hx p hs hf, fun m S H sd σ D rs rl h => ?_⟩
  refine he m S H sd σ _ rs rl (Post.bind h fun y S1 m1 vx H1 x1 k1 rs1 rx h1 => ?_)
  exact h1.toNx rs1 ((rl.mono x1 k1).set i rx)
theorem dg_name {i : Nat} {x : Str} (hN : X.N.Nodup) (hi : X.N[i]? = some x) (hx : Loc X.env.scope x) (hf : X.fn x = true ∨ X.env.scope.names.lookup x = some .local := by first | exact .inl rfl | exact .inr rfl | assumption) : DG cl X E (.Name x pos) (gVar i) := by
  refine ⟨_, pg_name hN hi hx hf, fun m S H sd σ d v Q rs rl rv h => ?_⟩
  exact h.here rs (rl.set i rv)
def gsNil : List D → Sl → Sto → Res Sl := fun ds sd S => match ds with
  | [] => .ok sd S
  | _ => .stuck
def gsCons (g : D → Sl → Sto → Res Sl) (k : List D → Sl → Sto → Res Sl) : List D → Sl → Sto → Res Sl := fun ds sd S => match ds with
  | d :: r => (g d sd S).bind fun sd1 S1 => k r sd1 S1
  | _ => .stuck
theorem dgs_nil : DGs cl X E [] gsNil := by
  refine ⟨_, pgs_nil, fun m S H sd σ ds vs Q rs rl rv h => ?_⟩
  cases ds with
  | nil => exact ⟨rv, h.here rs rl⟩
  | cons _ _ => exact h.elim
theorem dgs_cons {e : Expr} {es : List Expr} {g k} (h1 : DG cl X E e g) (h2 : DGs cl X E es k) (hs : (assignEach (e :: es) X.env).map (·.2) = assign e X.env :: (assignEach es X.env).map (·.2) := by rfl) : DGs cl X E (e :: es) (gsCons g k) := by
  obtain ⟨t, p, h1⟩ := h1
  obtain ⟨u, q, h2⟩ := h2
  refine ⟨_, pgs_cons p q hs, fun m S H sd σ ds vs Q rs rl rv h => ?_⟩
  cases ds with
  | nil => exact h.elim
  | cons d r =>
    obtain ⟨v, vr, rfl, r1, r2⟩ := rv
    refine ⟨v, vr, rfl, ?_⟩
    refine h1 m S H sd σ d v _ rs rl r1 (Post.bind h fun sd1 S1 m1 σ1 H1 x1 k1 rs1 rl1 h3 => ?_)
    exact h2 m1 S1 H1 sd1 σ1 r vr Q rs1 rl1 (r2.mono x1 k1) h3
def gTupD (n : Nat) (k : List D → Sl → Sto → Res Sl) : D → Sl → Sto → Res Sl := fun d sd S => match d with
  | .tup ds => if ds.length = n then k ds sd S else .stuck
  | d => match lsD d S with
    | some ds => if ds.length = n then k ds sd S else .stuck
    | _ => .stuck
theorem PG.or {tg : Expr} {t u : TG} (h : PG X tg t) (h' : PG X tg u) : PG X tg (fun v σ H Q => t v σ H Q ∨ u v σ H Q) :=
  ⟨fun pins s σ H v w Q I r hw => hw.elim (fun z => h.run pins s σ H v w Q I r z) (fun z => h'.run pins s σ H v w Q I r z)⟩
theorem dg_tup {es : List Expr} {k : Nat} {t} {n : Nat} (hc : X.calm = true) (h : DGs cl X E es t)
    (hn : (assignEach es X.env).length = n := by rfl) (hst : (assignEach es X.env).findIdx? (·.1) = none := by rfl) : DG cl X E (.Tuple es k pos) (gTupD n t) := by
  obtain ⟨u, q, h⟩ := h
  refine ⟨_, PG.or (pg_tup hc q hn hst) (pg_unl hc q hn hst), fun m S H sd σ d v Q rs rl rv hh => ?_⟩
  unfold gTupD at hh
  split at hh
  · rename_i ds
    split at hh
    · rename_i hl
      obtain ⟨a, vs, rfl, s1, r1⟩ := rv
      exact .inl ⟨a, vs, rfl, s1, by rw [← r1.length]; exact hl, h m S H sd σ ds vs Q rs rl r1 hh⟩
    · exact hh.elim
  · split at hh
    · rename_i ds e1
      split at hh
      · rename_i hl
        obtain ⟨a, vs, rfl, hv, r1⟩ := ls_rv rs rv e1
        exact .inr ⟨a, vs, rfl, hv, by rw [← r1.length]; exact hl, h m S H sd σ ds vs Q rs rl r1 hh⟩
      · exact hh.elim
    · exact hh.elim
theorem ds_asg {tg : Expr} {g} (he : DE cl X E e fa) (hg : DG cl X E tg g) (hs : swapsWithSole [tg] e pos.line X.env = pure false := by rfl) (hw : swappedStores [tg] e X.env = pure none := by rfl)
    (h1 : (assignEach [tg] X.env).map (·.2) = [assign tg X.env] := by rfl) : DS cl X E (.Assign [tg] e pos) (sAsg fa g) := by
  obtain ⟨t, p, he⟩ := he
  obtain ⟨u, q, hg⟩ := hg
  refine ⟨_, ps_asg p q hs hw h1, fun m S H sd σ D rs rl h => ?_⟩
  refine he m S H sd σ _ rs rl (Post.bind h fun y S1 m1 vx H1 x1 k1 rs1 rx h2 => ?_)
  refine hg m1 S1 H1 sd σ y vx _ rs1 (rl.mono x1 k1) rx (Post.bind h2 fun sd1 S2 m2 σ2 H2 x2 k2 rs2 rl2 h3 => ?_)
  exact h3.toNx rs2 rl2
def sPar (i j : Nat) (f : Sl → Sto → Res (List D)) : Sl → Sto → Res Fl := fun sd S => (f sd S).bind fun ds S1 => match ds with
  | [x, y] => .ok (.nx ((sd.set i (some x)).set j (some y))) S1
  | _ => .stuck
end
end DL

namespace DL
open PySem PySem.Spec PyProof.Rows L2
inductive Sk where
  | l (a : Addr) | t (a : Addr) | s (z : Str)
def Sk.v : Sk → V
  | .l a => .ref a
  | .t a => .ref a
  | .s z => .str z
def signs (z : Str) : List V := z.cps.toList.map fun c => V.str ⟨#[c]⟩
def Sk.Rd (K : PySem.W.Frag) (H : Hp) : Sk → List V → Prop
  | .l a, xs => SqL K H a xs
  | .t a, xs => SqT K H a xs
  | .s z, xs => xs = signs z
def Sk.It : Sk → Addr → Nat → Heap → Prop
  | .l a, it, i, h => h.IsListIter it a i
  | .t a, it, i, h => h.IsTupleIter it a i
  | .s z, it, i, h => ∃ t, h.IsStrIter it (strIterType z) z t i
section
variable {X : Cx} {pins : List (Addr × Obj)} {σ : L2.St} {H : Hp} {s : Shared} {k : Sk} {xs ys : List V} {it b a : Addr} {i : Nat}
theorem Sk.inj (I : Inv X pins σ H s) (h : k.Rd X.K H xs) (h' : k.Rd X.K H ys) : xs = ys := by
  cases k with
  | l a => exact I.list_inj h h'
  | t a => exact I.tuple_inj h h'
  | s z => exact Eq.trans h (Eq.symm h')
theorem Sk.It.keep {h h' : Heap} (x : k.It it i h) (hk : ∀ o, h.get? it = some o → h'.get? it = some o) : k.It it i h' := by
  cases k with
  | l a => obtain ⟨o, e, r⟩ := x; exact ⟨o, hk o e, r⟩
  | t a => obtain ⟨o, e, r⟩ := x; exact ⟨o, hk o e, r⟩
  | s z => obtain ⟨t, o, e, r⟩ := x; exact ⟨t, o, hk o e, r⟩
theorem Sk.It.obj {h : Heap} (x : k.It it i h) : ∃ o, h.get? it = some o ∧ ∀ v, o.data ≠ .cell v := by
  cases k with
  | l a => obtain ⟨o, e, _, r⟩ := x; exact ⟨o, e, fun v q => by rw [r] at q; cases q⟩
  | t a => obtain ⟨o, e, _, r⟩ := x; exact ⟨o, e, fun v q => by rw [r] at q; cases q⟩
  | s z => obtain ⟨t, o, e, _, r⟩ := x; exact ⟨o, e, fun v q => by rw [r] at q; cases q⟩
theorem fp_neL (I : Inv X pins σ H s) (f : FpOk X pins H b) (h : SqL X.K H a xs) : b ≠ a := by
  rintro rfl
  obtain ⟨f0, f1, f2, f3, f4, f5⟩ := f
  rcases h with (h | ⟨o, h⟩) | ⟨o, its, n, hk, _⟩
  · rw [f0] at h; cases h
  · rw [f0] at h; cases h
  · have e := I.mod.kin _ _ hk
    rcases f3 with f3 | f3
    · exact I.ok.noex _ _ e f3
    · exact absurd (Nat.lt_of_lt_of_le (Heap.lt_size e) (Nat.le_trans I.ok.bsz f3)) (Nat.lt_irrefl _)
theorem fp_neT (I : Inv X pins σ H s) (f : FpOk X pins H b) (h : SqT X.K H a xs) : b ≠ a := by
  rintro rfl
  obtain ⟨f0, f1, f2, f3, f4, f5⟩ := f
  rcases h with (h | ⟨o, h⟩) | ⟨o, its, n, hk, _⟩
  · rw [f0] at h; cases h
  · rw [f0] at h; cases h
  · have e := I.mod.kin _ _ hk
    rcases f3 with f3 | f3
    · exact I.ok.noex _ _ e f3
    · exact absurd (Nat.lt_of_lt_of_le (Heap.lt_size e) (Nat.le_trans I.ok.bsz f3)) (Nat.lt_irrefl _)
theorem draws_imp {prog : Program} {w : World} {A : Around} {fp : List Addr} {n : Nat} {P P' : Nat → Value → Prop} {St : Nat → Heap → Prop} (D : Draws prog w A it fp n P St) (h : ∀ i v, P i v → P' i v) : Draws prog w A it fp n P' St :=
  ⟨D.live, D.frame, fun i s Q E hi st hQ => D.item i s Q E hi st fun x h' tk p => hQ x h' tk (h i x p), D.done⟩
theorem Sk.draws (I : Inv X pins σ H s) (hc : X.calm = true) (hr : k.Rd X.K H xs) (hit : k.It it i s.heap) (f : FpOk X pins H it) :
    ∃ (fp : List Addr) (St : Nat → Heap → Prop), Draws X.prog X.w X.A.in1 it fp xs.length (fun j v => ∃ x, xs[j]? = some x ∧ RelV x v) St ∧ St i s.heap ∧ (∀ j h', St j h' → k.It it j h') ∧ it ∈ fp ∧ ∀ b, FpOk X pins H b → b ≠ it → b ∉ fp := by
  have hh : X.A.in1.handled = none := I.ok.hd hc
  cases k with
  | l a =>
    obtain ⟨its, rv, p, hz⟩ := I.list hr
    have hne : a ≠ it := fun e => fp_neL I f hr e.symm
    have e : its.toArray.size = xs.length := by simp [rv.length]
    refine ⟨[it, a], _, draws_imp (e ▸ Draws.list (prog := X.prog) (w := X.w) hh it a hne its.toArray) ?_, ⟨hit, p.isList⟩, fun j h' st => st.1, by simp, fun b fb hb => ?_⟩
    · intro j v hv
      have hv' : its[j]? = some v := by simpa using hv
      have hj : j < xs.length := by rw [rv.length]; exact (List.getElem?_eq_some_iff.mp hv').1
      obtain ⟨u, hu, ru⟩ := rv.get (i := j) (x := xs[j]) (by simp [hj])
      rw [hv'] at hu; cases hu
      exact ⟨_, by simp [hj], ru⟩
    · have := fp_neL I fb hr
      simp [hb, this]
  | t a =>
    obtain ⟨its, rv, p, hz⟩ := I.tuple hr
    have hne : a ≠ it := fun e => fp_neT I f hr e.symm
    have e : its.toArray.size = xs.length := by simp [rv.length]
    refine ⟨[it, a], _, draws_imp (e ▸ Draws.tuple (prog := X.prog) (w := X.w) hh it a hne its.toArray) ?_, ⟨hit, p⟩, fun j h' st => st.1, by simp, fun b fb hb => ?_⟩
    · intro j v hv
      have hv' : its[j]? = some v := by simpa using hv
      have hj : j < xs.length := by rw [rv.length]; exact (List.getElem?_eq_some_iff.mp hv').1
      obtain ⟨u, hu, ru⟩ := rv.get (i := j) (x := xs[j]) (by simp [hj])
      rw [hv'] at hu; cases hu
      exact ⟨_, by simp [hj], ru⟩
    · have := fp_neT I fb hr
      simp [hb, this]
  | s z =>
    obtain ⟨t, hit⟩ := hit
    have hr' : xs = signs z := hr
    have e : z.cps.size = xs.length := by rw [hr']; simp [signs]
    refine ⟨[it], _, draws_imp (e ▸ Draws.text (prog := X.prog) (w := X.w) hh it z t) ?_, hit, fun j h' st => ⟨t, st⟩, by simp, fun b fb hb => by simp [hb]⟩
    rintro j v ⟨c, u, hc', rfl⟩
    refine ⟨.str ⟨#[c]⟩, ?_, u, rfl⟩
    rw [hr']
    unfold signs
    rw [List.getElem?_map, Array.getElem?_toList, hc']
    rfl
end
set_option maxHeartbeats 4000000 in
theorem meets_enumerate_newB1 {v : Value} {o : Obj} {H : Heap → Prop} (B : Begins v o H) :
    Meets (Builtin.«enumerate.__new__» ⟨[.type "enumerate", v], []⟩) (fun _ R s => H s.heap ∧
      R (.ok (.ret (.ref (s.heap.push o).objs.size))) { s with heap := (s.heap.push o).push { cls := .type "enumerate", data := .fields #[.none, .bool false, .ref s.heap.objs.size, rawInt 0, .none, .none] } }) :=
  .of_wp fun prog w A R s h => by
    obtain ⟨hp, g, d, tk, os⟩ := s; obtain ⟨h1, h⟩ := h
    have hsub := sub_enumerate
    have q1 : ∀ {A' : Around} {E : Value → Shared → Prop} {Q : Value → Shared → Prop}, Q (.ref hp.objs.size) ⟨hp.push o, g, d, tk, os⟩ → wpAny (model prog w) A' (pyIter v) Q E ⟨hp, g, d, tk, os⟩ :=
      fun q => B.iter prog w _ _ ⟨hp, g, d, tk, os⟩ _ h1 q
    wp_walk using q1
    refine wpAny_stack_any fun st => wpAny_pure ?_
    split
    · rename_i c _ _ _ _ _
      cases (c == Value.type "enumerate")
      · wp_walk using q1
        exact ⟨_, rfl, h⟩
      · wp_walk using q1
        exact ⟨_, rfl, h⟩
    · wp_walk using q1
      exact ⟨_, rfl, h⟩
theorem enum_begins1 {prog : Program} {w : World} {A : Around} {E : Value → Shared → Prop} {s : Shared} {v : Value} {o : Obj} {H : Heap → Prop} {Q : Value → Shared → Prop} (B : Begins v o H) (h1 : H s.heap)
    (h : ∀ h', IsEnum h' (s.heap.objs.size + 1) s.heap.objs.size 0 .none → h'.get? s.heap.objs.size = some o → h'.objs.size = s.heap.objs.size + 2 →
      (∀ b o, s.heap.get? b = some o → h'.get? b = some o) → Q (.ref (s.heap.objs.size + 1)) { s with heap := h' }) :
    wpAny (model prog w) A (call (.type "enumerate") [v]) Q E s := by
  refine callType_new F.called_enumerate (by decide) (F.typeCall_enumerate_1 _) (F.newCall_enumerate_1 _) (fun obj => F.args_object_init_2 obj _) F.entry_enumerate_new
    (meets_enumerate_newB1 B) ⟨h1, ?_⟩
  have hz : (s.heap.push o).objs.size = s.heap.objs.size + 1 := Heap.size_push ..
  show _ ∧ _
  rw [hz]
  have he : IsEnum ((s.heap.push o).push { cls := .type "enumerate", data := .fields #[.none, .bool false, .ref s.heap.objs.size, rawInt 0, .none, .none] }) (s.heap.objs.size + 1) s.heap.objs.size 0 .none := by
    have := Heap.get?_push_size (s.heap.push o) (o := { cls := .type "enumerate", data := .fields #[.none, .bool false, .ref s.heap.objs.size, rawInt 0, .none, .none] }) rfl
    rw [hz] at this; exact this
  refine ⟨⟨_, he, rfl⟩, h _ he (Heap.get?_push_of_some _ (Heap.get?_push_size _ B.free)) (by rw [Heap.size_push, hz]) fun b o x => Heap.get?_push_of_some _ (Heap.get?_push_of_some _ x)⟩
theorem Sk.begins {X : Cx} {pins : List (Addr × Obj)} {σ : L2.St} {H : Hp} {s : Shared} {k : Sk} {xs : List V} {u : Value} (I : Inv X pins σ H s) (hr : k.Rd X.K H xs) (ru : RelV k.v u) :
    ∃ (o : Obj) (G : Heap → Prop), Begins u o G ∧ G s.heap ∧ ∀ h' it, h'.get? it = some o → k.It it 0 h' := by
  cases k with
  | l a =>
    obtain ⟨its, rv, p, hz⟩ := I.list hr
    cases ru
    exact ⟨_, _, begins_list a its.toArray, p.isList, fun h' it e => ⟨_, e, rfl, rfl⟩⟩
  | t a =>
    obtain ⟨its, rv, p, hz⟩ := I.tuple hr
    cases ru
    exact ⟨_, _, begins_tuple a its.toArray, p, fun h' it e => ⟨_, e, rfl, rfl⟩⟩
  | s z =>
    obtain ⟨t, rfl⟩ := ru
    exact ⟨_, _, begins_text z t, trivial, fun h' it e => ⟨t, _, e, rfl, rfl⟩⟩
def IteS (K : PySem.W.Frag) (k : Sk) : It :=
  ⟨fun i H => ∃ (xs : List V) (x : V), k.Rd K H xs ∧ xs[i]? = some x, fun i H v H' => ∃ T x, v = .ref T ∧ H T = none ∧ H' = upd H T (.tup [.int (i : Nat), x]) ∧ ∀ xs, k.Rd K H xs → xs[i]? = some x, fun i H => ∃ xs : List V, k.Rd K H xs ∧ xs.length = i⟩
theorem turn_enumS {P : Program} {w : World} {K : PySem.W.Frag} {elts : List Expr} {kk : Nat} {tpos : Pos} (k : Sk) (e it : Addr) :
    Turn P w K (.Tuple elts kk tpos) (IteS K k) [e, it] e (fun i h => (∃ old, IsEnum h e it ((i : Nat) : Int) old) ∧ k.It it i h ∧ e ≠ it) where
  mem := by simp
  obj := fun i h st b hb => by
    obtain ⟨⟨old, he⟩, hi, _⟩ := st
    have e' : b = e ∨ b = it := by simpa using hb
    rcases e' with z | z
    · rw [z]; exact ⟨_, he, fun v q => nomatch q⟩
    · rw [z]; exact hi.obj
  keep := fun i h h' st kk => let ⟨⟨old, he⟩, hi, hne⟩ := st; ⟨⟨old, kk e (by simp) _ he⟩, hi.keep fun o q => kk it (by simp) o q, hne⟩
  item := by
    intro X hP hw hK hc i pins s σ H E I hf st hg
    subst hP hw hK
    obtain ⟨⟨old, he⟩, hit, hne⟩ := st
    obtain ⟨xs, x, hq, hx⟩ := hg
    obtain ⟨fp, St, D, st0, back, hm, hout⟩ := Sk.draws I hc hq hit (hf it (by simp))
    have hel : e < s.heap.objs.size := Heap.lt_size he
    have hil : it < s.heap.objs.size := by obtain ⟨_, q, _⟩ := hit.obj; exact Heap.lt_size q
    have hlt : i < xs.length := (List.getElem?_eq_some_iff.mp hx).1
    refine wpAny_pyNext_enum_itemC D he st0 hlt hne (hout e (hf e (by simp)) hne) fun u h' tk hP ho hst' hT hsz hk => ?_
    obtain ⟨x', hx', ru⟩ := hP
    rw [hx] at hx'; cases hx'
    refine ⟨_, rfl, wpAny_letOwnedTupleGo_enum (s := { s with heap := h', toks := tk + 1 }) ho fun h'' he' sb => ?_⟩
    have hT2 : h''.get? s.heap.objs.size = some { cls := .type "tuple", data := .seq #[.int i tk, u] } := (sb.2 _ (Nat.ne_of_gt hel)).trans hT
    have new : ObjOk X.prog X.w (upd H s.heap.objs.size (.tup [.int (i : Nat), x])) h'' s.heap.objs.size (.tup [.int (i : Nat), x]) :=
      ⟨by show 2 ≤ sizeLine; decide, [.int i tk, u], .cons ⟨_, rfl⟩ (.cons ru .nil), ⟨_, hT2, rfl, _, rfl⟩⟩
    have I1 : Inv X pins σ (upd H s.heap.objs.size (.tup [.int (i : Nat), x])) { s with heap := h'', toks := tk + 1 } :=
      I.turnedNew (ch := [e, it]) (fun b ob hb q => (sb.2 b (fun z => hb (by simp [z]))).trans (hk b ob (fun z => hb (by simp [z])) (fun z => hb (by simp [z])) q)) hf (Nat.le_refl _) new
    refine ⟨.ref s.heap.objs.size, _, I1, rfl, ⟨_, x, rfl, I.hok.fresh (Nat.le_refl _), rfl, fun ys hy => by rw [Sk.inj I hy hq]; exact hx⟩, ⟨⟨u, ?_⟩, (back _ _ hst').keep fun o q => (sb.2 it (Ne.symm hne)).trans q, hne⟩, fun b hb => ?_⟩
    · have e1 : ((i + 1 : Nat) : Int) = (i : Int) + 1 := by omega
      rw [e1]; exact he'
    · have hb' : b < s.heap.objs.size := by
        have e' : b = e ∨ b = it := by simpa using hb
        rcases e' with z | z
        · rw [z]; exact hel
        · rw [z]; exact hil
      rw [upd_ne (Nat.ne_of_lt hb')]
      exact (hf b hb).1
  done := by
    intro X hP hw hK hc i pins s σ H E I hf st hg
    subst hP hw hK
    obtain ⟨⟨old, he⟩, hit, hne⟩ := st
    obtain ⟨xs, hq, hx⟩ := hg
    obtain ⟨fp, St, D, st0, back, hm, hout⟩ := Sk.draws I hc hq hit (hf it (by simp))
    obtain ⟨f0, f1, f2, f3, f4, f5⟩ := hf it (by simp)
    subst hx
    exact wpAny_pyNext_enum_endD D he st0 fun h' eb => ⟨rfl, I.turned (t' := s.toks) (fun b o hb q => eb b o hb q) f0 f1 f3 f4 f5⟩
  self := fun A i s Q E st h => let ⟨⟨_, he⟩, _⟩ := st; wpAny_pyIter_enum he h
def iEnumS (K : PySem.W.Frag) (ta : TA) : TI := fun σ H R => ta σ H fun vs H1 => ∃ (k : Sk) (xs : List V), vs = [k.v] ∧ k.Rd K H1 xs ∧ R (IteS K k) H1
theorem pi_enumS {X : Cx} {e : Expr} {ta : TA} {p pos tpos : Pos} {elts : List Expr} {kk : Nat} (hg : Gl X "enumerate") (hm : X.mg "enumerate" = none) (ha : PA X [e] ta) (hs : starEach [e] X.env = [(false, eval e X.env)] := by rfl) :
    PI X (.Tuple elts kk tpos) (.Call (.Name "enumerate" p) [e] [] pos) (iEnumS X.K ta) := by
  refine ⟨fun pins s σ H R I h => ?_⟩
  refine Call_ (ld_blt I hg hm boot_enumerate (PyProof.Rows.callWith_type1 (thn (ha.run pos pins s σ H _ I h) fun us s1 ⟨vs, H1, I1, r1, q1⟩ => ?_) hs rfl))
  obtain ⟨k, xs, ex, hq, q⟩ := q1
  subst ex
  cases r1 with
  | cons r rr =>
    cases rr
    obtain ⟨o, G, B, g1, hb⟩ := Sk.begins I1 hq r
    refine enum_begins1 B g1 fun h' he hit hsz hk => wpAny_pyIter_enum he ?_
    have I2 : Inv X pins σ H1 { s1 with heap := h' } := I1.kept (t' := s1.toks) hk
    refine ⟨s1.heap.objs.size + 1, [s1.heap.objs.size + 1, s1.heap.objs.size], _, _, H1, rfl, I2, turn_enumS k (s1.heap.objs.size + 1) s1.heap.objs.size, ⟨⟨.none, he⟩, hb h' _ hit, Nat.succ_ne_self _⟩, fun b hb => ?_, q⟩
    have e' : b = s1.heap.objs.size + 1 ∨ b = s1.heap.objs.size := by simpa using hb
    have hle : s1.heap.objs.size ≤ b := by
      rcases e' with z | z
      · rw [z]; exact Nat.le_add_right _ _
      · rw [z]; exact Nat.le_refl _
    exact I1.fpOk hle (I1.hok.fresh hle)
structure ZAp (z TI TO i1 i2 : Addr) : Prop where
  TIz : TI ≠ z
  TOz : TO ≠ z
  TITO : TI ≠ TO
  TIi1 : TI ≠ i1
  TIi2 : TI ≠ i2
  zi1 : z ≠ i1
  zi2 : z ≠ i2
  TOi1 : TO ≠ i1
  TOi2 : TO ≠ i2
  i12 : i1 ≠ i2
end DL

namespace DL
open PySem PySem.Spec PyProof.Rows L2
structure ItD where
  items : List D
  chk : Sto → Bool
def yes : Sto → Bool := fun _ => true
def chkL (l : Nat) (xs : List D) : Sto → Bool := fun S => decide (S[l]? = some (.lst xs))
def IR (cl : Cl) (K : PySem.W.Frag) (m0 : List Addr) (H0 : Hp) (it : ItD) (J : It) : Prop :=
  ∀ (i : Nat) m S H, Ext m0 m → Keep H0 H → RS cl K m S H → it.chk S = true →
    (i = it.items.length → J.stop i H) ∧ ∀ d, it.items[i]? = some d → J.go i H ∧ ∀ x H', J.yld i H x H' → Keep H H' ∧ RS cl K m S H' ∧ RV K m H' d x
def DI (cl : Cl) (X : Cx) (E : XK) (tg iter : Expr) (f : Sl → Sto → Res ItD) : Prop :=
  ∃ wi, PI X tg iter wi ∧ ∀ m S H sd σ R, RS cl X.K m S H → RSl X.K m H sd σ → Post cl X.K (IR cl X.K) m H E R (f sd S) → wi σ H R
def signsD (z : Str) : List D := z.cps.toList.map fun c => D.str ⟨#[c]⟩
def itemsD (d : D) (S : Sto) : Option ItD := match d with
  | .tup ds => some ⟨ds, yes⟩
  | .frl ds => some ⟨ds, yes⟩
  | .str z => some ⟨signsD z, yes⟩
  | .ref l => match S[l]? with
    | some (.lst ds) => some ⟨ds, chkL l ds⟩
    | _ => none
  | _ => none
def iVal (f : Sl → Sto → Res D) : Sl → Sto → Res ItD := fun sd S => (f sd S).bind fun d S1 => match itemsD d S1 with
  | some it => .ok it S1
  | none => .stuck
section
variable {cl : Cl} {X : Cx} {E : XK} {tg e e2 : Expr} {fa fb : Sl → Sto → Res D}
theorem chkL_eq {l : Nat} {xs : List D} {S : Sto} (h : chkL l xs S = true) : S[l]? = some (.lst xs) := of_decide_eq_true h
theorem rvs_signs {K : PySem.W.Frag} {m : List Addr} {H : Hp} (z : Str) : RVs K m H (signsD z) (signs z) := by
  unfold signsD signs
  induction z.cps.toList with
  | nil => exact rfl
  | cons c cs ih => exact ⟨_, _, rfl, rfl, ih⟩
theorem items_src {K : PySem.W.Frag} {m : List Addr} {S : Sto} {H : Hp} {d : D} {v : V} {it : ItD} (rs : RS cl K m S H) (rv : RV K m H d v) (h : itemsD d S = some it) :
    it.chk S = true ∧ ∃ (k : Sk), v = k.v ∧ ∀ m' S' H', Ext m m' → Keep H H' → RS cl K m' S' H' → it.chk S' = true → ∃ xs, k.Rd K H' xs ∧ RVs K m' H' it.items xs := by
  unfold itemsD at h
  split at h
  · rename_i ds
    cases h
    obtain ⟨a, vs, rfl, s1, r1⟩ := rv
    exact ⟨rfl, .t a, rfl, fun m' S' H' x k _ _ => ⟨vs, sqT_keep k s1, r1.mono x k⟩⟩
  · rename_i ds
    cases h
    obtain ⟨a, vs, rfl, s1, r1⟩ := rv
    exact ⟨rfl, .l a, rfl, fun m' S' H' x k _ _ => ⟨vs, (s1.keep k).sq, r1.mono x k⟩⟩
  · rename_i z
    cases h; cases rv
    exact ⟨rfl, .s z, rfl, fun m' S' H' x k _ _ => ⟨_, rfl, rvs_signs z⟩⟩
  · rename_i l
    split at h
    · rename_i ds e1
      cases h
      obtain ⟨a, h1, rfl⟩ := rv
      refine ⟨decide_eq_true e1, .l a, rfl, fun m' S' H' x k rs' hc => ?_⟩
      obtain ⟨a', h2, vs, hv, r1⟩ := rs'.adr (chkL_eq hc)
      rw [x l a h1] at h2; cases h2
      exact ⟨vs, SqL.of hv, r1⟩
    · cases h
  · cases h
def itS (K : PySem.W.Frag) : Sk → It
  | .l a => Itl K a
  | .t a => Itt K a
  | .s z => Its z
def iSrc (K : PySem.W.Frag) (te : TE) : TI := fun σ H R => te σ H fun v H1 => ∃ (k : Sk) (xs : List V), v = k.v ∧ k.Rd K H1 xs ∧ R (itS K k) H1
theorem pi_src {l : Expr} {tl : TE} (hl : PE X l tl) : PI X tg l (iSrc X.K tl) := by
  refine ⟨fun pins s σ H R I h => ?_⟩
  refine thn (hl.run pins s σ H _ I h) fun v s1 ⟨y, H1, I1, r1, q1⟩ => ?_
  obtain ⟨k, xs, e, hq, q⟩ := q1
  subst e
  cases k with
  | l a =>
    cases r1
    obtain ⟨its, rv, p, hz⟩ := I1.list hq
    refine wpAny_pyIter_list p.isList ?_
    refine ⟨s1.heap.objs.size, [s1.heap.objs.size], _, _, H1, rfl, I1.kept (t' := s1.toks) fun b o e => Heap.get?_push_of_some _ e, turn_list a _, ⟨_, Heap.get?_push_size _ rfl, rfl, rfl⟩, fun b hb => ?_, q⟩
    have e : b = s1.heap.objs.size := by simpa using hb
    subst e
    exact I1.fpOk (Nat.le_refl _) (I1.hok.fresh (Nat.le_refl _))
  | t a =>
    cases r1
    obtain ⟨its, rv, p, hz⟩ := I1.tuple hq
    refine wpAny_pyIter_tuple (show s1.heap.IsTuple a its.toArray from p) ?_
    refine ⟨s1.heap.objs.size, [s1.heap.objs.size], _, _, H1, rfl, I1.kept (t' := s1.toks) fun b o e => Heap.get?_push_of_some _ e, turn_tuple a _, ⟨_, Heap.get?_push_size _ rfl, rfl, rfl⟩, fun b hb => ?_, q⟩
    have e : b = s1.heap.objs.size := by simpa using hb
    subst e
    exact I1.fpOk (Nat.le_refl _) (I1.hok.fresh (Nat.le_refl _))
  | s x =>
    obtain ⟨t, rfl⟩ := r1
    cases ha : x.cps.all (· < 128)
    · exact wpAny_pyIter_wide ha (pi_one (tk := s1.toks) I1 _ (turn_str _ x t "str_iterator" (.inr rfl)) ⟨_, Heap.get?_push_size _ rfl, rfl, rfl⟩ q)
    · exact wpAny_pyIter_ascii ha (pi_one (tk := s1.toks) I1 _ (turn_str _ x t "str_ascii_iterator" (.inl rfl)) ⟨_, Heap.get?_push_size _ rfl, rfl, rfl⟩ q)
theorem ir_src {K : PySem.W.Frag} {m : List Addr} {H : Hp} {it : ItD} {k : Sk} (src : ∀ m' S' H', Ext m m' → Keep H H' → RS cl K m' S' H' → it.chk S' = true → ∃ xs, k.Rd K H' xs ∧ RVs K m' H' it.items xs) : IR cl K m H it (itS K k) := by
  intro i m' S' H' x kp rs' hc'
  obtain ⟨ys, hr', hv'⟩ := src m' S' H' x kp rs' hc'
  cases k with
  | l a =>
    refine ⟨fun e => ⟨ys, hr', by rw [← hv'.length, e]; exact Nat.le_refl _⟩, fun d' hd => ?_⟩
    obtain ⟨w, hw, rw'⟩ := hv'.get hd
    exact ⟨⟨ys, w, hr', hw⟩, fun y H2 ⟨e, hy⟩ => by subst e; have := hy ys hr'; rw [hw] at this; cases this; exact ⟨Keep.refl _, rs', rw'⟩⟩
  | t a =>
    refine ⟨fun e => ⟨ys, hr', by rw [← hv'.length, e]; exact Nat.le_refl _⟩, fun d' hd => ?_⟩
    obtain ⟨w, hw, rw'⟩ := hv'.get hd
    exact ⟨⟨ys, w, hr', hw⟩, fun y H2 ⟨e, hy⟩ => by subst e; have := hy ys hr'; rw [hw] at this; cases this; exact ⟨Keep.refl _, rs', rw'⟩⟩
  | s z =>
    have hys : ys = signs z := hr'
    have hlen : it.items.length = z.cps.size := by rw [hv'.length, hys]; simp [signs]
    refine ⟨fun e => by show z.cps.size ≤ i; omega, fun d' hd => ?_⟩
    have hi : i < z.cps.size := by rw [← hlen]; exact (List.getElem?_eq_some_iff.mp hd).1
    refine ⟨hi, fun y H2 ⟨e, c, hc1, hc2⟩ => ?_⟩
    subst e
    obtain ⟨w, hw, rw'⟩ := hv'.get hd
    refine ⟨Keep.refl _, rs', ?_⟩
    rw [hys] at hw
    unfold signs at hw
    rw [List.getElem?_map, Array.getElem?_toList, hc1] at hw
    cases hw
    rw [hc2]; exact rw'
theorem di_val (he : DE cl X E e fa) : DI cl X E tg e (iVal fa) := by
  obtain ⟨t, p, he⟩ := he
  refine ⟨_, pi_src p, fun m S H sd σ R rs rl h => ?_⟩
  refine he m S H sd σ _ rs rl (Post.bind h fun d S1 m1 v H1 x1 k1 rs1 rv h1 => ?_)
  split at h1
  · rename_i it e1
    obtain ⟨hc, k, rfl, src⟩ := items_src rs1 rv e1
    obtain ⟨xs, hr, hv⟩ := src m1 S1 H1 (Ext.refl _) (Keep.refl _) rs1 hc
    exact ⟨k, xs, rfl, hr, h1.here rs1 (ir_src src)⟩
  · exact h1.elim
def enumL : Nat → List D → List D
  | _, [] => []
  | n, d :: ds => .tup [.int (n : Nat), d] :: enumL (n + 1) ds
theorem enumL_len : ∀ (n : Nat) (ds : List D), (enumL n ds).length = ds.length
  | _, [] => rfl
  | n, d :: ds => by simp [enumL, enumL_len (n + 1) ds]
theorem enumL_get : ∀ (n : Nat) (ds : List D) (i : Nat), (enumL n ds)[i]? = (ds[i]?).map fun d => D.tup [.int ((n + i : Nat) : Int), d]
  | _, [], i => by simp [enumL]
  | n, d :: ds, 0 => by simp [enumL]
  | n, d :: ds, i + 1 => by
    simp only [enumL, List.getElem?_cons_succ]
    rw [enumL_get (n + 1) ds i, show n + 1 + i = n + (i + 1) by omega]
def iEnumD (f : Sl → Sto → Res D) : Sl → Sto → Res ItD := fun sd S => (f sd S).bind fun d S1 => match itemsD d S1 with
  | some it => .ok ⟨enumL 0 it.items, it.chk⟩ S1
  | none => .stuck
theorem di_enum {p pos tpos : Pos} {elts : List Expr} {kk : Nat} (hg : Gl X "enumerate") (hm : X.mg "enumerate" = none) (he : DE cl X E e fa) (hs : starEach [e] X.env = [(false, eval e X.env)] := by rfl) :
    DI cl X E (.Tuple elts kk tpos) (.Call (.Name "enumerate" p) [e] [] pos) (iEnumD fa) := by
  obtain ⟨t, q, he⟩ := he
  refine ⟨_, pi_enumS hg hm (pa_cons q pa_nil hs) hs, fun m S H sd σ R rs rl h => ?_⟩
  refine he m S H sd σ _ rs rl (Post.bind h fun d S1 m1 v H1 x1 k1 rs1 rv h1 => ?_)
  split at h1
  · rename_i it e1
    obtain ⟨hc, k, rfl, src⟩ := items_src rs1 rv e1
    obtain ⟨xs, hr, hv⟩ := src m1 S1 H1 (Ext.refl _) (Keep.refl _) rs1 hc
    refine ⟨k, xs, rfl, hr, h1.here rs1 ?_⟩
    intro i m' S' H' x kp rs' hc'
    obtain ⟨ys, hr', hv'⟩ := src m' S' H' x kp rs' hc'
    refine ⟨fun e => ⟨ys, hr', by rw [← hv'.length, e, enumL_len]⟩, fun d' hd => ?_⟩
    have hd1 : (enumL 0 it.items)[i]? = some d' := hd
    rw [enumL_get] at hd1
    obtain ⟨d0, e0, rfl⟩ := Option.map_eq_some_iff.mp hd1
    obtain ⟨w, hw, rw'⟩ := hv'.get e0
    refine ⟨⟨ys, w, hr', hw⟩, ?_⟩
    rintro y H2 ⟨T, w', rfl, hT, rfl, hy⟩
    have := hy ys hr'
    rw [hw] at this; cases this
    have nt := newTup rs' (ds := [.int ((0 + i : Nat) : Int), d0]) (vs := [.int (i : Nat), w]) ⟨_, _, rfl, by show V.int _ = V.int _; rw [Nat.zero_add], _, _, rfl, rw', rfl⟩ hT
    exact ⟨Keep.new hT, nt.1, nt.2⟩
  · exact h1.elim
def zipL : List D → List D → List D
  | a :: as, b :: bs => .tup [a, b] :: zipL as bs
  | _, _ => []
def iZipD (f g : Sl → Sto → Res D) : Sl → Sto → Res ItD := fun sd S => (f sd S).bind fun d S1 => (g sd S1).bind fun e S2 => match itemsD d S2, itemsD e S2 with
  | some it, some jt => .ok ⟨zipL it.items jt.items, fun S => it.chk S && jt.chk S⟩ S2
  | _, _ => .stuck
def rangeL (lo : Int) (n : Nat) : List D := (List.range n).map fun i => D.int (lo + (i : Nat))
theorem rangeL_len (lo : Int) (n : Nat) : (rangeL lo n).length = n := by simp [rangeL]
theorem ir_range {K : PySem.W.Frag} {m : List Addr} {H : Hp} (lo : Int) (n : Nat) : IR cl K m H ⟨rangeL lo n, yes⟩ (Itr lo n) := by
  intro i m' S' H' x kp rs' hc'
  refine ⟨fun e => by show n ≤ i; rw [e]; exact Nat.le_of_eq (rangeL_len lo n).symm, fun d hd => ?_⟩
  have hd1 : (rangeL lo n)[i]? = some d := hd
  have hi : i < n := by have := (List.getElem?_eq_some_iff.mp hd1).1; rw [rangeL_len] at this; exact this
  refine ⟨hi, fun y H2 ⟨e1, e2⟩ => ?_⟩
  subst e1 e2
  refine ⟨Keep.refl _, rs', ?_⟩
  unfold rangeL at hd1
  rw [List.getElem?_map, List.getElem?_range hi] at hd1
  cases hd1
  exact rfl
noncomputable def iRngD1 (f : Sl → Sto → Res D) : Sl → Sto → Res ItD := fun sd S => (f sd S).bind fun d S1 => match d with
  | .int j => if bnd 62 j = true then .ok ⟨rangeL 0 j.toNat, yes⟩ S1 else .stuck
  | _ => .stuck
noncomputable def iRngD2 (f g : Sl → Sto → Res D) : Sl → Sto → Res ItD := fun sd S => (f sd S).bind fun d S1 => (g sd S1).bind fun e S2 => match d, e with
  | .int i, .int j => if bnd 62 i = true ∧ bnd 62 j = true then .ok ⟨rangeL i (j - i).toNat, yes⟩ S2 else .stuck
  | _, _ => .stuck
theorem di_range1 {p pos : Pos} (hg : Gl X "range") (hm : X.mg "range" = none) (he : DE cl X E e fa) (hs : starEach [e] X.env = [(false, eval e X.env)] := by rfl) : DI cl X E tg (.Call (.Name "range" p) [e] [] pos) (iRngD1 fa) := by
  obtain ⟨t, q, he⟩ := he
  refine ⟨_, pi_range1 hg hm (pa_cons q pa_nil hs) hs, fun m S H sd σ R rs rl h => ?_⟩
  refine he m S H sd σ _ rs rl (Post.bind h fun d S1 m1 v H1 x1 k1 rs1 rv h1 => ?_)
  cases d with
  | int j =>
    cases rv
    dsimp only at h1
    split at h1
    · rename_i hz
      exact ⟨j, rfl, (bnd_ok hz).1, (bnd_ok hz).2, h1.here rs1 (ir_range 0 j.toNat)⟩
    · exact h1.elim
  | _ => exact h1.elim
def loopD (chk : Sto → Bool) (ga : D → Sl → Sto → Res Sl) (fb : Sl → Sto → Res Fl) : List D → Sl → Sto → Res Fl
  | [], sd, S => if chk S then .ok (.nx sd) S else .stuck
  | x :: xs, sd, S => if chk S then (ga x sd S).bind fun sd1 S1 => (fb sd1 S1).bind fun fl S2 => match fl with
      | .nx sd2 => loopD chk ga fb xs sd2 S2
      | .cnt sd2 => loopD chk ga fb xs sd2 S2
      | .brk sd2 => .ok (.nx sd2) S2
      | .ret d => .ok (.ret d) S2
    else .stuck
def sFor (fi : Sl → Sto → Res ItD) (ga : D → Sl → Sto → Res Sl) (fb : Sl → Sto → Res Fl) : Sl → Sto → Res Fl := fun sd S => (fi sd S).bind fun it S1 => loopD it.chk ga fb it.items sd S1
theorem ds_for {body : List Stmt} {fi : Sl → Sto → Res ItD} {ga : D → Sl → Sto → Res Sl} {fb : Sl → Sto → Res Fl} {pos : Pos} (hp : PassesOwn (model X.prog X.w) X.A X.env X.xe) (hc : X.calm = true) (hi : DI cl X E tg e fi) (hg : DG cl X E tg ga) (hb : DSs cl X E body fb) (hs : ∀ x, foldedSetIterable e X.env x = pure x := by intro _; rfl) :
    DS cl X E (.For tg e body [] pos) (sFor fi ga fb) := by
  obtain ⟨wi, pi, hi⟩ := hi
  obtain ⟨g, pg, hg⟩ := hg
  obtain ⟨tb, pb, hb⟩ := hb
  refine ⟨_, ps_for hp hc pi pg pb hs, fun m S H sd σ D rs rl h => ?_⟩
  refine hi m S H sd σ _ rs rl (Post.bind h fun it S1 m1 J H1 x1 k1 rs1 ir h1 => ?_)
  refine ⟨fun i n σ' H' => n + i = it.items.length ∧ ∃ m' S' sd', Ext m1 m' ∧ Keep H1 H' ∧ RS cl X.K m' S' H' ∧ RSl X.K m' H' sd' σ' ∧ Post cl X.K (RFl X.K) m' H' E (endQ D) (loopD it.chk ga fb (it.items.drop i) sd' S'), ⟨it.items.length, rfl, m1, S1, sd, Ext.refl _, Keep.refl _, rs1, rl.mono x1 k1, h1⟩, ?_⟩
  rintro i n σ' H' ⟨hn, m', S', sd', x', k', rs', rl', h'⟩
  by_cases hlt : i < it.items.length
  · have e1 : it.items.drop i = it.items[i] :: it.items.drop (i + 1) := by rw [List.drop_eq_getElem_cons hlt]
    rw [e1] at h'
    unfold loopD at h'
    split at h'
    · rename_i hck
      obtain ⟨go, yl⟩ := (ir i m' S' H' x' k' rs' hck).2 it.items[i] (by simp [hlt])
      refine .inr ⟨go, fun σ3 H3 => ∃ m3 S3 sd3, Ext m1 m3 ∧ Keep H1 H3 ∧ RS cl X.K m3 S3 H3 ∧ RSl X.K m3 H3 sd3 σ3 ∧ Post cl X.K (RFl X.K) m3 H3 E (endQ D) (loopD it.chk ga fb (it.items.drop (i + 1)) sd3 S3), fun σ3 H3 z => ⟨n - 1, by omega, by omega, z⟩, fun x H2 hy => ?_⟩
      obtain ⟨ky, rsy, rvy⟩ := yl x H2 hy
      refine hg m' S' H2 sd' σ' _ x _ rsy (rl'.mono (Ext.refl _) ky) rvy (Post.bind (Post.mono (Ext.refl _) ky h') fun sd1 S3 m3 σ3 H3 x3 k3 rs3 rl3 h3 => ?_)
      refine hb m3 S3 H3 sd1 σ3 _ rs3 rl3 (Post.bind h3 fun fl S4 m4 v H4 x4 k4 rs4 rv4 h4 => ?_)
      cases fl with
      | nx sd4 =>
        cases v with
        | nx σ4 => exact ⟨m4, S4, sd4, (x'.trans x3).trans x4, ((k'.trans ky).trans k3).trans k4, rs4, rv4, h4⟩
        | _ => exact rv4.elim
      | cnt sd4 =>
        cases v with
        | cnt σ4 => exact ⟨m4, S4, sd4, (x'.trans x3).trans x4, ((k'.trans ky).trans k3).trans k4, rs4, rv4, h4⟩
        | _ => exact rv4.elim
      | brk sd4 =>
        cases v with
        | brk σ4 => exact h4.toNx rs4 rv4
        | _ => exact rv4.elim
      | ret d =>
        cases v with
        | ret w => exact h4.toRt rs4 rv4
        | _ => exact rv4.elim
    · exact h'.elim
  · have hi' : i = it.items.length := by omega
    have e1 : it.items.drop i = [] := by rw [hi']; simp
    rw [e1] at h'
    unfold loopD at h'
    split at h'
    · rename_i hck
      exact .inl ⟨(ir i m' S' H' x' k' rs' hck).1 hi', h'.toNx rs' rl'⟩
    · exact h'.elim
def whileD (fc : Sl → Sto → Res Bool) (fb : Sl → Sto → Res Fl) : Nat → Sl → Sto → Res Fl
  | 0, _, _ => .stuck
  | n + 1, sd, S => (fc sd S).bind fun b S1 => if b then (fb sd S1).bind fun fl S2 => (match fl with
      | .nx sd2 => whileD fc fb n sd2 S2
      | .cnt sd2 => whileD fc fb n sd2 S2
      | .brk sd2 => .ok (.nx sd2) S2
      | .ret d => .ok (.ret d) S2) else .ok (.nx sd) S1
theorem ds_while {c : Expr} {body : List Stmt} {fc : Sl → Sto → Res Bool} {fb : Sl → Sto → Res Fl} {pos : Pos} (n : Nat) (hp : PassesOwn (model X.prog X.w) X.A X.env X.xe) (hc : DT cl X E c fc) (hb : DSs cl X E body fb) :
    DS cl X E (.While c body [] pos) (whileD fc fb n) := by
  obtain ⟨tc, pc, hc⟩ := hc
  obtain ⟨tb, pb, hb⟩ := hb
  refine ⟨_, ps_while hp pc pb, fun m S H sd σ D rs rl h => ?_⟩
  refine ⟨fun n σ' H' => ∃ m' S' sd', RS cl X.K m' S' H' ∧ RSl X.K m' H' sd' σ' ∧ Post cl X.K (RFl X.K) m' H' E (endQ D) (whileD fc fb n sd' S'), ⟨n, m, S, sd, rs, rl, h⟩, ?_⟩
  rintro n σ' H' ⟨m', S', sd', rs', rl', h'⟩
  cases n with
  | zero => exact h'.elim
  | succ n =>
    unfold whileD at h'
    refine hc m' S' H' sd' σ' _ rs' rl' (Post.bind h' fun b S1 m1 vb H1 x1 k1 rs1 rb h1 => ?_)
    cases rb
    cases b with
    | false => exact iteF (h1.toNx rs1 (rl'.mono x1 k1))
    | true =>
      refine iteT ⟨fun σ3 H3 => ∃ m' S' sd', RS cl X.K m' S' H3 ∧ RSl X.K m' H3 sd' σ3 ∧ Post cl X.K (RFl X.K) m' H3 E (endQ D) (whileD fc fb n sd' S'), fun σ3 H3 z => ⟨n, Nat.lt_succ_self _, z⟩, ?_⟩
      refine hb m1 S1 H1 sd' σ' _ rs1 (rl'.mono x1 k1) (Post.bind h1 fun fl S4 m4 v H4 x4 k4 rs4 rv4 h4 => ?_)
      cases fl with
      | nx sd4 =>
        cases v with
        | nx σ4 => exact ⟨m4, S4, sd4, rs4, rv4, h4⟩
        | _ => exact rv4.elim
      | cnt sd4 =>
        cases v with
        | cnt σ4 => exact ⟨m4, S4, sd4, rs4, rv4, h4⟩
        | _ => exact rv4.elim
      | brk sd4 =>
        cases v with
        | brk σ4 => exact h4.toNx rs4 rv4
        | _ => exact rv4.elim
      | ret d =>
        cases v with
        | ret w => exact h4.toRt rs4 rv4
        | _ => exact rv4.elim
end
end DL

namespace DL
open PySem PySem.Spec PyProof.Rows L2
def wipeD (sd : Sl) : List Nat → Sl
  | [] => sd
  | v :: vs => (wipeD sd vs).set v none
theorem wipe_get (σ : L2.St) : ∀ (vs : List Nat) (j : Nat), j < σ.length → (wipe σ vs)[j]? = if j ∈ vs then some none else σ[j]?
  | [], j, h => by simp [wipe]
  | v :: vs, j, h => by
    unfold wipe
    by_cases e : v = j
    · subst e
      rw [List.getElem?_set_self (by rw [wipe_length]; exact h)]
      simp
    · rw [List.getElem?_set_ne e, wipe_get σ vs j h]
      have : (j ∈ v :: vs) ↔ j ∈ vs := by simp [Ne.symm e]
      simp only [this]
theorem wipe_ext {σ τ : L2.St} {vs : List Nat} (hl : σ.length = τ.length) (h : ∀ j, j ∉ vs → σ[j]? = τ[j]?) : wipe σ vs = wipe τ vs := by
  apply List.ext_getElem?
  intro j
  by_cases hj : j < σ.length
  · rw [wipe_get σ vs j hj, wipe_get τ vs j (by omega)]
    by_cases e : j ∈ vs
    · rw [if_pos e, if_pos e]
    · rw [if_neg e, if_neg e]; exact h j e
  · rw [List.getElem?_eq_none (by rw [wipe_length]; omega), List.getElem?_eq_none (by rw [wipe_length]; omega)]
theorem wipe_set {σ : L2.St} {vs : List Nat} {i : Nat} {x : Option V} (h : i ∈ vs) : wipe (σ.set i x) vs = wipe σ vs :=
  wipe_ext (by simp) fun j hj => List.getElem?_set_ne (fun (e : i = j) => hj (by rw [← e]; exact h))
theorem wipe_wipe (σ : L2.St) (vs : List Nat) : wipe (wipe σ vs) vs = wipe σ vs :=
  wipe_ext (by rw [wipe_length]) fun j hj => wipe_out hj
theorem RSl.wipe {K : PySem.W.Frag} {m : List Addr} {H : Hp} {sd : Sl} {σ : L2.St} (r : RSl K m H sd σ) : ∀ vs : List Nat, RSl K m H (wipeD sd vs) (L2.wipe σ vs)
  | [] => r
  | v :: vs => by
    unfold wipeD L2.wipe
    exact (RSl.wipe r vs).unset v
structure Own (g : TG) (vs : List Nat) : Prop where
  mono : ∀ v σ H (Q Q' : L2.St → Hp → Prop), (∀ σ H, Q σ H → Q' σ H) → g v σ H Q → g v σ H Q'
  own : ∀ v σ H (Q : L2.St → Hp → Prop), g v σ H Q → g v σ H fun σ2 H2 => wipe σ2 vs = wipe σ vs ∧ Q σ2 H2
structure Owns (g : TGs) (vs : List Nat) : Prop where
  mono : ∀ v σ H (Q Q' : L2.St → Hp → Prop), (∀ σ H, Q σ H → Q' σ H) → g v σ H Q → g v σ H Q'
  own : ∀ v σ H (Q : L2.St → Hp → Prop), g v σ H Q → g v σ H fun σ2 H2 => wipe σ2 vs = wipe σ vs ∧ Q σ2 H2
def DGw (cl : Cl) (X : Cx) (E : XK) (vs : List Nat) (tg : Expr) (f : D → Sl → Sto → Res Sl) : Prop :=
  ∃ g, PG X tg g ∧ Own g vs ∧ ∀ m S H sd σ d v Q, RS cl X.K m S H → RSl X.K m H sd σ → RV X.K m H d v → Post cl X.K (RSl X.K) m H E Q (f d sd S) → g v σ H Q
def DGsw (cl : Cl) (X : Cx) (E : XK) (vs : List Nat) (tg : List Expr) (f : List D → Sl → Sto → Res Sl) : Prop :=
  ∃ g, PGs X tg g ∧ Owns g vs ∧ ∀ m S H sd σ d v Q, RS cl X.K m S H → RSl X.K m H sd σ → RVs X.K m H d v → Post cl X.K (RSl X.K) m H E Q (f d sd S) → g v σ H Q
section
variable {cl : Cl} {X : Cx} {E : XK} {vs : List Nat} {pos : Pos}
theorem dgw_name {i : Nat} {x : Str} (hv : i ∈ vs) (hN : X.N.Nodup) (hi : X.N[i]? = some x) (hx : Loc X.env.scope x) (hf : X.fn x = true ∨ X.env.scope.names.lookup x = some .local := by first | exact .inl rfl | exact .inr rfl | assumption) : DGw cl X E vs (.Name x pos) (gVar i) :=
  ⟨_, pg_name hN hi hx hf, ⟨fun v σ H Q Q' hq h => hq _ _ h, fun v σ H Q h => ⟨wipe_set hv, h⟩⟩, fun m S H sd σ d v Q rs rl rv h => h.here rs (rl.set i rv)⟩
theorem dgsw_nil : DGsw cl X E vs [] gsNil := by
  refine ⟨_, pgs_nil, ⟨fun v σ H Q Q' hq h => ⟨h.1, hq _ _ h.2⟩, fun v σ H Q h => ⟨h.1, rfl, h.2⟩⟩, fun m S H sd σ ds vs Q rs rl rv h => ?_⟩
  cases ds with
  | nil => exact ⟨rv, h.here rs rl⟩
  | cons _ _ => exact h.elim
theorem dgsw_cons {e : Expr} {es : List Expr} {g k} (h1 : DGw cl X E vs e g) (h2 : DGsw cl X E vs es k) (hs : (assignEach (e :: es) X.env).map (·.2) = assign e X.env :: (assignEach es X.env).map (·.2) := by rfl) : DGsw cl X E vs (e :: es) (gsCons g k) := by
  obtain ⟨t, p, o1, h1⟩ := h1
  obtain ⟨u, q, o2, h2⟩ := h2
  refine ⟨_, pgs_cons p q hs, ⟨fun v σ H Q Q' hq h => ?_, fun v σ H Q h => ?_⟩, fun m S H sd σ ds vs Q rs rl rv h => ?_⟩
  · obtain ⟨v1, r, e, h⟩ := h
    exact ⟨v1, r, e, o1.mono _ _ _ _ _ (fun σ2 H2 z => o2.mono _ _ _ _ _ hq z) h⟩
  · obtain ⟨v1, r, e, h⟩ := h
    refine ⟨v1, r, e, o1.mono _ _ _ _ _ (fun σ2 H2 z => ?_) (o1.own _ _ _ _ h)⟩
    obtain ⟨z1, z2⟩ := z
    exact o2.mono _ _ _ _ _ (fun σ3 H3 y => ⟨y.1.trans z1, y.2⟩) (o2.own _ _ _ _ z2)
  · cases ds with
    | nil => exact h.elim
    | cons d r =>
      obtain ⟨v, vr, rfl, r1, r2⟩ := rv
      refine ⟨v, vr, rfl, ?_⟩
      refine h1 m S H sd σ d v _ rs rl r1 (Post.bind h fun sd1 S1 m1 σ1 H1 x1 k1 rs1 rl1 h3 => ?_)
      exact h2 m1 S1 H1 sd1 σ1 r vr Q rs1 rl1 (r2.mono x1 k1) h3
theorem dgw_tup {es : List Expr} {k : Nat} {t} {n : Nat} (hc : X.calm = true) (h : DGsw cl X E vs es t)
    (hn : (assignEach es X.env).length = n := by rfl) (hst : (assignEach es X.env).findIdx? (·.1) = none := by rfl) : DGw cl X E vs (.Tuple es k pos) (gTupD n t) := by
  obtain ⟨u, q, o, h⟩ := h
  refine ⟨_, PG.or (pg_tup hc q hn hst) (pg_unl hc q hn hst), ⟨fun v σ H Q Q' hq hh => ?_, fun v σ H Q hh => ?_⟩, fun m S H sd σ d v Q rs rl rv hh => ?_⟩
  · rcases hh with ⟨a, xs, e, s1, hl, hh⟩ | ⟨a, xs, e, s1, hl, hh⟩
    · exact .inl ⟨a, xs, e, s1, hl, o.mono _ _ _ _ _ hq hh⟩
    · exact .inr ⟨a, xs, e, s1, hl, o.mono _ _ _ _ _ hq hh⟩
  · rcases hh with ⟨a, xs, e, s1, hl, hh⟩ | ⟨a, xs, e, s1, hl, hh⟩
    · exact .inl ⟨a, xs, e, s1, hl, o.own _ _ _ _ hh⟩
    · exact .inr ⟨a, xs, e, s1, hl, o.own _ _ _ _ hh⟩
  · unfold gTupD at hh
    split at hh
    · rename_i ds
      split at hh
      · rename_i hl
        obtain ⟨a, vs, rfl, s1, r1⟩ := rv
        exact .inl ⟨a, vs, rfl, s1, by rw [← r1.length]; exact hl, h m S H sd σ ds vs Q rs rl r1 hh⟩
      · exact hh.elim
    · split at hh
      · rename_i ds e1
        split at hh
        · rename_i hl
          obtain ⟨a, vs, rfl, hv, r1⟩ := ls_rv rs rv e1
          exact .inr ⟨a, vs, rfl, hv, by rw [← r1.length]; exact hl, h m S H sd σ ds vs Q rs rl r1 hh⟩
        · exact hh.elim
      · exact hh.elim
end
def Res.noExc {α : Type} : Res α → Res α
  | .exc _ _ => .stuck
  | r => r
theorem Post.noExc {cl : Cl} {K : PySem.W.Frag} {α β : Type} {Rv : List Addr → Hp → α → β → Prop} {m : List Addr} {H : Hp} {E : XK} {Q : β → Hp → Prop} {r : Res α} (h : Post cl K Rv m H E Q r.noExc) : Post cl K Rv m H E0 Q r := by
  cases r with
  | ok a S => exact h
  | exc x S => exact h.elim
  | stuck => exact h
theorem Post.bindN {cl : Cl} {K : PySem.W.Frag} {α β γ δ : Type} {Rv : List Addr → Hp → α → β → Prop} {Rw : List Addr → Hp → γ → δ → Prop} {m : List Addr} {H : Hp} {E : XK} {Q : β → Hp → Prop}
    {r : Res α} {k : α → Sto → Res γ} {Q' : δ → Hp → Prop} (h : Post cl K Rw m H E Q' (r.noExc.bind k))
    (hk : ∀ d S1 m1 v H1, Ext m m1 → Keep H H1 → RS cl K m1 S1 H1 → Rv m1 H1 d v → Post cl K Rw m1 H1 E Q' (k d S1) → Q v H1) : Post cl K Rv m H E0 Q r := by
  cases r with
  | ok d S1 => exact fun m1 v H1 x1 k1 rs rv => hk d S1 m1 v H1 x1 k1 rs rv (Post.mono x1 k1 h)
  | exc x S1 => exact h.elim
  | stuck => exact h.elim
def compD (chk : Sto → Bool) (ga : D → Sl → Sto → Res Sl) (ft : Sl → Sto → Res Bool) (fe : Sl → Sto → Res D) (l : Nat) (sd : Sl) : List D → Sto → Res Unit
  | [], S => if chk S then .ok () S else .stuck
  | x :: xs, S => if chk S then (ga x sd S).noExc.bind fun sd1 S1 => (ft sd1 S1).noExc.bind fun b S2 => if b then (fe sd1 S2).noExc.bind fun y S3 => (match S3[l]? with
      | some (.lst acc) => if acc.length < sizeLine then compD chk ga ft fe l sd xs (S3.set l (.lst (acc ++ [y]))) else .stuck
      | _ => .stuck) else compD chk ga ft fe l sd xs S2
    else .stuck
def dComp (vs : List Nat) (fi : Sl → Sto → Res ItD) (ga : D → Sl → Sto → Res Sl) (ft : Sl → Sto → Res Bool) (fe : Sl → Sto → Res D) : Sl → Sto → Res D := fun sd S =>
  (fi sd S).bind fun it S1 => (compD it.chk ga ft fe S1.length (wipeD sd vs) it.items (S1 ++ [.lst []])).bind fun _ S2 => .ok (.ref S1.length) S2
def tYesD : Sl → Sto → Res Bool := fun _ S => .ok true S
def DTs (cl : Cl) (X : Cx) (E : XK) (ifs : List Expr) (f : Sl → Sto → Res Bool) : Prop :=
  ∃ t, PTs X ifs t ∧ ∀ m S H sd σ Q, RS cl X.K m S H → RSl X.K m H sd σ → Post cl X.K RBool m H E Q (f sd S) → t σ H Q
section
variable {cl : Cl} {X : Cx} {E : XK} {e : Expr} {f : Sl → Sto → Res Bool}
theorem dts_nil : DTs cl X E [] tYesD := ⟨_, pts_nil, fun m S H sd σ Q rs rl h => h.here rs rfl⟩
theorem dts_one (h : DT cl X E e f) : DTs cl X E [e] f := by
  obtain ⟨t, p, h⟩ := h
  exact ⟨_, pts_one p, h⟩
end
section
variable {cl : Cl} {X : Cx} {E : XK} {elt tg iter : Expr} {ifs : List Expr} {scope : Scope} {own : List (Str × Nat)} {pos : Pos} {fi : Sl → Sto → Res ItD} {ga : D → Sl → Sto → Res Sl} {ft : Sl → Sto → Res Bool} {fe : Sl → Sto → Res D}
theorem comp_core {wi : TI} {g : TG} {tt : TT} {te : TE} {vs : List Nat} (X' : Cx) (hK : X'.K = X.K)
    (hi : ∀ m S H sd σ R, RS cl X.K m S H → RSl X.K m H sd σ → Post cl X.K (IR cl X.K) m H E R (fi sd S) → wi σ H R)
    (og : Own g vs) (hg : ∀ m S H sd σ d v Q, RS cl X.K m S H → RSl X.K m H sd σ → RV X.K m H d v → Post cl X.K (RSl X.K) m H E0 Q (ga d sd S) → g v σ H Q)
    (ht : ∀ m S H sd σ Q, RS cl X.K m S H → RSl X.K m H sd σ → Post cl X.K RBool m H E0 Q (ft sd S) → tt σ H Q)
    (he : ∀ m S H sd σ Q, RS cl X.K m S H → RSl X.K m H sd σ → Post cl X.K (RV X.K) m H E0 Q (fe sd S) → te σ H Q) :
    ∀ m S H sd σ Q, RS cl X.K m S H → RSl X.K m H sd σ → Post cl X.K (RV X.K) m H E Q (dComp vs fi ga ft fe sd S) → tLc wi g tt te vs σ H Q := by
  intro m S H sd σ Q rs rl h
  refine hi m S H sd σ _ rs rl (Post.bind h fun it S1 m1 J H1 x1 k1 rs1 ir h1 => ?_)
  intro D hD
  obtain ⟨nl1, nl2⟩ := newLst rs1 (ds := []) (vs := []) rfl hD
  obtain ⟨aD, hmD, eD⟩ := nl2
  cases eD
  have x2 := Ext.snoc m1 D
  have k2 : Keep H1 (upd H1 D (.lst [])) := Keep.new hD
  refine ⟨fun i n H' => n + i = it.items.length ∧ ∃ m' S', Ext (m1 ++ [D]) m' ∧ Keep (upd H1 D (.lst [])) H' ∧ RS cl X.K m' S' H' ∧ Post cl X.K (RV X.K) m' H' E Q ((compD it.chk ga ft fe S1.length (wipeD sd vs) (it.items.drop i) S').bind fun _ S2 => .ok (.ref S1.length) S2),
    ⟨it.items.length, rfl, m1 ++ [D], S1 ++ [.lst []], Ext.refl _, Keep.refl _, nl1, by rw [List.drop_zero]; exact Post.mono x2 k2 h1⟩, ?_⟩
  rintro i n H' ⟨hn, m', S', x', k', rs', h'⟩
  have rlw : RSl X.K m' H' (wipeD sd vs) (wipe σ vs) := ((rl.mono x1 k1).wipe vs).mono (x2.trans x') (k2.trans k')
  by_cases hlt : i < it.items.length
  · have e1 : it.items.drop i = it.items[i] :: it.items.drop (i + 1) := by rw [List.drop_eq_getElem_cons hlt]
    rw [e1] at h'
    unfold compD at h'
    split at h'
    · rename_i hck
      obtain ⟨go, yl⟩ := (ir i m' S' H' (x2.trans x') (k2.trans k') rs' hck).2 it.items[i] (by simp [hlt])
      refine .inr ⟨go, fun H3 => ∃ m3 S3, Ext (m1 ++ [D]) m3 ∧ Keep (upd H1 D (.lst [])) H3 ∧ RS cl X.K m3 S3 H3 ∧ Post cl X.K (RV X.K) m3 H3 E Q ((compD it.chk ga ft fe S1.length (wipeD sd vs) (it.items.drop (i + 1)) S3).bind fun _ S2 => .ok (.ref S1.length) S2), fun H3 z => ⟨n - 1, by omega, by omega, z⟩, fun x H2 hy => ?_⟩
      obtain ⟨ky, rsy, rvy⟩ := yl x H2 hy
      rw [bind_assoc] at h'
      refine og.mono _ _ _ _ _ (fun σ2 H2' z => ⟨z.1.trans (wipe_wipe σ vs), z.2⟩) (og.own _ _ _ _ (hg m' S' H2 (wipeD sd vs) (wipe σ vs) _ x _ rsy (rlw.mono (Ext.refl _) ky) rvy (Post.bindN (Post.mono (Ext.refl _) ky h') fun sd1 S3 m3 σ3 H3 x3 k3 rs3 rl3 h3 => ?_)))
      rw [bind_assoc] at h3
      refine ht m3 S3 H3 sd1 σ3 _ rs3 rl3 (Post.bindN h3 fun b S4 m4 vb H4 x4 k4 rs4 rb h4 => ?_)
      cases rb
      cases b with
      | false => exact iteF ⟨m4, S4, (x'.trans x3).trans x4, ((k'.trans ky).trans k3).trans k4, rs4, h4⟩
      | true =>
        refine iteT ?_
        have h4' : Post cl X.K (RV X.K) m4 H4 E Q (((fe sd1 S4).noExc.bind fun y S3 => (match S3[S1.length]? with
            | some (.lst acc) => if acc.length < sizeLine then compD it.chk ga ft fe S1.length (wipeD sd vs) (it.items.drop (i + 1)) (S3.set S1.length (.lst (acc ++ [y]))) else .stuck
            | _ => .stuck)).bind fun _ S2 => .ok (.ref S1.length) S2) := h4
        rw [bind_assoc] at h4'
        refine he m4 S4 H4 sd1 σ3 _ rs4 (rl3.mono x4 k4) (Post.bindN h4' fun y S5 m5 vy H5 x5 k5 rs5 ry h5 => ?_)
        split at h5
        · rename_i acc ea
          split at h5
          · rename_i hz
            obtain ⟨a, ha, ws, hw, rw'⟩ := rs5.adr ea
            have xx : Ext (m1 ++ [D]) m5 := ((x'.trans x3).trans x4).trans x5
            rw [xx _ _ hmD] at ha; cases ha
            have hk5 := rs5.keepPut (u := .lst (ws ++ [vy])) ea (xx _ _ hmD)
            refine ⟨ws, hw, by rw [← rw'.length]; exact hz, m5, List.set S5 S1.length (.lst (acc ++ [y])), xx, (((k'.trans ky).trans k3).trans k4).trans (k5.trans hk5), rs5.put ea (xx _ _ hmD) ⟨_, upd_same, (rw'.snoc ry).mono (Ext.refl _) hk5⟩, Post.mono (Ext.refl _) hk5 h5⟩
          · exact h5.elim
        · exact h5.elim
    · exact h'.elim
  · have hi' : i = it.items.length := by omega
    have e1 : it.items.drop i = [] := by rw [hi']; simp
    rw [e1] at h'
    unfold compD at h'
    split at h'
    · rename_i hck
      exact .inl ⟨(ir i m' S' H' (x2.trans x') (k2.trans k') rs' hck).1 hi', h' m' (.ref D) H' (Ext.refl _) (Keep.refl _) rs' ⟨D, x' _ _ hmD, rfl⟩⟩
    · exact h'.elim
theorem de_comp (hc : X.calm = true) (hN : X.N.Nodup) (hi : DI cl X E tg iter fi) (ok : BlkOk X.N X.env.scope scope own)
    (hg : ∀ (s : Shared) (H : Hp) (C : Addr) (c : List (Str × Addr)) (fp : List Addr), DGw cl (X.blk s H scope (compEnvC scope c C X.env) fp) E0 (own.map (·.2)) tg ga)
    (ht : ∀ (s : Shared) (H : Hp) (C : Addr) (c : List (Str × Addr)) (fp : List Addr), DTs cl (X.blk s H scope (compEnvC scope c C X.env) fp) E0 ifs ft)
    (he : ∀ (s : Shared) (H : Hp) (C : Addr) (c : List (Str × Addr)) (fp : List Addr), DE cl (X.blk s H scope (compEnvC scope c C X.env) fp) E0 elt fe)
    (hs : ∀ x, foldedSetIterable iter X.env x = pure x := by intro _; rfl) :
    DE cl X E (.ListComp elt [⟨tg, iter, ifs, 0⟩] scope pos) (dComp (own.map (·.2)) fi ga ft fe) := by
  obtain ⟨wi, pi, hi⟩ := hi
  -- one reading for all blocks: every reading that the block's rules allow
  refine ⟨tLc wi (fun v σ H Q => ∃ m S sd d, RS cl X.K m S H ∧ RSl X.K m H sd σ ∧ RV X.K m H d v ∧ Post cl X.K (RSl X.K) m H E0 (fun σ2 H2 => wipe σ2 (own.map (·.2)) = wipe σ (own.map (·.2)) → Q σ2 H2) (ga d sd S))
      (fun σ H Q => ∃ m S sd, RS cl X.K m S H ∧ RSl X.K m H sd σ ∧ Post cl X.K RBool m H E0 Q (ft sd S))
      (fun σ H Q => ∃ m S sd, RS cl X.K m S H ∧ RSl X.K m H sd σ ∧ Post cl X.K (RV X.K) m H E0 Q (fe sd S)) (own.map (·.2)), pe_lc hc hN pi ok (fun s H C c fp => ?_) (fun s H C c fp => ?_) (fun s H C c fp => ?_) hs, ?_⟩
  · obtain ⟨g, pg, og, hg⟩ := hg s H C c fp
    exact ⟨fun pins s σ H v u Q I r ⟨m, S, sd, d, rs, rl, rv, h⟩ => pg.run pins s σ H v u Q I r (og.mono _ _ _ _ _ (fun σ2 H2 z => z.2 z.1) (og.own _ _ _ _ (hg m S H sd σ d v _ rs rl rv h)))⟩
  · obtain ⟨t, p, ht⟩ := ht s H C c fp
    exact ⟨fun pins s σ H Q I ⟨m, S, sd, rs, rl, h⟩ => p.run pins s σ H Q I (ht m S H sd σ Q rs rl h)⟩
  · obtain ⟨t, p, he⟩ := he s H C c fp
    exact ⟨fun pins s σ H Q I ⟨m, S, sd, rs, rl, h⟩ => p.run pins s σ H Q I (he m S H sd σ Q rs rl h)⟩
  · refine comp_core X rfl hi ⟨fun v σ H Q Q' hq ⟨m, S, sd, d, rs, rl, rv, h⟩ => ⟨m, S, sd, d, rs, rl, rv, h.imp fun σ2 H2 z w => hq _ _ (z w)⟩, fun v σ H Q ⟨m, S, sd, d, rs, rl, rv, h⟩ => ⟨m, S, sd, d, rs, rl, rv, h.imp fun σ2 H2 z w => ⟨w, z w⟩⟩⟩
      (fun m S H sd σ d v Q rs rl rv h => ⟨m, S, sd, d, rs, rl, rv, Post.imp (Q' := fun σ2 H2 => wipe σ2 (own.map (·.2)) = wipe σ (own.map (·.2)) → Q σ2 H2) (fun σ2 H2 z _ => z) h⟩) (fun m S H sd σ Q rs rl h => ⟨m, S, sd, rs, rl, h⟩) (fun m S H sd σ Q rs rl h => ⟨m, S, sd, rs, rl, h⟩)
end
end DL

namespace DL
open PySem PySem.Spec PyProof.Rows L2
def ixD : D → D → Sto → Res D
  | .tup ds, .int i, S => match atI ds i with
    | some d => .ok d S
    | none => .stuck
  | .frl ds, .int i, S => match atI ds i with
    | some d => .ok d S
    | none => .stuck
  | .str z, .int i, S => if z.length ≤ sizeLine then match atI z.cps.toList i with
      | some c => .ok (.str ⟨#[c]⟩) S
      | none => .stuck
    else .stuck
  | .ref l, .int i, S => match S[l]? with
    | some (.lst ds) => match atI ds i with
      | some d => .ok d S
      | none => .stuck
    | _ => .stuck
  | _, _, _ => .stuck
section
variable {cl : Cl} {X : Cx} {E : XK} {a b : Expr} {fa fb : Sl → Sto → Res D} {pos : Pos}
theorem atI_rv {K : PySem.W.Frag} {m : List Addr} {H : Hp} {ds : List D} {vs : List V} {i : Int} {d : D} (r : RVs K m H ds vs) (h : atI ds i = some d) : ∃ v, atI vs i = some v ∧ RV K m H d v := by
  unfold atI at h ⊢
  rw [← r.length]
  cases e : ixN ds.length i with
  | none => rw [e] at h; cases h
  | some j =>
    rw [e] at h
    exact r.get h
theorem ix_seqD {m : List Addr} {S : Sto} {H : Hp} {x y : D} {vx vy : V} {Q : VK} {E : XK} (rs : RS cl X.K m S H) (rx : RV X.K m H x vx) (ry : RV X.K m H y vy) (h : Post cl X.K (RV X.K) m H E Q (ixD x y S)) : rIx X.K vx vy H Q := by
  unfold ixD at h
  split at h
  · cases ry
    obtain ⟨a, vs, rfl, s1, r1⟩ := rx
    split at h
    · rename_i d e
      obtain ⟨v, e1, rv⟩ := atI_rv r1 e
      exact .inr (.inl ⟨a, vs, _, v, rfl, rfl, s1, e1, h.here rs rv⟩)
    · exact h.elim
  · cases ry
    obtain ⟨a, vs, rfl, s1, r1⟩ := rx
    split at h
    · rename_i d e
      obtain ⟨v, e1, rv⟩ := atI_rv r1 e
      exact .inl ⟨a, vs, _, v, rfl, rfl, s1.sq, e1, h.here rs rv⟩
    · exact h.elim
  · cases ry; cases rx
    split at h
    · rename_i hz
      split at h
      · rename_i c e
        exact .inr (.inr ⟨_, _, c, rfl, rfl, hz, e, h.here rs rfl⟩)
      · exact h.elim
    · exact h.elim
  · cases ry
    split at h
    · rename_i ds e1
      obtain ⟨a, h1, vs, hv, r1⟩ := rs.adr e1
      obtain ⟨a', h2, rfl⟩ := rx
      rw [h1] at h2; cases h2
      split at h
      · rename_i d e
        obtain ⟨v, e1, rv⟩ := atI_rv r1 e
        exact .inl ⟨a, vs, _, v, rfl, rfl, SqL.of hv, e1, h.here rs rv⟩
      · exact h.elim
    · exact h.elim
  · exact h.elim
theorem de_ix (ha : DE cl X E a fa) (hb : DE cl X E b fb) (hs : PlainIx b := by intro _ _; rfl) : DE cl X E (.Subscript a b pos) (d2 ixD fa fb) := by
  obtain ⟨t, p, ha⟩ := ha
  obtain ⟨u, q, hb⟩ := hb
  refine ⟨_, pe_ix ix_seq p q hs, fun m S H sd σ Q rs rl h => ?_⟩
  refine ha m S H sd σ _ rs rl (Post.bind h fun x S1 m1 vx H1 x1 k1 rs1 rx h1 => ?_)
  refine hb m1 S1 H1 sd σ _ rs1 (rl.mono x1 k1) (Post.bind h1 fun y S2 m2 vy H2 x2 k2 rs2 ry h2 => ?_)
  exact ix_seqD rs2 (RV.mono x2 k2 x rx) ry h2
def setD (o i v : D) (S : Sto) : Res Unit := match o, i with
  | .ref l, .int k => match S[l]? with
    | some (.lst ds) => match ixN ds.length k with
      | some j => .ok () (S.set l (.lst (ds.set j v)))
      | none => .stuck
    | _ => .stuck
  | _, _ => .stuck
def gSubD (set : D → D → D → Sto → Res Unit) (fo fi : Sl → Sto → Res D) : D → Sl → Sto → Res Sl := fun v sd S => (fo sd S).bind fun o S1 => (fi sd S1).bind fun i S2 => (set o i v S2).bind fun _ S3 => .ok sd S3
def SetD (cl : Cl) (X : Cx) (g : D → D → D → Sto → Res Unit) : Prop :=
  ∃ t, PSet X t ∧ ∀ (E : XK) m S H o i v vo vi vv (Q : Hp → Prop), RS cl X.K m S H → RV X.K m H o vo → RV X.K m H i vi → RV X.K m H v vv → Post cl X.K (fun _ _ (_ _ : Unit) => True) m H E (fun _ H => Q H) (g o i v S) → t vo vi vv H Q
theorem set_lstD : SetD cl X setD := by
  refine ⟨_, set_list, fun E m S H o i v vo vi vv Q rs ro ri rv h => ?_⟩
  unfold setD at h
  split at h
  · rename_i l k
    cases ri
    split at h
    · rename_i ds e1
      obtain ⟨a, h1, vs, hv, r1⟩ := rs.adr e1
      obtain ⟨a', h2, rfl⟩ := ro
      rw [h1] at h2; cases h2
      split at h
      · rename_i j ej
        have kp := rs.keepPut (u := .lst (vs.set j vv)) e1 h1
        exact ⟨a, vs, k, j, rfl, rfl, hv, by rw [← r1.length]; exact ej, h m () _ (Ext.refl _) kp (rs.put e1 h1 ⟨_, upd_same, (r1.set rv j).mono (Ext.refl _) kp⟩) trivial⟩
      · exact h.elim
    · exact h.elim
  · exact h.elim
theorem dg_sub {o i : Expr} {fo fi set} (ho : DE cl X E o fo) (hi : DE cl X E i fi) (hs : SetD cl X set)
    (ha : ∀ v, assign (.Subscript o i pos) X.env v = (do
      let ov ← holding [v] (eval o X.env)
      let iv ← holding [v, ov] (eval i X.env)
      standAt pos
      holding [v, ov, iv] (setItem ov iv v)
      release [v, ov, iv] []) := by intro _; rfl) : DG cl X E (.Subscript o i pos) (gSubD set fo fi) := by
  obtain ⟨t, p, ho⟩ := ho
  obtain ⟨u, q, hi⟩ := hi
  obtain ⟨w, ps, hs⟩ := hs
  refine ⟨_, pg_sub p q ps ha, fun m S H sd σ d v Q rs rl rv h => ?_⟩
  refine ho m S H sd σ _ rs rl (Post.bind h fun x S1 m1 vx H1 x1 k1 rs1 rx h1 => ?_)
  refine hi m1 S1 H1 sd σ _ rs1 (rl.mono x1 k1) (Post.bind h1 fun y S2 m2 vy H2 x2 k2 rs2 ry h2 => ?_)
  refine hs E m2 S2 H2 x y d vx vy v _ rs2 (RV.mono x2 k2 x rx) ry (RV.mono (x1.trans x2) (k1.trans k2) d rv) (Post.bind h2 fun _ S3 m3 _ H3 x3 k3 rs3 _ h3 => ?_)
  exact h3.here rs3 (rl.mono ((x1.trans x2).trans x3) ((k1.trans k2).trans k3))
def cutL (ds : List D) (lo hi : Option Int) : List D := (ds.drop (HT.sIx ds.length 0 lo)).take (HT.sIx ds.length ds.length hi - HT.sIx ds.length 0 lo)
def sliceD (x : D) (lo hi : Option Int) (S : Sto) : Res D := match x with
  | .tup ds => .ok (.tup (cutL ds lo hi)) S
  | .frl ds => .ok (.ref S.length) (S ++ [.lst (cutL ds lo hi)])
  | .str z => if z.length ≤ sizeLine then .ok (.str (cutS z lo hi)) S else .stuck
  | .ref l => match S[l]? with
    | some (.lst ds) => .ok (.ref S.length) (S ++ [.lst (cutL ds lo hi)])
    | _ => .stuck
  | _ => .stuck
def DPO (cl : Cl) (X : Cx) (E : XK) (e : Option Expr) (f : Sl → Sto → Res (Option Int)) : Prop :=
  ∃ t, PO X e t ∧ ∀ m S H sd σ Q, RS cl X.K m S H → RSl X.K m H sd σ → Post cl X.K (fun _ _ (a b : Option Int) => a = b) m H E Q (f sd S) → t σ H Q
def oNone : Sl → Sto → Res (Option Int) := fun _ S => .ok none S
def oSome (f : Sl → Sto → Res D) : Sl → Sto → Res (Option Int) := fun sd S => (f sd S).bind fun d S1 => match d with
  | .int i => .ok (some i) S1
  | _ => .stuck
theorem dpo_none : DPO cl X E none oNone := ⟨_, po_none, fun m S H sd σ Q rs rl h => h.here rs rfl⟩
theorem dpo_some (ha : DE cl X E a fa) : DPO cl X E (some a) (oSome fa) := by
  obtain ⟨t, p, ha⟩ := ha
  refine ⟨_, po_some p, fun m S H sd σ Q rs rl h => ?_⟩
  refine ha m S H sd σ _ rs rl (Post.bind h fun x S1 m1 vx H1 x1 k1 rs1 rx h1 => ?_)
  cases x with
  | int i => exact ⟨i, rx, h1.here rs1 rfl⟩
  | _ => exact h1.elim
def dSlice (f : Sl → Sto → Res D) (g h : Sl → Sto → Res (Option Int)) : Sl → Sto → Res D := fun sd S => (f sd S).bind fun x S1 => (g sd S1).bind fun lo S2 => (h sd S2).bind fun hi S3 => sliceD x lo hi S3
theorem cut_rv {K : PySem.W.Frag} {m : List Addr} {H : Hp} {ds : List D} {vs : List V} (r : RVs K m H ds vs) (lo hi : Option Int) : RVs K m H (cutL ds lo hi) (cutV vs lo hi) := by
  unfold cutL cutV
  rw [← r.length]
  exact (r.drop _).take _
theorem sIx_whole {ds : List D} {lo hi : Option Int} (h : HT.sIx ds.length 0 lo = 0 ∧ HT.sIx ds.length ds.length hi = ds.length) : cutL ds lo hi = ds := by
  unfold cutL
  rw [h.1, h.2]
  simp
theorem de_slice {lo hi : Option Expr} {p2 : Pos} {fl fh} (ha : DE cl X E a fa) (hl : DPO cl X E lo fl) (hh : DPO cl X E hi fh) : DE cl X E (.Subscript a (.Slice lo hi none p2) pos) (dSlice fa fl fh) := by
  obtain ⟨t, p, ha⟩ := ha
  obtain ⟨t1, p1, hl⟩ := hl
  obtain ⟨t2, p2', hh⟩ := hh
  refine ⟨_, pe_slice ((sl_list.or sl_tupA).or sl_str) p p1 p2', fun m S H sd σ Q rs rl h => ?_⟩
  refine ha m S H sd σ _ rs rl (Post.bind h fun x S1 m1 vx H1 x1 k1 rs1 rx h1 => ?_)
  refine hl m1 S1 H1 sd σ _ rs1 (rl.mono x1 k1) (Post.bind h1 fun l S2 m2 vl H2 x2 k2 rs2 rll h2 => ?_)
  refine hh m2 S2 H2 sd σ _ rs2 (rl.mono (x1.trans x2) (k1.trans k2)) (Post.bind h2 fun u S3 m3 vu H3 x3 k3 rs3 ru h3 => ?_)
  cases rll; cases ru
  have rx3 := RV.mono (x2.trans x3) (k2.trans k3) x rx
  unfold sliceD at h3
  split at h3
  · obtain ⟨a, vs, rfl, s1, r1⟩ := rx3
    refine .inl (.inr ⟨a, vs, rfl, s1, fun e => ?_, fun e p' hp => ?_⟩)
    · rw [← r1.length] at e
      rw [sIx_whole e] at h3
      exact h3.here rs3 ⟨a, vs, rfl, s1, r1⟩
    · obtain ⟨a1, b1⟩ := newTup rs3 (cut_rv r1 l u) hp
      exact h3 _ _ _ (Ext.refl _) (Keep.new hp) a1 b1
  · obtain ⟨a, vs, rfl, s1, r1⟩ := rx3
    refine .inl (.inl ⟨a, vs, rfl, s1.sq, fun p' hp => ?_⟩)
    obtain ⟨a1, b1⟩ := newLst rs3 (cut_rv r1 l u) hp
    exact h3 _ _ _ (Ext.snoc _ _) (Keep.new hp) a1 b1
  · cases rx3
    split at h3
    · rename_i hz
      exact .inr ⟨_, rfl, hz, h3.here rs3 rfl⟩
    · exact h3.elim
  · split at h3
    · rename_i ds e1
      obtain ⟨a, h1, vs, hv, r1⟩ := rs3.adr e1
      obtain ⟨a', h2, rfl⟩ := rx3
      rw [h1] at h2; cases h2
      refine .inl (.inl ⟨a, vs, rfl, SqL.of hv, fun p' hp => ?_⟩)
      obtain ⟨a1, b1⟩ := newLst rs3 (cut_rv r1 l u) hp
      exact h3 _ _ _ (Ext.snoc _ _) (Keep.new hp) a1 b1
    · exact h3.elim
  · exact h3.elim
def CallD (cl : Cl) (X : Cx) (f : Value) (g : List D → Sto → Res D) : Prop :=
  ∃ r, CallR X f r ∧ ∀ (E : XK) m S H ds vs Q, RS cl X.K m S H → RVs X.K m H ds vs → Post cl X.K (RV X.K) m H E Q (g ds S) → r vs H Q
def dCall (g : List D → Sto → Res D) (f : Sl → Sto → Res (List D)) : Sl → Sto → Res D := fun sd S => (f sd S).bind fun ds S1 => g ds S1
theorem de_callB {x : Str} {p : Pos} {id : String} {e : Expr} {es : List Expr} {g f} (hc : CallD cl X (.builtin id) g) (hg : Gl X x) (hm : X.mg x = none) (hv : bootBuiltins x = some (.builtin id)) (ha : DA cl X E (e :: es) f) (hn : x ≠ "__name__" := by decide) (hdb : (x == ("__debug__" : Str)) = false := by decide)
    (he : starEach (e :: es) X.env = (false, eval e X.env) :: starEach es X.env := by rfl) (hpl : (backTo pos (starEach es X.env)).any (·.1) = false := by rfl) : DE cl X E (.Call (.Name x p) (e :: es) [] pos) (dCall g f) := by
  obtain ⟨r, cr, hr⟩ := hc
  obtain ⟨t, q, ha⟩ := ha
  refine ⟨_, pe_callB cr hg hm hv q hn hdb he hpl, fun m S H sd σ Q rs rl h => ?_⟩
  exact ha m S H sd σ _ rs rl (Post.bind h fun ds S1 m1 vs H1 x1 k1 rs1 rv h1 => hr E m1 S1 H1 ds vs Q rs1 rv h1)
theorem de_callTy {x : Str} {p : Pos} {T : String} {e : Expr} {es : List Expr} {g f} (hc : CallD cl X (.type T) g) (hg : Gl X x) (hm : X.mg x = none) (hv : bootBuiltins x = some (.type T)) (ha : DA cl X E (e :: es) f) (hn : x ≠ "__name__" := by decide) (hdb : (x == ("__debug__" : Str)) = false := by decide)
    (he : starEach (e :: es) X.env = (false, eval e X.env) :: starEach es X.env := by rfl) (hpl : (backTo pos (starEach es X.env)).any (·.1) = false := by rfl) : DE cl X E (.Call (.Name x p) (e :: es) [] pos) (dCall g f) := by
  obtain ⟨r, cr, hr⟩ := hc
  obtain ⟨t, q, ha⟩ := ha
  refine ⟨_, pe_callTy cr hg hm hv q hn hdb he hpl, fun m S H sd σ Q rs rl h => ?_⟩
  exact ha m S H sd σ _ rs rl (Post.bind h fun ds S1 m1 vs H1 x1 k1 rs1 rv h1 => hr E m1 S1 H1 ds vs Q rs1 rv h1)
def lenD : List D → Sto → Res D
  | [.str z], S => if z.length ≤ sizeLine then .ok (.int (z.length : Nat)) S else .stuck
  | [.tup ds], S => .ok (.int (ds.length : Nat)) S
  | [.frl ds], S => .ok (.int (ds.length : Nat)) S
  | [.ref l], S => match S[l]? with
    | some (.lst ds) => .ok (.int (ds.length : Nat)) S
    | _ => .stuck
  | _, _ => .stuck
theorem rvs1 {K : PySem.W.Frag} {m : List Addr} {H : Hp} {d : D} {vs : List V} (r : RVs K m H [d] vs) : ∃ v, vs = [v] ∧ RV K m H d v := by
  obtain ⟨v, vs', rfl, rv, e⟩ := r
  cases e
  exact ⟨v, rfl, rv⟩
theorem rvs2 {K : PySem.W.Frag} {m : List Addr} {H : Hp} {d e : D} {vs : List V} (r : RVs K m H [d, e] vs) : ∃ v w, vs = [v, w] ∧ RV K m H d v ∧ RV K m H e w := by
  obtain ⟨v, vs', rfl, rv, w, vs2, rfl, rw', e⟩ := r
  cases e
  exact ⟨v, w, rfl, rv, rw'⟩
theorem cd_len : CallD cl X (.builtin "len") lenD := by
  refine ⟨_, call_len, fun E m S H ds vs Q rs rv h => ?_⟩
  unfold lenD at h
  split at h
  · obtain ⟨v, rfl, r⟩ := rvs1 rv
    cases r
    split at h
    · rename_i hz
      exact ⟨_, _, rfl, ⟨hz, rfl⟩, h.here rs rfl⟩
    · exact h.elim
  · obtain ⟨v, rfl, a, ws, rfl, s1, r1⟩ := rvs1 rv
    exact ⟨_, _, rfl, .inr ⟨ws, s1, r1.length⟩, h.here rs rfl⟩
  · obtain ⟨v, rfl, a, ws, rfl, s1, r1⟩ := rvs1 rv
    exact ⟨_, _, rfl, .inl ⟨ws, s1.sq, r1.length⟩, h.here rs rfl⟩
  · obtain ⟨v, rfl, r⟩ := rvs1 rv
    split at h
    · rename_i ds e1
      obtain ⟨a, h1, ws, hv, r1⟩ := rs.adr e1
      obtain ⟨a', h2, rfl⟩ := r
      rw [h1] at h2; cases h2
      exact ⟨_, _, rfl, .inl ⟨ws, SqL.of hv, r1.length⟩, h.here rs rfl⟩
    · exact h.elim
  · exact h.elim
def seqD (d : D) (S : Sto) : Option (List D) := match d with
  | .tup ds => some ds
  | .frl ds => some ds
  | .ref l => match S[l]? with
    | some (.lst ds) => some ds
    | _ => none
  | _ => none
theorem seq_rv {K : PySem.W.Frag} {m : List Addr} {S : Sto} {H : Hp} {d : D} {v : V} {ds : List D} (rs : RS cl K m S H) (rv : RV K m H d v) (h : seqD d S = some ds) :
    ∃ a vs, v = .ref a ∧ (SqL K H a vs ∨ SqT K H a vs) ∧ RVs K m H ds vs := by
  unfold seqD at h
  split at h
  · cases h
    obtain ⟨a, vs, rfl, s1, r1⟩ := rv
    exact ⟨a, vs, rfl, .inr s1, r1⟩
  · cases h
    obtain ⟨a, vs, rfl, s1, r1⟩ := rv
    exact ⟨a, vs, rfl, .inl s1.sq, r1⟩
  · split at h
    · rename_i es e1
      cases h
      obtain ⟨a, h1, ws, hv, r1⟩ := rs.adr e1
      obtain ⟨a', h2, rfl⟩ := rv
      rw [h1] at h2; cases h2
      exact ⟨a, ws, rfl, .inl (SqL.of hv), r1⟩
    · cases h
  · cases h
def tupleD : List D → Sto → Res D
  | [d], S => match seqD d S with
    | some ds => .ok (.tup ds) S
    | none => .stuck
  | _, _ => .stuck
theorem cd_tuple : CallD cl X (.type "tuple") tupleD := by
  refine ⟨_, call_tuple_of, fun E m S H ds vs Q rs rv h => ?_⟩
  unfold tupleD at h
  split at h
  · rename_i d
    obtain ⟨v, rfl, r⟩ := rvs1 rv
    split at h
    · rename_i es e1
      obtain ⟨a, ws, rfl, hs, r1⟩ := seq_rv rs r e1
      refine ⟨a, ws, rfl, ?_⟩
      rcases hs with hs | hs
      · refine .inl ⟨hs, fun l hl => ?_⟩
        obtain ⟨a1, b1⟩ := newTup rs r1 hl
        exact h _ _ _ (Ext.refl _) (Keep.new hl) a1 b1
      · exact .inr ⟨hs, h.here rs ⟨a, ws, rfl, hs, r1⟩⟩
    · exact h.elim
  · exact h.elim
def intD : List D → Sto → Res D
  | [.int i], S => .ok (.int i) S
  | [.bl b], S => .ok (.int (if b then 1 else 0)) S
  | [.str a], S => match PySem.intText? a with
    | some n => if a.length ≤ 640 then .ok (.int n) S else .stuck
    | none => .stuck
  | _, _ => .stuck
theorem cd_int : CallD cl X (.type "int") intD := by
  refine ⟨_, call_int1.or call_int_str, fun E m S H ds vs Q rs rv h => ?_⟩
  unfold intD at h
  split at h
  · obtain ⟨v, rfl, r⟩ := rvs1 rv
    cases r
    exact .inl (.inl ⟨_, rfl, h.here rs rfl⟩)
  · obtain ⟨v, rfl, r⟩ := rvs1 rv
    cases r
    exact .inl (.inr ⟨_, rfl, h.here rs rfl⟩)
  · obtain ⟨v, rfl, r⟩ := rvs1 rv
    cases r
    split at h
    · rename_i n e
      split at h
      · rename_i hz
        exact .inr ⟨_, n, rfl, e, hz, h.here rs rfl⟩
      · exact h.elim
    · exact h.elim
  · exact h.elim
def flatD : D → Bool
  | .non => true
  | .bl _ => true
  | .int _ => true
  | .str _ => true
  | _ => false
def eqF : D → D → Bool
  | .non, .non => true
  | .bl a, .bl b => a == b
  | .bl a, .int b => (if a then 1 else 0) == b
  | .int a, .bl b => a == (if b then 1 else 0)
  | .int a, .int b => a == b
  | .str a, .str b => a == b
  | _, _ => false
def hasD (x y : D) (S : Sto) : Option Bool := match y with
  | .str z => match x with
    | .str w => match w.cps.toList with
      | [c] => some (decide (c ∈ z.cps.toList))
      | _ => none
    | _ => none
  | .tup ds => if flatD x && ds.all flatD then some (ds.any fun d => eqF d x) else none
  | y => match lsD y S with
    | some ds => match toP S 60 x, mapO (toP S 60) ds with
      | some p, some ps => if SeqAt.shaped p && SeqAt.shaped (.list ps) then some (ps.any fun z => PyData.eqv z p) else none
      | _, _ => none
    | _ => none
def inD (x y : D) (S : Sto) : Res D := match hasD x y S with
  | some b => .ok (.bl b) S
  | none => .stuck
def notInD (x y : D) (S : Sto) : Res D := match hasD x y S with
  | some b => .ok (.bl (!b)) S
  | none => .stuck
theorem flat_rv {K : PySem.W.Frag} {m : List Addr} {H : Hp} {d : D} {v : V} (r : RV K m H d v) (f : flatD d = true) : flatV v = true ∧ (∀ e w, RV K m H e w → flatD e = true → eqV w v = eqF e d) := by
  cases d with
  | non => cases r; refine ⟨rfl, fun e w rw' fe => ?_⟩; cases e <;> first | (cases rw'; rfl) | cases fe
  | bl b => cases r; refine ⟨rfl, fun e w rw' fe => ?_⟩; cases e <;> first | (cases rw'; rfl) | cases fe
  | int b => cases r; refine ⟨rfl, fun e w rw' fe => ?_⟩; cases e <;> first | (cases rw'; rfl) | cases fe
  | str b => cases r; refine ⟨rfl, fun e w rw' fe => ?_⟩; cases e <;> first | (cases rw'; rfl) | cases fe
  | _ => cases f
theorem flat_all {K : PySem.W.Frag} {m : List Addr} {H : Hp} {x : D} {vx : V} (rx : RV K m H x vx) (fx : flatD x = true) : ∀ {ds : List D} {vs : List V}, RVs K m H ds vs → ds.all flatD = true → vs.all flatV = true ∧ (vs.any fun y => eqV y vx) = ds.any fun d => eqF d x
  | [], _, r, _ => by cases r; exact ⟨rfl, rfl⟩
  | d :: ds, _, ⟨v, vs', e, r, t⟩, f => by
    subst e
    rw [List.all_cons, Bool.and_eq_true] at f
    obtain ⟨h1, h2⟩ := flat_all rx fx t f.2
    rw [List.all_cons, List.any_cons, List.any_cons, h1, h2, (flat_rv r f.1).1, (flat_rv rx fx).2 d v r f.1]
    exact ⟨rfl, rfl⟩
theorem str_one {w : Str} {c : Nat} (h : w.cps.toList = [c]) : w = ⟨#[c]⟩ := by
  cases w with
  | mk a =>
    congr 1
    exact Array.toList_inj.mp (by simpa using h)
theorem hasD_cases {m : List Addr} {S : Sto} {H : Hp} {x y : D} {vx vy : V} {b : Bool} {K : PySem.W.Frag} (rs : RS cl K m S H) (rx : RV K m H x vx) (ry : RV K m H y vy) (h : hasD x y S = some b) :
    (∃ c z, vx = .str ⟨#[c]⟩ ∧ vy = .str z ∧ b = decide (c ∈ z.cps.toList)) ∨ (∃ p xs, vy = .ref p ∧ (SqL K H p xs ∨ SqT K H p xs) ∧ flatV vx = true ∧ xs.all flatV = true ∧ b = inV vx xs) ∨
    ∃ d ds, Dp K H vx d ∧ Dp K H vy (.list ds) ∧ SeqAt.shaped d = true ∧ SeqAt.shaped (.list ds) = true ∧ b = ds.any fun z => PyData.eqv z d := by
  unfold hasD at h
  split at h
  · cases ry
    split at h
    · cases rx
      split at h
      · rename_i c e
        cases h
        rw [str_one e]
        exact .inl ⟨c, _, rfl, rfl, rfl⟩
      · cases h
    · cases h
  · rename_i ds
    split at h
    · rename_i hf
      cases h
      rw [Bool.and_eq_true] at hf
      obtain ⟨a, vs, rfl, s1, r1⟩ := ry
      obtain ⟨f1, f2⟩ := flat_all rx hf.1 r1 hf.2
      exact .inr (.inl ⟨a, vs, rfl, .inr s1, (flat_rv rx hf.1).1, f1, f2.symm⟩)
    · cases h
  · split at h
    · rename_i ds e1
      obtain ⟨a, vs, rfl, hv, r1⟩ := ls_rv rs ry e1
      split at h
      · rename_i p ps e2 e3
        split at h
        · rename_i hs
          rw [Bool.and_eq_true] at hs
          cases h
          exact .inr (.inr ⟨p, ps, toP_dp rs _ _ _ _ e2 rx, .lst hv (dpAll (toP_dp rs 60) ds ps vs e3 r1), hs.1, hs.2, rfl⟩)
        · cases h
      · cases h
    · cases h
theorem op_inDD (hu : X.A.units + 65 < cLine) : OpD cl X (compareOp .In) inD := by
  refine ⟨_, (op_in_sign.or op_in_seq).or (op_inD hu), fun E m S H x y vx vy Q rs rx ry h => ?_⟩
  unfold inD at h
  split at h
  · rename_i b e
    rcases hasD_cases rs rx ry e with ⟨c, z, rfl, rfl, rfl⟩ | ⟨p, xs, rfl, hs, f1, f2, rfl⟩ | ⟨d, ds, d1, d2, s1, s2, rfl⟩
    · exact .inl (.inl ⟨c, z, rfl, rfl, h.here rs rfl⟩)
    · exact .inl (.inr ⟨p, xs, rfl, hs, f1, f2, h.here rs rfl⟩)
    · exact .inr ⟨d, ds, d1, d2, s1, s2, h.here rs rfl⟩
  · exact h.elim
theorem op_notInDD (hu : X.A.units + 65 < cLine) : OpD cl X (compareOp .NotIn) notInD := by
  refine ⟨_, (op_notIn_sign.or op_notIn_seq).or (op_notInD hu), fun E m S H x y vx vy Q rs rx ry h => ?_⟩
  unfold notInD at h
  split at h
  · rename_i b e
    rcases hasD_cases rs rx ry e with ⟨c, z, rfl, rfl, rfl⟩ | ⟨p, xs, rfl, hs, f1, f2, rfl⟩ | ⟨d, ds, d1, d2, s1, s2, rfl⟩
    · exact .inl (.inl ⟨c, z, rfl, rfl, h.here rs rfl⟩)
    · exact .inl (.inr ⟨p, xs, rfl, hs, f1, f2, h.here rs rfl⟩)
    · exact .inr ⟨d, ds, d1, d2, s1, s2, h.here rs rfl⟩
  · exact h.elim
end
end DL

namespace DL
open PySem PySem.Spec PyProof.Rows L2
structure Cok (X : Cx) (E : XK) (k : Nat) : Prop where
  calm : X.calm = true
  px : Passes (L2.CX X.prog X.w) X E
  tk : Takes X (fun cls d _ H => E cls d H)
  po : PassesOwn (model X.prog X.w) X.A X.env X.xe
  hr : Room k X.A
  nd : X.N.Nodup
theorem Cok.hu {X : Cx} {E : XK} {k : Nat} (c : Cok X E k) : X.A.units + 64 < cLine := c.hr.units
theorem Cok.hu5 {X : Cx} {E : XK} {k : Nat} (c : Cok X E k) : X.A.units + 65 < cLine := by have := c.hr.un; omega
theorem Cok.hu1 {X : Cx} {E : XK} {k : Nat} (c : Cok X E k) : X.A.units + 1 < cLine := by have := c.hr.un; omega
theorem Cok.blk {X : Cx} {E : XK} {k : Nat} (c : Cok X E k) (s : Shared) (H : Hp) (scope : Scope) (cenv : Env) (fp : List Addr) : Cok (X.blk s H scope cenv fp) E0 k :=
  ⟨c.calm, passL, takes0, PassesOwn.never, c.hr, c.nd⟩
section
variable {cl : Cl} {X : Cx} {E : XK} {a b : Expr} {fa fb : Sl → Sto → Res D} {pos : Pos}
theorem de_glob {x : Str} {d : D} {v : V} {u : Value} (hg : Gl X x) (hm : X.mg x = some u) (r : RelV v u) (rv : ∀ m H, RV X.K m H d v) (hd : (x == ("__debug__" : Str)) = false := by decide) : DE cl X E (.Name x pos) (dC d) :=
  ⟨_, pe_glob hg hm r hd, fun m S H sd σ Q rs rl h => h.here rs (rv m H)⟩
def getF (cs : List Nat) (f : Str) (d : D) (S : Sto) : Res D := match d with
  | .ref l => match S[l]? with
    | some (.ins c fs) => if c ∈ cs then (match fs.lookup f with
      | some v => .ok v S
      | none => .stuck) else .stuck
    | _ => .stuck
  | _ => .stuck
def dFld (cs : List Nat) (f : Str) (fo : Sl → Sto → Res D) : Sl → Sto → Res D := fun sd S => (fo sd S).bind fun d S1 => getF cs f d S1
theorem RF.look {K : PySem.W.Frag} {m : List Addr} {H : Hp} {f : Str} : ∀ {fs : List (Str × D)} {gs : List (Str × V)} {d : D}, RF K m H fs gs → fs.lookup f = some d → ∃ v, gs.lookup f = some v ∧ RV K m H d v
  | [], _, _, _, e => by cases e
  | (g, d0) :: fs, _, d, ⟨v, gs', e, r, t⟩, h => by
    subst e
    rw [List.lookup_cons] at h ⊢
    dsimp only at h ⊢
    cases q : (f == g) with
    | true => rw [q] at h; cases h; exact ⟨v, rfl, r⟩
    | false => rw [q] at h; exact RF.look t h
theorem RF.nolook {K : PySem.W.Frag} {m : List Addr} {H : Hp} {f : Str} : ∀ {fs : List (Str × D)} {gs : List (Str × V)}, RF K m H fs gs → fs.lookup f = none → gs.lookup f = none
  | [], _, r, _ => by cases r; rfl
  | (g, d0) :: fs, _, ⟨v, gs', e, r, t⟩, h => by
    subst e
    rw [List.lookup_cons] at h ⊢
    dsimp only at h ⊢
    cases q : (f == g) with
    | true => rw [q] at h; cases h
    | false => rw [q] at h; exact RF.nolook t h
theorem RF.length {K : PySem.W.Frag} {m : List Addr} {H : Hp} : ∀ {fs : List (Str × D)} {gs : List (Str × V)}, RF K m H fs gs → fs.length = gs.length
  | [], _, r => by cases r; rfl
  | _ :: _, _, ⟨v, gs', e, r, t⟩ => by subst e; simp [RF.length t]
theorem de_fld {f : Str} {cs : List Nat} (hc : ∀ c ∈ cs, Cls X.K (cl c) ∧ NoAttr X.K (cl c) f) (ha : DE cl X E a fa) (hb : attributeBase a f X.env (eval a X.env) = eval a X.env := by rfl) : DE cl X E (.Attribute a f pos) (dFld cs f fa) := by
  obtain ⟨t, p, ha⟩ := ha
  refine ⟨_, pe_fld p hb, fun m S H sd σ Q rs rl h => ?_⟩
  refine ha m S H sd σ _ rs rl (Post.bind h fun x S1 m1 vx H1 x1 k1 rs1 rx h1 => ?_)
  unfold getF at h1
  split at h1
  · rename_i l
    split at h1
    · rename_i c fs e1
      split at h1
      · rename_i hcs
        split at h1
        · rename_i d ed
          obtain ⟨p', hm', dx, gs, hv, r1⟩ := rs1.adr e1
          obtain ⟨p2, h2, rfl⟩ := rx
          rw [hm'] at h2; cases h2
          obtain ⟨v, ev, rv⟩ := r1.look ed
          exact ⟨p', _, dx, gs, v, rfl, hv, (hc c hcs).1, (hc c hcs).2, ev, h1.here rs1 rv⟩
        · exact h1.elim
      · exact h1.elim
    · exact h1.elim
  · exact h1.elim
def putFD (f : Str) (v : D) : List (Str × D) → List (Str × D)
  | [] => [(f, v)]
  | (g, u) :: r => if g = f then (g, v) :: r else (g, u) :: putFD f v r
theorem putF_eq (f : Str) (v : V) : ∀ fs : List (Str × V), putF f v fs = match fs with
    | [] => [(f, v)]
    | (g, u) :: r => if g = f then (g, v) :: r else (g, u) :: putF f v r
  | [] => rfl
  | (g, u) :: r => rfl
theorem RF.putF {K : PySem.W.Frag} {m : List Addr} {H : Hp} {f : Str} {d : D} {v : V} (rv : RV K m H d v) : ∀ {fs : List (Str × D)} {gs : List (Str × V)}, RF K m H fs gs → RF K m H (putFD f d fs) (L2.putF f v gs)
  | [], _, r => by cases r; exact ⟨v, [], rfl, rv, rfl⟩
  | (g, d0) :: fs, _, ⟨w, gs', e, r, t⟩ => by
    subst e
    rw [putF_eq]
    unfold putFD
    dsimp only
    split
    · exact ⟨v, gs', rfl, rv, t⟩
    · exact ⟨w, _, rfl, r, RF.putF rv t⟩
def setF (cs : List Nat) (f : Str) (o v : D) (S : Sto) : Res Unit := match o with
  | .ref l => match S[l]? with
    | some (.ins c fs) => if c ∈ cs ∧ fs.length < 1000 then .ok () (S.set l (.ins c (putFD f v fs))) else .stuck
    | _ => .stuck
  | _ => .stuck
theorem setF_ok {f : Str} {cs : List Nat} (hc : ∀ c ∈ cs, Cls X.K (cl c) ∧ NoAttr X.K (cl c) f) {m : List Addr} {S : Sto} {H : Hp} {o v : D} {vo vv : V} {Q : Hp → Prop} (rs : RS cl X.K m S H) (ro : RV X.K m H o vo) (rv : RV X.K m H v vv)
    (h : Post cl X.K (fun _ _ (_ _ : Unit) => True) m H E (fun _ H => Q H) (setF cs f o v S)) :
    ∃ a C dx fs, vo = .ref a ∧ H a = some (.ins C dx fs) ∧ Cls X.K C ∧ NoAttr X.K C f ∧ fs.length < 1000 ∧ Q (upd H a (.ins C dx (putF f vv fs))) := by
  unfold setF at h
  split at h
  · rename_i l
    split at h
    · rename_i c fs e1
      split at h
      · rename_i hz
        obtain ⟨p', hm', dx, gs, hv, r1⟩ := rs.adr e1
        obtain ⟨p2, h2, rfl⟩ := ro
        rw [hm'] at h2; cases h2
        have kp := rs.keepPut (u := .ins (cl c) dx (putF f vv gs)) e1 hm'
        exact ⟨p', _, dx, gs, rfl, hv, (hc c hz.1).1, (hc c hz.1).2, by rw [← r1.length]; exact hz.2, h m () _ (Ext.refl _) kp (rs.put e1 hm' ⟨dx, _, upd_same, (r1.mono (Ext.refl _) kp).putF (RV.mono (Ext.refl _) kp v rv)⟩) trivial⟩
      · exact h.elim
    · exact h.elim
  · exact h.elim
def sFldD (cs : List Nat) (f : Str) (fo fv : Sl → Sto → Res D) : Sl → Sto → Res Fl := fun sd S => (fv sd S).bind fun v S1 => (fo sd S1).bind fun o S2 => (setF cs f o v S2).bind fun _ S3 => .ok (.nx sd) S3
theorem ds_fld {f : Str} {cs : List Nat} {o value : Expr} {fo fv} {pos' : Pos} (hc : ∀ c ∈ cs, Cls X.K (cl c) ∧ NoAttr X.K (cl c) f) (ho : DE cl X E o fo) (hv : DE cl X E value fv) (hs : swapsWith value (some (.Attribute o f pos')) pos.line X.env = pure false := by rfl) :
    DS cl X E (.Assign [.Attribute o f pos'] value pos) (sFldD cs f fo fv) := by
  obtain ⟨t, p, ho⟩ := ho
  obtain ⟨u, q, hv⟩ := hv
  refine ⟨_, ps_fld p q hs, fun m S H sd σ D rs rl h => ?_⟩
  refine hv m S H sd σ _ rs rl (Post.bind h fun v S1 m1 vv H1 x1 k1 rs1 rv h1 => ?_)
  refine ho m1 S1 H1 sd σ _ rs1 (rl.mono x1 k1) (Post.bind h1 fun o S2 m2 vo H2 x2 k2 rs2 ro h2 => ?_)
  refine setF_ok hc rs2 ro (RV.mono x2 k2 v rv) (Post.bind h2 fun _ S3 m3 _ H3 x3 k3 rs3 _ h3 => ?_)
  exact h3.toNx rs3 (rl.mono ((x1.trans x2).trans x3) ((k1.trans k2).trans k3))
def gFldD (cs : List Nat) (f : Str) (fo : Sl → Sto → Res D) : D → Sl → Sto → Res Sl := fun v sd S => (fo sd S).bind fun o S2 => (setF cs f o v S2).bind fun _ S3 => .ok sd S3
end
def spD (cl : Cl) (K : PySem.W.Frag) (n : Nat) (F : List D → Sto → Res D) : Sp := fun vs H Q E => ∃ m S ds, ds.length = n ∧ RS cl K m S H ∧ RVs K m H ds vs ∧ Post cl K (RV K) m H E Q (F ds S)
structure FnD (P : Program) (w : World) (cl : Cl) (K : PySem.W.Frag) (mg : Str → Option Value) (base : Heap) (k : Nat) (f : Addr) (n : Nat) (F : List D → Sto → Res D) : Prop where
  kp : PySem.W.keepIn K (.ref f) = true
  ex : ∃ fd ps, ps.length = n ∧ Binds K fd ps [] ∧ FnOk P w K mg base (L2.CX P w) k f fd ps (spD cl K n F)
def startD (n : Nat) (ds : List D) : Sl := ds.map some ++ List.replicate (n - ds.length) none
def fnRes : Res Fl → Res D
  | .ok (.nx _) S => .ok .non S
  | .ok (.ret d) S => .ok d S
  | .exc x S => .exc x S
  | _ => .stuck
def dFn (n : Nat) (Fb : Sl → Sto → Res Fl) : List D → Sto → Res D := fun ds S => fnRes (Fb (startD n ds) S)
theorem start_rl {K : PySem.W.Frag} {m : List Addr} {H : Hp} {ds : List D} {vs : List V} {N : List Str} (r : RVs K m H ds vs) : RSl K m H (startD N.length ds) (L2.start N vs) := by
  have hl := r.length
  refine ⟨by simp [startD, L2.start, hl], fun i d e => ?_⟩
  unfold startD at e
  unfold L2.start
  by_cases hi : i < ds.length
  · rw [List.getElem?_append_left (by simpa using hi), List.getElem?_map] at e
    obtain ⟨d', e1, e2⟩ := Option.map_eq_some_iff.mp e
    cases e2
    obtain ⟨v, ev, rv⟩ := r.get e1
    exact ⟨v, by rw [List.getElem?_append_left (by simp; omega), List.getElem?_map, ev]; rfl, rv⟩
  · rw [List.getElem?_append_right (by simpa using hi)] at e
    rw [List.getElem?_replicate] at e
    split at e <;> cases e
section
variable {P : Program} {w : World} {cl : Cl} {K : PySem.W.Frag} {mg : Str → Option Value} {base : Heap} {f : Addr} {fd : FuncData}
theorem cok_of {k : Nat} {N : List Str} {ps : List Str} {qual : Str} {scope : Scope} {cdv : Value} {A : Around} {outer : List Env} {s : Shared} {H : Hp} {E : XK} (S : FnScope N ps scope)
    (hr : Room k (A.deeper (envOfC qual scope s.heap.objs.size f cdv))) : Cok (cxOf (L2.CX P w) P w K mg base N qual scope f cdv A outer s H E) E k := by
  have tk : Takes (cxOf (L2.CX P w) P w K mg base N qual scope f cdv A outer s H E) (fun cls d _ H => E cls d H) := takes_of rfl rfl rfl rfl
  exact ⟨rfl, passes_call tk fun _ _ _ _ h => h, tk, passes_of rfl, hr, S.nd⟩
theorem fnD_of {k : Nat} {x qual : Str} {params : Arguments} {body : List Stmt} {scope : Scope} {N ps : List Str} {Fb : Sl → Sto → Res Fl} (Fu : FunD K x qual params body scope [] [] f fd) (S : FnScope N ps scope)
    (hb : ∀ (kV doc pm : Value) (an : Option Addr) (cdv ct : Value) (us : List Value), us.length = ps.length → bindArgs (PySem.W.fnOf x qual params body scope .none kV doc pm an cdv ct) ⟨us, []⟩ = pure (ps.zip us))
    (hbody : ∀ (cdv : Value) (A : Around) (outer : List Env) (s : Shared) (H : Hp) (E : XK), Cok (cxOf (L2.CX P w) P w K mg base N qual scope f cdv A outer s H E) E k → DSs cl (cxOf (L2.CX P w) P w K mg base N qual scope f cdv A outer s H E) E body Fb) :
    FnD P w cl K mg base (k + 1) f ps.length (dFn N.length Fb) := by
  refine ⟨Fu.kp, fd, ps, rfl, Fu.bindsN hb, ?_⟩
  refine Fu.ok S (fun vs H Q E h => ?_) (fun cdv A outer s H vs Q E hr h => ?_)
  · obtain ⟨m, St, ds, hl, rs, rv, _⟩ := h
    rw [← rv.length, hl]
  · obtain ⟨m, St, ds, hl, rs, rv, h⟩ := h
    obtain ⟨t, p, hh⟩ := hbody cdv A outer s H E (cok_of S hr)
    refine ⟨t, p, hh m St H (startD N.length ds) (L2.start N vs) _ rs (start_rl rv) ?_⟩
    unfold dFn at h
    cases hres : Fb (startD N.length ds) St with
    | ok fl S1 =>
      rw [hres] at h
      intro m1 v H1 x1 k1 rs1 rv1
      cases fl with
      | nx sd =>
        cases v with
        | nx σ1 => exact h m1 .non H1 x1 k1 rs1 rfl
        | _ => exact rv1.elim
      | ret d =>
        cases v with
        | ret u => exact h m1 u H1 x1 k1 rs1 rv1
        | _ => exact rv1.elim
      | brk sd => exact h.elim
      | cnt sd => exact h.elim
    | exc x S1 =>
      rw [hres] at h
      exact h
    | stuck =>
      rw [hres] at h
      exact h.elim
theorem FnD.mono {j k n : Nat} {F} (h : FnD P w cl K mg base j f n F) (hk : j ≤ k) : FnD P w cl K mg base k f n F := by
  obtain ⟨kp, fd, ps, hl, hb, F⟩ := h
  exact ⟨kp, fd, ps, hl, hb, F.mono hk⟩
end
section
variable {cl : Cl} {X : Cx} {E : XK} {k n : Nat} {f C : Addr} {x m : Str} {p pos apos : Pos} {e o : Expr} {es : List Expr} {fa fo : Sl → Sto → Res D} {fs : Sl → Sto → Res (List D)} {F : List D → Sto → Res D}
def dCallF (n : Nat) (F : List D → Sto → Res D) (fs : Sl → Sto → Res (List D)) : Sl → Sto → Res D := fun sd S => (fs sd S).bind fun ds S1 => if ds.length = n then F ds S1 else .stuck
theorem de_call (hF : FnD X.prog X.w cl X.K X.mg X.base k f n F) (hr : Room k X.A) (hx : Passes (L2.CX X.prog X.w) X E) (hg : Gl X x) (hm : X.mg x = some (.ref f)) (ha : DA cl X E (e :: es) fs) (hdb : (x == ("__debug__" : Str)) = false := by decide)
    (he : starEach (e :: es) X.env = (false, eval e X.env) :: starEach es X.env := by rfl) (hpl : (backTo pos (starEach es X.env)).any (·.1) = false := by rfl) : DE cl X E (.Call (.Name x p) (e :: es) [] pos) (dCallF n F fs) := by
  obtain ⟨kp, fd, ps, hl, hb, hF⟩ := hF
  obtain ⟨t, q, ha⟩ := ha
  refine ⟨_, pe_call hF hr hg hm kp hb .nil hx q hdb he hpl, fun m S H sd σ Q rs rl h => ?_⟩
  refine ha m S H sd σ _ rs rl (Post.bind h fun ds S1 m1 vs H1 x1 k1 rs1 rv h1 => ?_)
  split at h1
  · rename_i hz
    rw [List.append_nil]
    exact ⟨m1, S1, ds, hz, rs1, rv, h1⟩
  · exact h1.elim
def dMeth (c : Nat) (m : Str) (n : Nat) (F : List D → Sto → Res D) (fo : Sl → Sto → Res D) (fs : Sl → Sto → Res (List D)) : Sl → Sto → Res D := fun sd S => (fo sd S).bind fun d S1 => match d with
  | .ref l => match S1[l]? with
    | some (.ins c' gs) => if c' = c ∧ gs.lookup m = none then (fs sd S1).bind fun ds S2 => if ds.length + 1 = n then F (d :: ds) S2 else .stuck else .stuck
    | _ => .stuck
  | _ => .stuck
theorem de_meth {c : Nat} {pl : Sem Bool} (ho : DE cl X E o fo) (hc : Cls X.K (cl c)) (hm : Meth X.K (cl c) m f) (hF : FnD X.prog X.w cl X.K X.mg X.base k f n F) (hr : Room k X.A) (hx : Passes (L2.CX X.prog X.w) X E) (ha : DA cl X E (e :: es) fs)
    (hst : starEach (e :: es) X.env = (false, eval e X.env) :: starEach es X.env := by rfl) (hpl : (backTo pos (starEach es X.env)).any (·.1) = false := by rfl)
    (ht : eval (.Call (.Attribute o m apos) (e :: es) [] pos) X.env = (do
      let ov ← eval o X.env
      standAt apos.atName
      let (f, first) ← holding [ov] (getMethod ov m pl)
      callWith pos f first (backTo pos (starEach (e :: es) X.env)) (backToKw pos (keywordEach [] X.env))) := by rfl) : DE cl X E (.Call (.Attribute o m apos) (e :: es) [] pos) (dMeth c m n F fo fs) := by
  obtain ⟨kp, fd, ps, hl, hb, hF⟩ := hF
  obtain ⟨t, q, ha⟩ := ha
  obtain ⟨to, po, ho⟩ := ho
  refine ⟨_, pe_meth po hc hm hF hr hb .nil hx q hst hpl ht, fun m0 S H sd σ Q rs rl h => ?_⟩
  refine ho m0 S H sd σ _ rs rl (Post.bind h fun d S1 m1 vd H1 x1 k1 rs1 rd h1 => ?_)
  cases d with
  | ref l =>
    dsimp only at h1
    split at h1
    · rename_i c' gs e1
      split at h1
      · rename_i hz
        obtain ⟨rfl, hno⟩ := hz
        obtain ⟨p', hm', dx, gv, hv, r1⟩ := rs1.adr e1
        obtain ⟨p2, h2, rfl⟩ := id rd
        rw [hm'] at h2; cases h2
        refine ⟨p', dx, gv, rfl, hv, r1.nolook hno, ?_⟩
        refine ha m1 S1 H1 sd σ _ rs1 (rl.mono x1 k1) (Post.bind h1 fun ds S2 m2 vs H2 x2 k2 rs2 rv h3 => ?_)
        split at h3
        · rename_i hn
          have hn' : (DL.D.ref l :: ds).length = n := hn
          have e0 : (V.ref p' :: vs) ++ [] = V.ref p' :: vs := List.append_nil _
          show spD cl X.K n F ((V.ref p' :: vs) ++ []) H2 Q E
          rw [e0]
          exact ⟨m2, S2, .ref l :: ds, hn', rs2, ⟨_, _, rfl, RV.mono x2 k2 (.ref l) rd, rv⟩, h3⟩
        · exact h3.elim
      · exact h1.elim
    · exact h1.elim
  | _ => exact h1.elim
def dMake (c : Nat) (n : Nat) (F : List D → Sto → Res D) (fs : Sl → Sto → Res (List D)) : Sl → Sto → Res D := fun sd S => (fs sd S).bind fun ds S1 => if ds.length + 1 = n then (F (.ref S1.length :: ds) (S1 ++ [.ins c []])).bind fun r S2 => match r with
    | .non => .ok (.ref S1.length) S2
    | _ => .stuck
  else .stuck
theorem make_core {c : Nat} {m0 : List Addr} {S : Sto} {H : Hp} {ds : List D} {vs : List V} {Q : VK} (rs : RS cl X.K m0 S H) (rv : RVs X.K m0 H ds vs) (hn : ds.length + 1 = n)
    (h : Post cl X.K (RV X.K) m0 H E Q ((F (.ref S.length :: ds) (S ++ [.ins c []])).bind fun r S2 => match r with | .non => .ok (.ref S.length) S2 | _ => .stuck)) :
    ∀ x dx, H x = none → H dx = none → dx ≠ x → spD cl X.K n F (.ref x :: (vs ++ [])) (upd (upd H dx (.own x)) x (.ins (cl c) dx [])) (fun v H2 => v = .non ∧ Q (.ref x) H2) E := by
  intro x dx hx hd hne
  have hx2 : (upd H dx (.own x)) x = none := by rw [upd_ne (Ne.symm hne)]; exact hx
  have k2 : Keep H (upd (upd H dx (.own x)) x (.ins (cl c) dx [])) := (Keep.new hd).trans (Keep.new hx2)
  have rs2 := (rs.ext (u := .own x) hd).new (u := .ins (cl c) dx []) (o := .ins c []) hx2 ⟨dx, [], upd_same, rfl⟩
  have x2 := Ext.snoc m0 x
  have em : (m0 ++ [x])[S.length]? = some x := by rw [← rs.len]; simp
  rw [List.append_nil]
  refine ⟨m0 ++ [x], S ++ [.ins c []], .ref S.length :: ds, by simpa using hn, rs2, ⟨_, _, rfl, ⟨x, em, rfl⟩, rv.mono x2 k2⟩, Post.bind (Post.mono x2 k2 h) fun r S3 m3 v H3 x3 k3 rs3 rv3 h3 => ?_⟩
  cases r with
  | non => exact ⟨rv3, h3.here rs3 ⟨x, x3 _ _ em, rfl⟩⟩
  | _ => exact h3.elim
theorem de_make {c : Nat} (M : Mk X.K (cl c) f) (hF : FnD X.prog X.w cl X.K X.mg X.base k f n F) (hr : Room (k + 1) X.A) (hx : Passes (L2.CX X.prog X.w) X E) (hg : Gl X x) (hm : X.mg x = some (.ref (cl c))) (ha : DA cl X E (e :: es) fs) (hdb : (x == ("__debug__" : Str)) = false := by decide)
    (he : starEach (e :: es) X.env = (false, eval e X.env) :: starEach es X.env := by rfl) (hpl : (backTo pos (starEach es X.env)).any (·.1) = false := by rfl) : DE cl X E (.Call (.Name x p) (e :: es) [] pos) (dMake c n F fs) := by
  obtain ⟨kp, fd, ps, hl, hb, hF⟩ := hF
  obtain ⟨t, q, ha⟩ := ha
  refine ⟨_, pe_make M hF hr hg hm hb .nil hx q hdb he hpl, fun m S H sd σ Q rs rl h => ?_⟩
  refine ha m S H sd σ _ rs rl (Post.bind h fun ds S1 m1 vs H1 x1 k1 rs1 rv h1 => ?_)
  split at h1
  · rename_i hz
    exact make_core rs1 rv hz h1
  · exact h1.elim
end
end DL

namespace DL
open PySem PySem.Spec PyProof.Rows L2
section
variable {X : Cx} {o e : Expr} {es : List Expr} {to te : TE} {ta : TA} {f : Str} {p p' p1 p2 pos : Pos}
theorem pe_beinit {B : Str} {C0 : Addr} {pl : Sem Bool} (hg : Gl X B) (hm : X.mg B = some (.ref C0)) (hs1 : PySem.W.specialIn X.K (.ref C0) "__getattribute__" = some (some (.builtin "type.__getattribute__"))) (hrd : PySem.W.readsIn X.K C0 (.type "type") = true)
    (vV : PySem.W.findCls X.K (.ref C0) (.type "type") "__init__" = some (.val (.builtin "ValueError.__init__"))) (ha : PA X (e :: es) ta) (hdb : (B == ("__debug__" : Str)) = false := by decide)
    (hc : eval (.Call (.Attribute (.Name B p1) "__init__" p2) (e :: es) [] pos) X.env = (do
      let ov ← eval (.Name B p1) X.env
      standAt p2.atName
      let (f, first) ← holding [ov] (getMethod ov "__init__" pl)
      callWith pos f first (backTo pos (starEach (e :: es) X.env)) (backToKw pos (keywordEach [] X.env))) := by rfl)
    (he : starEach (e :: es) X.env = (false, eval e X.env) :: starEach es X.env := by rfl) (hpl : (backTo pos (starEach es X.env)).any (·.1) = false := by rfl) :
    PE X (.Call (.Attribute (.Name B p1) "__init__" p2) (e :: es) [] pos) (tVeI X.K ta) := by
  refine ⟨fun pins s σ H Q I h => ?_⟩
  refine PySem.W.methodCall_KW (ld_glob I hg hm ?_ hdb) hc
  refine PySem.W.method_cls I.kIn hs1 (PySem.W.cls_value I.kIn hrd vV (by decide +kernel) ?_)
  show wpAny _ _ (callWith pos (Value.builtin "ValueError.__init__") [] (backTo pos (starEach (e :: es) X.env)) []) _ _ _
  refine PyProof.Rows.callWith_method1 (thn (ha.run pos pins _ σ H _ (I.tok _) h) fun us s1 ⟨vs, H1, I1, r1, a, C, ws, ev, hl, T, ea, q⟩ => ?_) he hpl
  subst ev
  cases r1 with
  | @cons _ u0 _ ur ra rw' =>
    obtain rfl : u0 = Value.ref a := ra
    have hlen : ur.length ≤ sizeLine := by
      rw [← Paired.length rw', sizeLine_eq]
      omega
    exact oinit_ok T I1 ea hlen fun s' J => ⟨.non, H1, J, rfl, q⟩
end
def spEx1 (K : PySem.W.Frag) (C : Addr) (f : Str) : Sp := fun vs H Q _ => ∃ a y, vs = [.ref a, y] ∧ OexC K C ∧ PySem.W.findIn K (.ref C) f = some none ∧ H a = some (exo a C none) ∧
  ∀ dx, H dx = none → dx ≠ a → Q .non (upd (upd H dx (exd dx [(f, y)])) a (exo a C (some dx)))
def spEx2 (K : PySem.W.Frag) (C : Addr) (f g : Str) : Sp := fun vs H Q _ => ∃ a y z, vs = [.ref a, y, z] ∧ OexC K C ∧ PySem.W.findIn K (.ref C) f = some none ∧ PySem.W.findIn K (.ref C) g = some none ∧ H a = some (exo a C none) ∧
  ∀ dx, H dx = none → dx ≠ a → Q .non (upd (upd (upd H dx (exd dx [(f, y)])) a (exo a C (some dx))) dx (exd dx [(g, z), (f, y)]))
structure ExB (K : PySem.W.Frag) (C0 : Addr) : Prop where
  hs1 : PySem.W.specialIn K (.ref C0) "__getattribute__" = some (some (.builtin "type.__getattribute__"))
  hrd : PySem.W.readsIn K C0 (.type "type") = true
  vV : PySem.W.findCls K (.ref C0) (.type "type") "__init__" = some (.val (.builtin "ValueError.__init__"))
structure ExC (P : Program) (w : World) (cl : Cl) (K : PySem.W.Frag) (mg : Str → Option Value) (base : Heap) (c n : Nat) (fs : List Str) : Prop where
  oex : OexC K (cl c)
  nof : ∀ f ∈ fs, PySem.W.findIn K (.ref (cl c)) f = some none
  ex : ∃ fI fd ps sp, PySem.W.findIn K (.ref (cl c)) "__init__" = some (some (.ref fI)) ∧ PySem.W.typeIn K (.ref fI) = some (.type "function") ∧ Binds K fd ps [] ∧ FnOk P w K mg base (L2.CX P w) n fI fd ps sp ∧
    (match fs with
      | [f] => sp = spEx1 K (cl c) f
      | [f, g] => sp = spEx2 K (cl c) f g
      | _ => False)
def sRaise (c : Nat) (fs : List Str) (fa : Sl → Sto → Res (List D)) : Sl → Sto → Res Fl := fun sd S => (fa sd S).bind fun ds S1 => match fs, ds with
  | [f], [d] => .exc ⟨c, some [(f, d)]⟩ S1
  | [f, g], [d, e] => .exc ⟨c, some [(g, e), (f, d)]⟩ S1
  | _, _ => .stuck
def sRaiseT (c : Nat) : Sl → Sto → Res Fl := fun _ S => .exc ⟨c, none⟩ S
section
variable {cl : Cl} {X : Cx} {E : XK} {k : Nat} {x : Str} {e : Expr} {es : List Expr} {fa : Sl → Sto → Res (List D)} {p pos pos' : Pos}
theorem heap_eq {H G : Hp} {a dx : Addr} {u : HO} (ha : H a = none) (hg : ∀ b, b ≠ a → b ≠ dx → G b = H b) : upd (del G a) dx u = upd H dx u := by
  funext b
  by_cases h1 : b = dx
  · subst h1; rw [upd_same, upd_same]
  · rw [upd_ne h1, upd_ne h1]
    by_cases h2 : b = a
    · subst h2; rw [del_same, ha]
    · rw [del_ne h2, hg b h2 h1]
theorem ds_raise {c : Nat} {fs : List Str} (hE : ExC X.prog X.w cl X.K X.mg X.base c k fs) (co : Cok X E (k + 1)) (hg : Gl X x) (hm : X.mg x = some (.ref (cl c))) (ha : DA cl X E (e :: es) fa)
    (hdb : (x == ("__debug__" : Str)) = false := by decide) (he : starEach (e :: es) X.env = (false, eval e X.env) :: starEach es X.env := by rfl) (hpl : (backTo pos (starEach es X.env)).any (·.1) = false := by rfl) :
    DS cl X E (.Raise (some (.Call (.Name x p) (e :: es) [] pos)) none pos') (sRaise c fs fa) := by
  obtain ⟨oex, nof, fI, fd, ps, sp, iC, tI, hb, hF, hsp⟩ := hE
  obtain ⟨t, q, ha⟩ := ha
  have hx : Passes (L2.CX X.prog X.w) X (fun _ _ _ => False) := passL
  refine ⟨_, ps_raise co.calm co.tk (pmk_oex oex iC tI hF co.hr hb .nil hx hg hm q hdb he hpl), fun m S H sd σ D rs rl h => ?_⟩
  refine ha m S H sd σ _ rs rl (Post.bind h fun ds S1 m1 vs H1 x1 k1 rs1 rv h1 => ?_)
  split at h1
  · rename_i f d
    obtain ⟨v, rfl, r1⟩ := rvs1 rv
    have hsp' : sp = spEx1 X.K (cl c) f := hsp
    subst hsp'
    refine ⟨by show 1 ≤ 1000; decide, fun a na => ⟨a, v, rfl, oex, nof f (by simp), upd_same, fun dx hdx hne => ?_⟩⟩
    have hdx1 : H1 dx = none := by rw [upd_ne hne] at hdx; exact hdx
    refine ⟨rfl, dx, [(f, v)], upd_same, ?_, hdx1, ?_⟩
    · rw [upd_ne hne, upd_same]
    · rw [heap_eq na fun b b1 b2 => by rw [upd_ne b1, upd_ne b2, upd_ne b1]]
      exact h1 m1 (some dx) _ (Ext.refl _) (Keep.new hdx1) (rs1.ext hdx1) ⟨dx, _, rfl, upd_same, v, [], rfl, RV.mono (Ext.refl _) (Keep.new hdx1) d r1, rfl⟩
  · rename_i f g d d'
    obtain ⟨v, v', rfl, r1, r2⟩ := rvs2 rv
    have hsp' : sp = spEx2 X.K (cl c) f g := hsp
    subst hsp'
    refine ⟨by show 2 ≤ 1000; decide, fun a na => ⟨a, v, v', rfl, oex, nof f (by simp), nof g (by simp), upd_same, fun dx hdx hne => ?_⟩⟩
    have hdx1 : H1 dx = none := by rw [upd_ne hne] at hdx; exact hdx
    refine ⟨rfl, dx, [(g, v'), (f, v)], ?_, upd_same, hdx1, ?_⟩
    · rw [upd_ne (Ne.symm hne), upd_same]
    · rw [heap_eq na fun b b1 b2 => by rw [upd_ne b2, upd_ne b1, upd_ne b2, upd_ne b1]]
      exact h1 m1 (some dx) _ (Ext.refl _) (Keep.new hdx1) (rs1.ext hdx1) ⟨dx, _, rfl, upd_same, v', _, rfl, RV.mono (Ext.refl _) (Keep.new hdx1) d' r2, v, [], rfl, RV.mono (Ext.refl _) (Keep.new hdx1) d r1, rfl⟩
  · exact h1.elim
structure ExT (K : PySem.W.Frag) (C : Addr) : Prop where
  xP : PySem.W.excIn K C [.type "ValueError", .type "Exception", .type "BaseException", .type "object"] "ValueError.__new__" = true
  kP : PySem.W.keepIn K (.ref C) = true
  bP : PySem.W.subIn K (.ref C) (.type "BaseException") = some true
  tP : PySem.W.typeIn K (.ref C) = some (.type "type")
theorem ds_raiseT {c : Nat} {msg : Str} {j : Nat} {p2 : Pos} (T : ExT X.K (cl c)) (co : Cok X E k) (hg : Gl X x) (hm : X.mg x = some (.ref (cl c))) (hdb : (x == ("__debug__" : Str)) = false := by decide) :
    DS cl X E (.Raise (some (.Call (.Name x p) [.Constant (.str msg) j p2] [] pos)) none pos') (sRaiseT c) := by
  refine ⟨_, ps_raise co.calm co.tk (pmk_own PySem.F.excBase_ValueError T.xP hm T.kP (raises_own T.bP T.tP) hg hdb), fun m S H sd σ D rs rl h => ?_⟩
  exact h m none H (Ext.refl _) (Keep.refl _) rs rfl
end
end DL

namespace DL
open PySem PySem.Spec PyProof.Rows L2
def constB (K : PySem.W.Frag) : Nat → D → Value → Bool
  | _, .non, .none => true
  | _, .bl b, .bool c => b == c
  | _, .int i, .int j _ => decide (i = j)
  | _, .str x, .str y _ => decide (x = y)
  | n + 1, .tup ds, .ref a => match K.lookup a with
    | some o => decide (o.cls = .type "tuple") && (match o.data with
      | .seq its _ => decide (its.size ≤ sizeLine) && allB (constB K n) ds its.toList
      | _ => false)
    | none => false
  | _, _, _ => false
where allB (f : D → Value → Bool) : List D → List Value → Bool
  | [], [] => true
  | d :: ds, u :: us => f d u && allB f ds us
  | _, _ => false
theorem const_all {K : PySem.W.Frag} {f : D → Value → Bool} (hf : ∀ d u, f d u = true → ∃ v, RelV v u ∧ ∀ m H, RV K m H d v) : ∀ (ds : List D) (us : List Value), constB.allB f ds us = true → ∃ vs, Vals vs us ∧ ∀ m H, RVs K m H ds vs
  | [], [], _ => ⟨[], .nil, fun _ _ => rfl⟩
  | [], _ :: _, h => by cases h
  | _ :: _, [], h => by cases h
  | d :: ds, u :: us, h => by
    have h' : (f d u && constB.allB f ds us) = true := h
    rw [Bool.and_eq_true] at h'
    obtain ⟨v, r, rv⟩ := hf d u h'.1
    obtain ⟨vs, r2, rv2⟩ := const_all hf ds us h'.2
    exact ⟨v :: vs, .cons r r2, fun m H => ⟨v, vs, rfl, rv m H, rv2 m H⟩⟩
theorem constB_ok {K : PySem.W.Frag} : ∀ (n : Nat) (d : D) (u : Value), constB K n d u = true → ∃ v, RelV v u ∧ ∀ m H, RV K m H d v := by
  have base : ∀ (n : Nat) (d : D) (u : Value), (∀ ds, d ≠ .tup ds) → constB K n d u = true → ∃ v, RelV v u ∧ ∀ m H, RV K m H d v := by
    intro n d u hd h
    cases d with
    | tup ds => exact absurd rfl (hd ds)
    | non =>
      cases u <;> first | exact ⟨.non, rfl, fun _ _ => rfl⟩ | (cases n <;> cases h)
    | bl b =>
      cases u with
      | bool c =>
        have e : b = c := by
          have : (b == c) = true := by cases n <;> exact h
          exact eq_of_beq this
        subst e
        exact ⟨.bl b, rfl, fun _ _ => rfl⟩
      | _ => cases n <;> cases h
    | int b =>
      cases u with
      | int c t =>
        have e : b = c := by
          have : decide (b = c) = true := by cases n <;> exact h
          exact of_decide_eq_true this
        subst e
        exact ⟨.int b, ⟨t, rfl⟩, fun _ _ => rfl⟩
      | _ => cases n <;> cases h
    | str b =>
      cases u with
      | str c t =>
        have e : b = c := by
          have : decide (b = c) = true := by cases n <;> exact h
          exact of_decide_eq_true this
        subst e
        exact ⟨.str b, ⟨t, rfl⟩, fun _ _ => rfl⟩
      | _ => cases n <;> cases h
    | _ => cases u <;> (cases n <;> cases h)
  intro n
  induction n with
  | zero =>
    intro d u h
    cases d with
    | tup ds => cases u <;> cases h
    | _ => exact base 0 _ u (by intro ds e; cases e) h
  | succ n ih =>
    intro d u h
    cases d with
    | tup ds =>
      cases u with
      | ref a =>
        unfold constB at h
        split at h
        · rename_i o hk
          rw [Bool.and_eq_true] at h
          have hc := of_decide_eq_true h.1
          have h2 := h.2
          split at h2
          · rename_i its nn hd
            rw [Bool.and_eq_true] at h2
            obtain ⟨vs, r, rv⟩ := const_all ih ds its.toList h2.2
            exact ⟨.ref a, rfl, fun m H => ⟨a, vs, rfl, .inr ⟨o, its, nn, hk, hc, hd, of_decide_eq_true h2.1, r⟩, rv m H⟩⟩
          · cases h2
        · cases h
      | _ => cases h
    | _ => exact base (n + 1) _ u (by intro ds e; cases e) h
def globB (K : PySem.W.Frag) (x : Str) (d : D) : Bool := match PySem.W.nsIn K mainGlobals x with
  | some (some u) => constB K 9 d u
  | _ => false
structure Con0 (K : PySem.W.Frag) (mg : Str → Option Value) (x : Str) (d : D) : Prop where
  ex : ∃ u v, mg x = some u ∧ RelV v u ∧ ∀ m H, RV K m H d v
theorem globB_ok {K : PySem.W.Frag} {h : Heap} {mg : Str → Option Value} {x : Str} {d : D} (X : K.In h) (G : h.Ns mainGlobals mg) (c : globB K x d = true) : Con0 K mg x d := by
  unfold globB at c
  split at c
  · rename_i u e
    obtain ⟨v, r, rv⟩ := constB_ok 9 d u c
    exact ⟨u, v, PySem.W.mg_of X G e, r, rv⟩
  · cases c
theorem de_con {cl : Cl} {X : Cx} {E : XK} {pos : Pos} {x : Str} {d : D} (c : Con0 X.K X.mg x d) (hg : Gl X x) (hd : (x == ("__debug__" : Str)) = false := by decide) : DE cl X E (.Name x pos) (dC d) := by
  obtain ⟨u, v, hm, r, rv⟩ := c.ex
  exact de_glob hg hm r rv hd
def oexB (K : PySem.W.Frag) (C : Addr) : Bool := (match K.lookup C with
  | some ⟨c, dd, .cls ⟨nm, bs, mro, ns, qn, hd, sn, sub, ab, col, del⟩, sl⟩ => decide (c = .type "type") && ((match mro with
    | .ref C' :: bm => decide (C' = C) && PySem.HandSPX.refsVE bm
    | _ => false) && (hd && (!del && (match sl.toList with
    | [_, _, _, _, some (.builtin n), _] => decide (n = "ValueError.__new__")
    | _ => false))))
  | _ => false) && (He.eqO (PySem.W.findIn K (.ref C) "__setattr__") (some (some (.builtin "object.__setattr__"))) && (decide (PySem.W.subIn K (.ref C) (.type "BaseException") = some true) && (decide (PySem.W.typeIn K (.ref C) = some (.type "type")) && PySem.W.keepIn K (.ref C))))
theorem oexB_ok {K : PySem.W.Frag} {C : Addr} (h : oexB K C = true) : OexC K C := by
  unfold oexB at h
  obtain ⟨h1, h⟩ := He.ba h
  obtain ⟨h2, h⟩ := He.ba h
  obtain ⟨h3, h⟩ := He.ba h
  obtain ⟨h4, h5⟩ := He.ba h
  refine ⟨?_, He.eqO_ok h2, of_decide_eq_true h3, of_decide_eq_true h4, h5⟩
  split at h1
  · rename_i c dd nm bs mro ns qn hd sn sub ab col del sl hk
    obtain ⟨a1, a⟩ := He.ba h1
    obtain ⟨a2, a⟩ := He.ba a
    obtain ⟨a3, a⟩ := He.ba a
    obtain ⟨a4, a5⟩ := He.ba a
    have a1' := of_decide_eq_true a1
    subst a1'
    split at a2
    · rename_i C' bm
      obtain ⟨b1, b2⟩ := He.ba a2
      have b1' := of_decide_eq_true b1
      subst b1'
      split at a5
      · rename_i k0 k1 k2 k3 n k5 hs
        have a5' := of_decide_eq_true a5
        subst a5'
        have hd' : hd = true := a3
        subst hd'
        have del' : del = false := by simpa using a4
        subst del'
        have hsl : sl = #[k0, k1, k2, k3, some (.builtin "ValueError.__new__"), k5] := by
          obtain ⟨l⟩ := sl
          simp only at hs
          rw [hs]
        subst hsl
        exact ⟨nm, qn, ns, bs, bm, sn, sub, ab, col, dd, k0, k1, k2, k3, k5, hk, b2⟩
      · cases a5
    · cases a2
  · cases h1
def exBB (K : PySem.W.Frag) (C0 : Addr) : Bool := He.eqO (PySem.W.specialIn K (.ref C0) "__getattribute__") (some (some (.builtin "type.__getattribute__"))) && (PySem.W.readsIn K C0 (.type "type") && (match PySem.W.findCls K (.ref C0) (.type "type") "__init__" with
  | some (.val (.builtin n)) => decide (n = "ValueError.__init__")
  | _ => false))
theorem exBB_ok {K : PySem.W.Frag} {C0 : Addr} (h : exBB K C0 = true) : ExB K C0 := by
  unfold exBB at h
  obtain ⟨h1, h⟩ := He.ba h
  obtain ⟨h2, h3⟩ := He.ba h
  refine ⟨He.eqO_ok h1, h2, ?_⟩
  split at h3
  · rename_i n e
    have e' := of_decide_eq_true h3
    subst e'
    exact e
  · cases h3
theorem exT_ok {K : PySem.W.Frag} {x : Str} (c : (He.Fa.exc x).ok K = true) : ExT K (He.ga K x) :=
  let ⟨a, b, d, e⟩ := He.exc_ok c
  ⟨a, b, d, e⟩
def initB (K : PySem.W.Frag) (C : Addr) (fs : List Str) : Bool := (fs.all fun f => He.eqO (PySem.W.findIn K (.ref C) f) (some none)) && (He.eqO (PySem.W.findIn K (.ref C) "__init__") (some (some (.ref (He.ma K C "__init__")))) && decide (PySem.W.typeIn K (.ref (He.ma K C "__init__")) = some (.type "function")))
theorem initB_ok {K : PySem.W.Frag} {C : Addr} {fs : List Str} (h : initB K C fs = true) : (∀ f ∈ fs, PySem.W.findIn K (.ref C) f = some none) ∧ PySem.W.findIn K (.ref C) "__init__" = some (some (.ref (He.ma K C "__init__"))) ∧ PySem.W.typeIn K (.ref (He.ma K C "__init__")) = some (.type "function") := by
  unfold initB at h
  obtain ⟨h1, h⟩ := He.ba h
  obtain ⟨h2, h3⟩ := He.ba h
  exact ⟨fun f hf => He.eqO_ok (List.all_eq_true.mp h1 f hf), He.eqO_ok h2, of_decide_eq_true h3⟩
end DL

namespace DL
open PySem PySem.Spec PyProof.Rows L2
section
variable {cl : Cl} {X : Cx} {E : XK} {pos : Pos}
end
section
variable {P : Program} {w : World} {cl : Cl} {K : PySem.W.Frag} {mg : Str → Option Value} {base : Heap} {f : Addr} {fd : FuncData}
theorem fnD_stuck {k : Nat} {x qual : Str} {params : Arguments} {body : List Stmt} {scope : Scope} {ps : List Str} (Fu : FunD K x qual params body scope [] [] f fd)
    (hb : ∀ (kV doc pm : Value) (an : Option Addr) (cdv ct : Value) (us : List Value), us.length = ps.length → bindArgs (PySem.W.fnOf x qual params body scope .none kV doc pm an cdv ct) ⟨us, []⟩ = pure (ps.zip us)) :
    FnD P w cl K mg base k f ps.length (fun _ _ => .stuck) := by
  refine ⟨Fu.kp, fd, ps, rfl, Fu.bindsN hb, fun vs H Q E h => ?_, fun A outer s H args us vs Q E hr e0 hbb hv h => ?_⟩
  · obtain ⟨m, S, ds, hl, rs, rv, z⟩ := h
    exact z.elim
  · obtain ⟨m, S, ds, hl, rs, rv, z⟩ := h
    exact z.elim
end
theorem ints_rv {K : PySem.W.Frag} {m : List Addr} {H : Hp} : ∀ ns : List Int, RVs K m H (ns.map D.int) (ns.map V.int)
  | [] => rfl
  | n :: ns => ⟨_, _, rfl, rfl, ints_rv ns⟩
end DL
namespace DL
open PySem PySem.Spec PyProof.Rows L2
theorem Cok.at {X : Cx} {E : XK} {j k : Nat} (c : Cok X E k) (h : j ≤ k) : Cok X E j := ⟨c.calm, c.px, c.tk, c.po, c.hr.mono h, c.nd⟩
end DL

namespace DL
open PySem PySem.Spec PyProof.Rows L2
theorem takes_all {X : Cx} {W : WX} (tk : Takes X W) : Takes X (fun cls d _ H => ∀ σ : L2.St, σ.length = X.N.length → W cls d σ H) := fun u s' x => by
  obtain ⟨a, B, sI, pins, σ, H, cls, d, rfl, I, nb, up, sky, na, os, ag, w⟩ := x
  exact tk _ _ ⟨a, B, sI, pins, σ, H, cls, d, rfl, I, nb, up, sky, na, os, ag, w σ I.len⟩
def excD (a : Addr) (dd : Addr) (x : Exc) : D := match x.fs with
  | none => .exn a dd [] []
  | some fs => .exn a dd (fs.map Prod.fst) (fs.map Prod.snd)
theorem RF.split {K : PySem.W.Frag} {m : List Addr} {H : Hp} : ∀ {fs : List (Str × D)} {gs : List (Str × V)}, RF K m H fs gs → ∃ vs, gs = (fs.map Prod.fst).zip vs ∧ RVs K m H (fs.map Prod.snd) vs
  | [], _, r => by cases r; exact ⟨[], rfl, rfl⟩
  | p :: fs, _, ⟨v, gs', e, r, t⟩ => by
    subst e
    obtain ⟨vs, e1, r1⟩ := RF.split t
    exact ⟨v :: vs, by simp [e1], v, vs, rfl, r, r1⟩
theorem excD_rv {K : PySem.W.Frag} {m : List Addr} {H : Hp} {x : Exc} {d : Option Addr} (a : Addr) (r : RX K m H x d) : RV K m H (excD a (d.getD 0) x) (.ref a) := by
  unfold RX at r
  unfold excD
  split at r
  · rename_i e
    try rw [e]
    exact ⟨rfl, [], rfl, fun n => absurd rfl n⟩
  · rename_i fs e
    try rw [e]
    obtain ⟨dd, gs, rfl, hd, rf⟩ := r
    obtain ⟨vs, rfl, rv⟩ := rf.split
    exact ⟨rfl, vs, rv, fun _ => hd⟩
def sTry (Fb : Sl → Sto → Res Fl) (Fx : Exc → Sto → Res D) : Sl → Sto → Res Fl := fun sd S => match Fb sd S with
  | .ok fl S1 => .ok fl S1
  | .exc x S1 => (Fx x S1).bind fun d S2 => .ok (.ret d) S2
  | .stuck => .stuck
def exSl (n i : Nat) (d : D) : Sl := (List.replicate n none).set i (some d)
def ExOk (d : Option Addr) (x : Exc) : Prop := match x.fs with
  | none => d = none
  | some fs => d.isSome = true ∧ fs ≠ []
theorem de_stuck {cl : Cl} {X : Cx} {E : XK} {e : Expr} : DE cl X E e (fun _ _ => .stuck) := ⟨fun _ _ _ => False, ⟨fun _ _ _ _ _ _ h => h.elim⟩, fun _ _ _ _ _ _ _ _ h => h⟩
def excB (K : PySem.W.Frag) (C : Addr) : Bool :=
  xfB K C && (decide (PySem.W.findIn K (.ref C) "__class__" = some (some (.builtin "object.__class__"))) && (decide (PySem.W.specialIn K (.builtin "object.__class__") "__get__" = some (some (.builtin "getset_descriptor.__get__"))) &&
    (decide (PySem.W.takesIn K (.builtin "object.__class__") = some true) && decide (PySem.W.mroIn K C (.type "object") = some true))))
theorem excB_ok {K : PySem.W.Frag} {C : Addr} (h : excB K C = true) : L2.ExcC K C := by
  unfold excB at h
  simp only [Bool.and_eq_true, decide_eq_true_eq] at h
  obtain ⟨h0, h1, h2, h3, h4⟩ := h
  have X := xfB_ok h0
  exact ⟨X.ga, X.gg, X.exC, X.hdC, h1, h2, h3, h4⟩
def exAllB (K : PySem.W.Frag) (cl : Cl) (n : Nat) : Bool := (List.range n).all fun c => excB K (cl c) && (decide (PySem.W.exmOne K (.ref (cl c)) (.ref (cl 0)) = some true) && decide (PySem.W.kitOne K (.ref (cl c)) (.type "ValueError") = some true) && ((List.range n).all fun c' => decide (PySem.W.kitOne K (.ref (cl c)) (.ref (cl c')) = some (c == c' || c' == 0))))
structure ExAll (K : PySem.W.Frag) (cl : Cl) (n : Nat) : Prop where
  exc : ∀ c, c < n → L2.ExcC K (cl c)
  exm : ∀ c, c < n → PySem.W.exmOne K (.ref (cl c)) (.ref (cl 0)) = some true
  kv : ∀ c, c < n → PySem.W.kitOne K (.ref (cl c)) (.type "ValueError") = some true
  kit : ∀ c c', c < n → c' < n → PySem.W.kitOne K (.ref (cl c)) (.ref (cl c')) = some (c == c' || c' == 0)
theorem exAllB_ok {K : PySem.W.Frag} {cl : Cl} {n : Nat} (h : exAllB K cl n = true) : ExAll K cl n := by
  unfold exAllB at h
  simp only [List.all_eq_true, List.mem_range, Bool.and_eq_true, decide_eq_true_eq] at h
  exact ⟨fun c hc => excB_ok (h c hc).1, fun c hc => (h c hc).2.1.1, fun c hc => (h c hc).2.1.2, fun c c' hc hc' => (h c hc).2.2 c' hc'⟩
theorem xfC_of {K : PySem.W.Frag} {C : Addr} (h : L2.ExcC K C) : XfC K C := ⟨h.hg, h.hk, h.hs, h.hd⟩
def lookN : List Str → List D → Str → Option D
  | n :: ns, d :: ds, f => if f = n then some d else lookN ns ds f
  | _, _, _ => none
theorem lookN_rv {K : PySem.W.Frag} {m : List Addr} {H : Hp} {f : Str} {d : D} : ∀ {ns : List Str} {ds : List D} {vs : List V}, RVs K m H ds vs → lookN ns ds f = some d → ∃ v, (ns.zip vs).lookup f = some v ∧ RV K m H d v
  | [], _, _, _, e => by cases e
  | _ :: _, [], _, _, e => by cases e
  | n :: ns, d0 :: ds, _, ⟨v, vs', e, r, t⟩, h => by
    subst e
    unfold lookN at h
    rw [List.zip_cons_cons, List.lookup_cons]
    by_cases q : f = n
    · rw [if_pos q] at h; cases h
      rw [beq_iff_eq.mpr q]
      exact ⟨v, rfl, r⟩
    · rw [if_neg q] at h
      rw [beq_eq_false_iff_ne.mpr q]
      exact lookN_rv t h
def dExF (i : Nat) (a : Addr) (d : Option Addr) (f : Str) : Sl → Sto → Res D := fun sd S => match sd[i]? with
  | some (some (.exn a' dd ns ds)) => if a' = a ∧ d = some dd ∧ ns ≠ [] then (match lookN ns ds f with
    | some v => .ok v S
    | none => .stuck) else .stuck
  | _ => .stuck
def dExI (i : Nat) (a : Addr) (d : Option Addr) (b : Bool) : Sl → Sto → Res D := fun sd S => match sd[i]? with
  | some (some (.exn a' dd ns _)) => if a' = a ∧ (d = none ∨ (d = some dd ∧ ns ≠ [])) then .ok (.bl b) S else .stuck
  | _ => .stuck
section
variable {cl : Cl} {X : Cx} {E : XK} {a C : Addr} {oe : Obj} {d : Option Addr} {pn : List (Addr × Obj)} {i : Nat} {n f : Str} {p p1 p2 p3 pos : Pos}
theorem de_exF (T : L2.ExcC X.K C) (hno : PySem.W.findIn X.K (.ref C) f = some none) (hz : Zc (.ref C) d oe) (hf : ∃ vs, oe.data = .fields vs) (hn : X.N[i]? = some n) (hl : Vis X.env.scope n) (hd1 : (n == ("__debug__" : Str)) = false) (hd2 : (n == ("__classdict__" : Str)) = false)
    (hb : attributeBase (.Name n p) f X.env (eval (.Name n p) X.env) = eval (.Name n p) X.env := by rfl) :
    DE cl (X.suite a ((a, oe) :: pn)) E (.Attribute (.Name n p) f pos) (dExF i a d f) := by
  refine ⟨_, pe_xf (a := a) (C := C) (cls := .ref C) (d := d) (xfC_of T) hno hz hf (pe_var (i := i) hn hl hd1 hd2) hb, fun m S H sd σ Q rs rl h => ?_⟩
  unfold dExF at h
  split at h
  · rename_i a' dd ns ds e
    split at h
    · rename_i hz'
      obtain ⟨rfl, rfl, hns⟩ := hz'
      split at h
      · rename_i v ev
        obtain ⟨u, eu, ru, vs, rvs, hd⟩ := rl.at_ i _ e
        obtain ⟨w, ew, rw'⟩ := lookN_rv (f := f) rvs ev
        exact ⟨u, eu, ru, rfl, dd, _, w, rfl, hd hns, ew, h.here rs rw'⟩
      · exact h.elim
    · exact h.elim
  · exact h.elim
theorem call_isX (T : L2.ExcC X.K C) (hz : Zc (.ref C) d oe) (hf : ∃ vs, oe.data = .fields vs) : CallR (X.suite a ((a, oe) :: pn)) (.builtin "isinstance") (fun xs H Q => (d = none ∨ ∃ dd fs, d = some dd ∧ H dd = some (.xd fs)) ∧
    ∃ (c : V) (cv : Value) (b : Bool), xs = [.ref a, c] ∧ (∀ u, RelV c u → u = cv) ∧ PySem.W.kitOne X.K (.ref C) cv = some b ∧ Q (.bl b) H) := by
  intro pins s σ H xs us Q I r h
  obtain ⟨hdd, c, cv, b, rfl, hcv, e, q⟩ := h
  cases r with
  | cons rx rr =>
    cases rr with
    | cons rt rr =>
      cases rr
      cases rx
      have ec := hcv _ rt
      subst ec
      obtain ⟨hget, _⟩ := I.pin (a, oe) (List.mem_append.mpr (.inl List.mem_cons_self))
      obtain ⟨vs, hv⟩ := hf
      obtain ⟨od, J⟩ : ∃ od, PySem.W.InstAt s.heap a oe C od := by
        rcases hdd with rfl | ⟨dd, fs, rfl, hd⟩
        · refine ⟨none, hget, hz.1, by unfold PySem.W.notCls; rw [hv] <;> rfl, ?_⟩
          rw [hz.2]; trivial
        · have hx : ObjOk X.prog X.w H s.heap dd (.xd fs) := I.hok dd _ hd
          obtain ⟨mA, hns, hr⟩ := hx
          obtain ⟨od, ho, hl⟩ := lookIn_ns hns
          exact ⟨some od, hget, hz.1, by unfold PySem.W.notCls; rw [hv] <;> rfl, by rw [hz.2]; exact ho⟩
      have hcl : (PySem.W.clsIn X.K C).isSome = true := by
        obtain ⟨cd, hc, _⟩ := PySem.W.any_some T.hd
        rw [hc]; rfl
      exact PySem.W.kia_one (PySem.W.kitx_exc hcl T.hg T.hk T.hs T.ha T.hn T.ht T.hm) I.kIn J e (fun z => nomatch z) fun tk => ⟨.bl b, H, I.kept (t' := tk) fun _ _ z => z, rfl, q⟩
theorem de_exI {x : Str} {C' : Addr} {b : Bool} (T : L2.ExcC X.K C) (hz : Zc (.ref C) d oe) (hf : ∃ vs, oe.data = .fields vs) (hn : X.N[i]? = some n) (hl : Vis X.env.scope n) (hd1 : (n == ("__debug__" : Str)) = false) (hd2 : (n == ("__classdict__" : Str)) = false) (hgi : Gl X "isinstance") (hmi : X.mg "isinstance" = none)
    (hgc : Gl X x) (hmc : X.mg x = some (.ref C')) (hk : PySem.W.kitOne X.K (.ref C) (.ref C') = some b) (hdb : (x == ("__debug__" : Str)) = false := by decide) :
    DE cl (X.suite a ((a, oe) :: pn)) E (.Call (.Name "isinstance" p) [.Name n p1, .Name x p2] [] pos) (dExI i a d b) := by
  have pa : PA (X.suite a ((a, oe) :: pn)) [.Name n p1, .Name x p2] _ := pa_cons (pe_var (i := i) hn hl hd1 hd2) (pa_cons (pe_glob (v := .ref C') hgc hmc rfl hdb) pa_nil)
  refine ⟨_, pe_callB (call_isX T hz hf) hgi hmi (by rfl) pa, fun m S H sd σ Q rs rl h => ?_⟩
  unfold dExI at h
  split at h
  · rename_i a' dd ns ds e
    split at h
    · rename_i hz'
      obtain ⟨rfl, hd'⟩ := hz'
      obtain ⟨u, eu, ru, vs, rvs, hd⟩ := rl.at_ i _ e
      subst ru
      refine ⟨.ref a', eu, ?_⟩
      refine ⟨?_, .ref C', .ref C', b, rfl, fun u r => r, hk, h.here rs rfl⟩
      rcases hd' with hd' | ⟨hd', hns⟩
      · exact .inl hd'
      · exact .inr ⟨dd, _, hd', hd hns⟩
    · exact h.elim
  · exact h.elim
theorem de_exV {b : Bool} (T : L2.ExcC X.K C) (hz : Zc (.ref C) d oe) (hf : ∃ vs, oe.data = .fields vs) (hn : X.N[i]? = some n) (hl : Vis X.env.scope n) (hd1 : (n == ("__debug__" : Str)) = false) (hd2 : (n == ("__classdict__" : Str)) = false) (hgi : Gl X "isinstance") (hmi : X.mg "isinstance" = none)
    (hgc : Gl X "ValueError") (hmc : X.mg "ValueError" = none) (hk : PySem.W.kitOne X.K (.ref C) (.type "ValueError") = some b) :
    DE cl (X.suite a ((a, oe) :: pn)) E (.Call (.Name "isinstance" p) [.Name n p1, .Name "ValueError" p2] [] pos) (dExI i a d b) := by
  have pa : PA (X.suite a ((a, oe) :: pn)) [.Name n p1, .Name "ValueError" p2] _ := pa_cons (pe_var (i := i) hn hl hd1 hd2) (pa_cons (pe_bltn (v := .ty "ValueError") (pos := p2) hgc hmc (by rfl) rfl) pa_nil)
  refine ⟨_, pe_callB (call_isX T hz hf) hgi hmi (by rfl) pa, fun m S H sd σ Q rs rl h => ?_⟩
  unfold dExI at h
  split at h
  · rename_i a' dd ns ds e
    split at h
    · rename_i hz'
      obtain ⟨rfl, hd'⟩ := hz'
      obtain ⟨u, eu, ru, vs, rvs, hd⟩ := rl.at_ i _ e
      subst ru
      refine ⟨.ref a', eu, ?_⟩
      refine ⟨?_, .ty "ValueError", .type "ValueError", b, rfl, fun u r => r, hk, h.here rs rfl⟩
      rcases hd' with hd' | ⟨hd', hns⟩
      · exact .inl hd'
      · exact .inr ⟨dd, _, hd', hd hns⟩
    · exact h.elim
  · exact h.elim
def dExFc (i : Nat) (c : Nat) (cs : List Nat) (a : Addr) (d : Option Addr) (f : Str) : Sl → Sto → Res D := fun sd S => if c ∈ cs then dExF i a d f sd S else .stuck
theorem de_exFc {c : Nat} {cs : List Nat} (T : L2.ExcC X.K (cl c)) (hno : ∀ c ∈ cs, PySem.W.findIn X.K (.ref (cl c)) f = some none) (hz : Zc (.ref (cl c)) d oe) (hf : ∃ vs, oe.data = .fields vs) (hn : X.N[i]? = some n) (hl : Vis X.env.scope n) (hd1 : (n == ("__debug__" : Str)) = false) (hd2 : (n == ("__classdict__" : Str)) = false)
    (hb : attributeBase (.Name n p) f X.env (eval (.Name n p) X.env) = eval (.Name n p) X.env := by rfl) :
    DE cl (X.suite a ((a, oe) :: pn)) E (.Attribute (.Name n p) f pos) (dExFc i c cs a d f) := by
  by_cases h : c ∈ cs
  · obtain ⟨t, q, hh⟩ := de_exF (cl := cl) (E := E) (a := a) (pn := pn) (pos := pos) T (hno c h) hz hf hn hl hd1 hd2 hb
    refine ⟨t, q, fun m S H sd σ Q rs rl z => hh m S H sd σ Q rs rl ?_⟩
    unfold dExFc at z
    rw [if_pos h] at z
    exact z
  · obtain ⟨t, q, hh⟩ := de_stuck (cl := cl) (X := X.suite a ((a, oe) :: pn)) (E := E) (e := .Attribute (.Name n p) f pos)
    refine ⟨t, q, fun m S H sd σ Q rs rl z => ?_⟩
    unfold dExFc at z
    rw [if_neg h] at z
    exact z.elim
end
structure CokS (X : Cx) : Prop where
  nd : X.N.Nodup
  hu : X.A.units + 64 < cLine
  hu5 : X.A.units + 65 < cLine
theorem cokS_of {X : Cx} {k : Nat} {env : Env} {v : Option Value} (hn : X.N.Nodup) {A : Around} (hA : X.A = (A.deeper env).mark v) (hr : Room (k + 1) A) : CokS X := by
  have h := (hr.deeper env).un
  refine ⟨hn, ?_, ?_⟩
  · rw [hA]; show (A.deeper env).units + 64 < cLine; omega
  · rw [hA]; show (A.deeper env).units + 65 < cLine; omega
end DL

namespace DL
open PySem PySem.Spec PyProof.Rows L2
def isTy (T : String) (d : D) (S : Sto) : Bool := match d with
  | .str _ => T == "str"
  | .frl _ => T == "list"
  | .ref l => match S[l]? with
    | some (.lst _) => T == "list"
    | some (.dic 0 _) => T == "dict"
    | some (.dic 1 _) => T == "dict"
    | _ => false
  | _ => false
theorem isTy_tyV {cl : Cl} {K : PySem.W.Frag} {m : List Addr} {S : Sto} {H : Hp} {T : String} {d : D} {v : V} (rs : RS cl K m S H) (rv : RV K m H d v) (h : isTy T d S = true) : tyV K T v H := by
  unfold isTy at h
  split at h
  · cases rv; exact eq_of_beq h
  · obtain ⟨a, vs, rfl, s1, r1⟩ := rv
    exact .inl ⟨eq_of_beq h, vs, s1.sq⟩
  · rename_i l
    split at h
    · rename_i ds e1
      obtain ⟨a, h1, vs, hv, r1⟩ := rs.adr e1
      obtain ⟨a', h2, rfl⟩ := rv
      rw [h1] at h2; cases h2
      exact .inl ⟨eq_of_beq h, vs, SqL.of hv⟩
    · rename_i kvs e1
      obtain ⟨a, h1, gs, hv, r1⟩ := rs.adr e1
      obtain ⟨a', h2, rfl⟩ := rv
      rw [h1] at h2; cases h2
      exact .inr (.inr (.inl ⟨eq_of_beq h, .inl ⟨gs, hv⟩⟩))
    · rename_i kvs e1
      obtain ⟨a, h1, gs, hv, r1⟩ := rs.adr e1
      obtain ⟨a', h2, rfl⟩ := rv
      rw [h1] at h2; cases h2
      exact .inr (.inr (.inl ⟨eq_of_beq h, .inr ⟨gs, hv⟩⟩))
    · cases h
  · cases h
def MthD (cl : Cl) (X : Cx) (id : String) (g : D → List D → Sto → Res D) : Prop :=
  ∃ r, MtR X id r ∧ ∀ (E : XK) m S H d ds v vs Q, RS cl X.K m S H → RV X.K m H d v → RVs X.K m H ds vs → Post cl X.K (RV X.K) m H E Q (g d ds S) → r v vs H Q
def dBm (T : String) (g : D → List D → Sto → Res D) (fo : Sl → Sto → Res D) (fs : Sl → Sto → Res (List D)) : Sl → Sto → Res D := fun sd S => (fo sd S).bind fun d S1 => if isTy T d S1 then (fs sd S1).bind fun ds S2 => g d ds S2 else .stuck
section
variable {cl : Cl} {X : Cx} {E : XK} {o e : Expr} {es : List Expr} {fo : Sl → Sto → Res D} {fs : Sl → Sto → Res (List D)} {name : Str} {apos cpos : Pos} {T id : String} {g : D → List D → Sto → Res D}
theorem de_bm (pa : PlainAttrs T) (slot : Slot T name id) (hty : typeOf (.builtin id) = pure (.type "method_descriptor")) (hm : MthD cl X id g) (ho : DE cl X E o fo) (ha : DA cl X E (e :: es) fs)
    (hbase : attributeBase o name X.env (eval o X.env) = eval o X.env := by rfl)
    (hfew : ((backTo cpos (starEach (e :: es) X.env)).all (fun x => !x.1) && (backToKw cpos (keywordEach [] X.env)).all (fun x => x.1.isSome)
      && decide ((e :: es).length + ([] : List Keyword).length + (if ([] : List Keyword).isEmpty then 0 else 1) < 30)) = true := by rfl)
    (hline : (apos.endLine == cpos.line) = true := by rfl) (hs : starEach (e :: es) X.env = (false, eval e X.env) :: starEach es X.env := by rfl) (hplain : (backTo cpos (starEach es X.env)).any (·.1) = false := by rfl) :
    DE cl X E (.Call (.Attribute o name apos) (e :: es) [] cpos) (dBm T g fo fs) := by
  obtain ⟨r, hm, hr⟩ := hm
  obtain ⟨t, p, ho⟩ := ho
  obtain ⟨u, q, ha⟩ := ha
  refine ⟨_, pe_bm pa slot hty hm p q hbase hfew hline hs hplain, fun m S H sd σ Q rs rl h => ?_⟩
  refine ho m S H sd σ _ rs rl (Post.bind h fun d S1 m1 v H1 x1 k1 rs1 rv h1 => ?_)
  split at h1
  · rename_i ht
    refine ⟨isTy_tyV rs1 rv ht, ?_⟩
    refine ha m1 S1 H1 sd σ _ rs1 (rl.mono x1 k1) (Post.bind h1 fun ds S2 m2 vs H2 x2 k2 rs2 rv2 h2 => ?_)
    exact hr E m2 S2 H2 d ds v vs Q rs2 (RV.mono x2 k2 d rv) rv2 h2
  · exact h1.elim
theorem lst_at {m : List Addr} {S : Sto} {H : Hp} {l : Nat} {xs : List D} {v : V} {K : PySem.W.Frag} (rs : RS cl K m S H) (e : S[l]? = some (.lst xs)) (rv : RV K m H (.ref l) v) : ∃ a vs, m[l]? = some a ∧ v = .ref a ∧ H a = some (.lst vs) ∧ RVs K m H xs vs := by
  obtain ⟨a, h1, vs, hv, r1⟩ := rs.adr e
  obtain ⟨a', h2, rfl⟩ := rv
  rw [h1] at h2; cases h2
  exact ⟨a, vs, h1, rfl, hv, r1⟩
theorem put_lst {m : List Addr} {S : Sto} {H : Hp} {l : Nat} {xs ys : List D} {ws : List V} {a : Addr} {d : D} {v : V} {Q : VK} {K : PySem.W.Frag} (rs : RS cl K m S H) (e : S[l]? = some (.lst xs)) (hm : m[l]? = some a) (r : RVs K m H ys ws) (rv : RV K m H d v)
    (h : Post cl K (RV K) m H E Q (.ok d (S.set l (.lst ys)))) : Q v (upd H a (.lst ws)) := by
  have kp := rs.keepPut (u := .lst ws) e hm
  exact h m _ _ (Ext.refl _) kp (rs.put e hm ⟨ws, upd_same, r.mono (Ext.refl _) kp⟩) (RV.mono (Ext.refl _) kp d rv)
def appendD : D → List D → Sto → Res D
  | .ref l, [y], S => match S[l]? with
    | some (.lst xs) => if xs.length < sizeLine then .ok .non (S.set l (.lst (xs ++ [y]))) else .stuck
    | _ => .stuck
  | _, _, _ => .stuck
theorem md_append : MthD cl X "list.append" appendD := by
  refine ⟨_, mt_append, fun E m S H d ds v vs Q rs rv rvs h => ?_⟩
  unfold appendD at h
  split at h
  · rename_i l y
    obtain ⟨w, rfl, rw'⟩ := rvs1 rvs
    split at h
    · rename_i xs e1
      split at h
      · rename_i hz
        obtain ⟨a, us, hm, rfl, hv, r1⟩ := lst_at rs e1 rv
        exact ⟨a, us, w, rfl, rfl, hv, by rw [← r1.length]; exact hz, put_lst (d := .non) rs e1 hm (r1.snoc rw') rfl h⟩
      · exact h.elim
    · exact h.elim
  · exact h.elim
def extendD : D → List D → Sto → Res D
  | .ref l, [.ref k], S => match S[l]?, S[k]? with
    | some (.lst xs), some (.lst ys) => if xs.length + ys.length ≤ sizeLine then .ok .non (S.set l (.lst (xs ++ ys))) else .stuck
    | _, _ => .stuck
  | _, _, _ => .stuck
theorem md_extend : MthD cl X "list.extend" extendD := by
  refine ⟨_, mt_extend, fun E m S H d ds v vs Q rs rv rvs h => ?_⟩
  unfold extendD at h
  split at h
  · rename_i l k
    obtain ⟨w, rfl, rw'⟩ := rvs1 rvs
    split at h
    · rename_i xs ys e1 e2
      split at h
      · rename_i hz
        obtain ⟨a, us, hm, rfl, hv, r1⟩ := lst_at rs e1 rv
        obtain ⟨b, ws, hm2, rfl, hv2, r2⟩ := lst_at rs e2 rw'
        exact ⟨a, b, us, ws, rfl, rfl, hv, hv2, by rw [← r1.length, ← r2.length]; exact hz, put_lst (d := .non) rs e1 hm (r1.append r2) rfl h⟩
      · exact h.elim
    · exact h.elim
  · exact h.elim
def strsD : List D → Option (List Str)
  | [] => some []
  | .str x :: r => (strsD r).map (x :: ·)
  | _ => none
theorem strsD_rv {K : PySem.W.Frag} {m : List Addr} {H : Hp} : ∀ {ds : List D} {vs : List V} {ys : List Str}, RVs K m H ds vs → strsD ds = some ys → vs = ys.map V.str
  | [], _, _, r, e => by cases r; cases e; rfl
  | .str x :: ds, _, _, ⟨v, vs', e, r, t⟩, h => by
    subst e
    cases r
    obtain ⟨zs, e1, rfl⟩ := Option.map_eq_some_iff.mp h
    rw [strsD_rv t e1]; rfl
  | .non :: _, _, _, _, h => by cases h
  | .bl _ :: _, _, _, _, h => by cases h
  | .int _ :: _, _, _, _, h => by cases h
  | .tup _ :: _, _, _, _, h => by cases h
  | .frl _ :: _, _, _, _, h => by cases h
  | .ref _ :: _, _, _, _, h => by cases h
  | .exn _ _ _ _ :: _, _, _, _, h => by cases h
def indexD : D → List D → Sto → Res D
  | d, [y], S => match lsD d S with
    | some xs => match toP S 60 y, mapO (toP S 60) xs with
      | some p, some ps => if SeqAt.shaped p && SeqAt.shaped (.list ps) then (match ps.findIdx? fun z => PyData.eqv z p with
        | some j => .ok (.int (j : Nat)) S
        | none => .stuck) else .stuck
      | _, _ => .stuck
    | _ => .stuck
  | _, _, _ => .stuck
theorem md_index (hu : X.A.units + 65 < cLine) : MthD cl X "list.index" indexD := by
  refine ⟨_, mt_indexD hu, fun E m S H d ds v vs Q rs rv rvs h => ?_⟩
  unfold indexD at h
  split at h
  · rename_i l y
    obtain ⟨w, rfl, rw'⟩ := rvs1 rvs
    split at h
    · rename_i xs e1
      split at h
      · rename_i p ps ep eps
        split at h
        · rename_i hz
          rw [Bool.and_eq_true] at hz
          split at h
          · rename_i j ej
            obtain ⟨a, us, rfl, hv, r1⟩ := ls_rv rs rv e1
            obtain ⟨h1, h2, h3⟩ := List.findIdx?_eq_some_iff_getElem.mp ej
            refine ⟨a, w, p, ps, j, ps[j], rfl, rfl, .lst hv (dpAll (toP_dp rs 60) xs ps us eps r1), toP_dp rs 60 y p w ep rw', hz.2, hz.1, by simp [h1], h2, fun k z' hk hz' => ?_, h.here rs rfl⟩
            have hk' : k < ps.length := by omega
            rw [List.getElem?_eq_getElem hk'] at hz'
            cases hz'
            simpa using h3 k hk
          · exact h.elim
        · exact h.elim
      · exact h.elim
    · exact h.elim
  · exact h.elim
theorem mt_countD (hu : X.A.units + 65 < cLine) : MtR X "list.count" (fun x xs H Q => ∃ (a : Addr) (y : V) (d : PyData) (ds : List PyData), x = V.ref a ∧ xs = [y] ∧ Dp X.K H (V.ref a) (.list ds) ∧ Dp X.K H y d ∧
    SeqAt.shaped (.list ds) = true ∧ SeqAt.shaped d = true ∧ Q (.int ((ds.countP fun z => PyData.eqv z d : Nat))) H) := by
  intro pins s σ H x xs v us Q I rx rxs h
  obtain ⟨a, y, d, ds, rfl, rfl, hl, hy, sl, sd, q⟩ := h
  cases rx
  cases rxs with
  | cons ry rt =>
    rename_i uy ut
    cases rt
    obtain ⟨bs, r1⟩ := Dp.reads I d y uy hy ry
    have hxs : PyData.canLayAll0 ds = true := SeqAt.canLay_of_shaped sl
    have hroom : X.A.units + 1 + min (PyData.depthAll ds) d.depth < cLine := room_in_shaped sd hu
    cases hl with
    | lst hs ha =>
      obtain ⟨its, rv, ⟨⟨cls, dd, data, sls⟩, n, ho, hc, hdn, hdt⟩, hlen⟩ := I.list hs
      simp only at hc hdt
      subst hc hdt
      obtain ⟨as, h4⟩ := Dp.readsAll I ds _ its ha rv
      refine SeqAt.count_list_data (vs := its.toArray) ⟨_, ho, rfl, n, rfl⟩ h4 r1 ?_ (PyData.plain_of_canLay0 d (SeqAt.canLay_of_shaped sd)) hroom ⟨.int _, H, I.tok _, ⟨_, rfl⟩, q⟩
      have z : (PyData.list ds).plain = true := PyData.plain_of_canLay0 (.list ds) (SeqAt.canLay_of_shaped sl)
      simpa [PyData.plain] using z
def countD : D → List D → Sto → Res D
  | d, [y], S => match lsD d S with
    | some xs => match toP S 60 y, mapO (toP S 60) xs with
      | some p, some ps => if SeqAt.shaped p && SeqAt.shaped (.list ps) then .ok (.int (ps.countP fun z => PyData.eqv z p : Nat)) S else .stuck
      | _, _ => .stuck
    | _ => .stuck
  | _, _, _ => .stuck
theorem md_count (hu : X.A.units + 65 < cLine) : MthD cl X "list.count" countD := by
  refine ⟨_, mt_countD hu, fun E m S H d ds v vs Q rs rv rvs h => ?_⟩
  unfold countD at h
  split at h
  · rename_i l y
    obtain ⟨w, rfl, rw'⟩ := rvs1 rvs
    split at h
    · rename_i xs e1
      split at h
      · rename_i p ps ep eps
        split at h
        · rename_i hz
          rw [Bool.and_eq_true] at hz
          obtain ⟨a, us, rfl, hv, r1⟩ := ls_rv rs rv e1
          exact ⟨a, w, p, ps, rfl, rfl, .lst hv (dpAll (toP_dp rs 60) xs ps us eps r1), toP_dp rs 60 y p w ep rw', hz.2, hz.1, h.here rs rfl⟩
        · exact h.elim
      · exact h.elim
    · exact h.elim
  · exact h.elim
end
def tyS (d : D) (S : Sto) : Option String := match d with
  | .non => some "NoneType"
  | .bl _ => some "bool"
  | .int _ => some "int"
  | .str _ => some "str"
  | .tup _ => some "tuple"
  | .frl _ => some "list"
  | .ref l => match S[l]? with
    | some (.lst _) => some "list"
    | some (.dic 0 _) => some "dict"
    | some (.dic 1 _) => some "dict"
    | _ => none
  | .exn _ _ _ _ => none
def isT (a b : String) : Bool := a == b || (a == "bool" && b == "int")
def tyOk (t : String) : Bool := ["NoneType", "bool", "int", "str", "tuple", "list", "dict"].contains t
theorem kitB_is {a b : String} (ha : tyOk a = true) (hb : tyOk b = true) : kitB a b = some (isT a b) := by
  have key : ∀ a ∈ ["NoneType", "bool", "int", "str", "tuple", "list", "dict"], ∀ b ∈ ["NoneType", "bool", "int", "str", "tuple", "list", "dict"], kitB a b = some (isT a b) := by decide +kernel
  exact key a (List.contains_iff_mem.mp ha) b (List.contains_iff_mem.mp hb)
theorem tyS_ok {d : D} {S : Sto} {t : String} (h : tyS d S = some t) : tyOk t = true := by
  unfold tyS at h
  split at h
  all_goals first | (cases h; decide) | skip
  split at h
  all_goals first | (cases h; decide) | cases h
theorem tyS_rv {cl : Cl} {K : PySem.W.Frag} {m : List Addr} {S : Sto} {H : Hp} {d : D} {v : V} {t : String} (rs : RS cl K m S H) (rv : RV K m H d v) (h : tyS d S = some t) : TyX K H v (.type t) := by
  unfold tyS at h
  split at h
  · cases h; cases rv; exact .base .non
  · cases h; cases rv; exact .base (.bl _)
  · cases h; cases rv; exact .base (.int _)
  · cases h; cases rv; exact .base (.str _)
  · cases h
    obtain ⟨a, vs, rfl, s1, r1⟩ := rv
    rcases s1 with (s1 | ⟨o, s1⟩) | ⟨o, its, n, h1, h2, h3⟩
    · exact .base (.tup s1)
    · exact .fTuple s1
    · exact .kTuple h1 h2
  · cases h
    obtain ⟨a, vs, rfl, s1, r1⟩ := rv
    rcases s1 with ⟨o, s1⟩ | ⟨o, its, n, h1, h2, h3⟩
    · exact .base (.frz s1)
    · exact .kList h1 h2
  · rename_i l
    split at h
    · rename_i xs e1
      cases h
      obtain ⟨a, us, hm, rfl, hv, r1⟩ := lst_at rs e1 rv
      exact .base (.lst hv)
    · rename_i kvs e1
      cases h
      obtain ⟨a, h1, gs, hv, r1⟩ := rs.adr e1
      obtain ⟨a', h2, rfl⟩ := rv
      rw [h1] at h2; cases h2
      exact .base (.dK hv)
    · rename_i kvs e1
      cases h
      obtain ⟨a, h1, gs, hv, r1⟩ := rs.adr e1
      obtain ⟨a', h2, rfl⟩ := rv
      rw [h1] at h2; cases h2
      exact .base (.dT hv)
    · cases h
  · cases h
def dIsi (ts : List String) (f : Sl → Sto → Res D) : Sl → Sto → Res D := fun sd S => (f sd S).bind fun d S1 => match tyS d S1 with
  | some t => .ok (.bl (ts.any fun b => isT t b)) S1
  | none => .stuck
section
variable {cl : Cl} {X : Cx} {E : XK} {e : Expr} {f : Sl → Sto → Res D} {p p1 p2 p3 p4 pos : Pos}
theorem de_isi {T : String} {n : Str} (hi : Gl X "isinstance") (mi : X.mg "isinstance" = none) (he : DE cl X E e f) (hg : Gl X n) (hm : X.mg n = none) (hv : bootBuiltins n = some (.type T)) (hT : tyOk T = true)
    (hn : n ≠ "__name__" := by decide) (hd : (n == ("__debug__" : Str)) = false := by decide) (hs : starEach [e, .Name n p2] X.env = (false, eval e X.env) :: starEach [.Name n p2] X.env := by rfl) :
    DE cl X E (.Call (.Name "isinstance" p) [e, .Name n p2] [] pos) (dIsi [T] f) := by
  obtain ⟨t, q, he⟩ := he
  have pa := pa_cons q (pa_cons (pe_bltn (v := .ty T) (pos := p2) hg hm hv rfl hn hd) pa_nil) hs
  refine ⟨_, pe_callB call_isi hi mi (by rfl) pa (he := hs), fun m S H sd σ Q rs rl h => ?_⟩
  refine he m S H sd σ _ rs rl (Post.bind h fun d S1 m1 v H1 x1 k1 rs1 rv h1 => ?_)
  split at h1
  · rename_i ty ht
    have h1' : Post cl X.K (RV X.K) m1 H1 E Q (.ok (.bl (isT ty T)) S1) := by
      have e : ([T].any fun b => isT ty b) = isT ty T := by simp
      rw [← e]; exact h1
    exact ⟨v, .ty T, .type ty, .type T, isT ty T, rfl, .ty T, tyS_rv rs1 rv ht, kit_ty (kitB_is (tyS_ok ht) hT), h1'.here rs1 rfl⟩
  · exact h1.elim
theorem de_isi2 {T U : String} {n n' : Str} {k : Nat} (hi : Gl X "isinstance") (mi : X.mg "isinstance" = none) (he : DE cl X E e f) (hg : Gl X n) (hm : X.mg n = none) (hv : bootBuiltins n = some (.type T)) (hT : tyOk T = true)
    (hg' : Gl X n') (hm' : X.mg n' = none) (hv' : bootBuiltins n' = some (.type U)) (hU : tyOk U = true)
    (hn : n ≠ "__name__" := by decide) (hd : (n == ("__debug__" : Str)) = false := by decide) (hn' : n' ≠ "__name__" := by decide) (hd' : (n' == ("__debug__" : Str)) = false := by decide)
    (hs : starEach [e, .Tuple [.Name n p2, .Name n' p3] k p4] X.env = (false, eval e X.env) :: starEach [.Tuple [.Name n p2, .Name n' p3] k p4] X.env := by rfl) :
    DE cl X E (.Call (.Name "isinstance" p) [e, .Tuple [.Name n p2, .Name n' p3] k p4] [] pos) (dIsi [T, U] f) := by
  obtain ⟨t, q, he⟩ := he
  have pt := pe_tup (x1 := k) (pos := p4) (pa_cons (pe_bltn (v := .ty T) (pos := p2) hg hm hv rfl hn hd) (pa_cons (pe_bltn (v := .ty U) (pos := p3) hg' hm' hv' rfl hn' hd') pa_nil))
  have pa := pa_cons q (pa_cons pt pa_nil) hs
  refine ⟨_, pe_callB call_isiT hi mi (by rfl) pa (he := hs), fun m S H sd σ Q rs rl h => ?_⟩
  refine he m S H sd σ _ rs rl (Post.bind h fun d S1 m1 v H1 x1 k1 rs1 rv h1 => ?_)
  split at h1
  · rename_i ty ht
    have hk : PySem.W.kitAny X.K (.type ty) [.type T, .type U] = some ([T, U].any fun b => isT ty b) := by
      refine kitAny_cons (kit_ty (kitB_is (tyS_ok ht) hT)) (fun hb => kitAny_cons (kit_ty (kitB_is (tyS_ok ht) hU)) (fun hc => ?_) (fun hc => ?_)) (fun hb => ?_)
      · rw [kitAny_nil]; simp [hb, hc]
      · simp [hc]
      · simp [hb]
    refine ⟨by rw [sizeLine_eq]; show 2 ≤ _; decide, fun a na => ?_⟩
    have hk2 := Keep.new (H := H1) (o := .tup [V.ty T, V.ty U]) na
    exact ⟨v, a, [.ty T, .ty U], .type ty, [.type T, .type U], _, rfl, upd_same, .cons (.ty T) (.cons (.ty U) .nil), tyS_rv (rs1.ext na) (RV.mono (Ext.refl _) hk2 d rv) ht, hk, h1 m1 _ _ (Ext.refl _) hk2 (rs1.ext na) rfl⟩
  · exact h1.elim
end
end DL

namespace DL
open PySem PySem.Spec PyProof.Rows L2
def frU (n : Nat) (g : Addr → Option Obj) : PySem.W.Frag := He.frT g (cStatics :: He.asD g n)
structure TabF (K : PySem.W.Frag) (h : Heap) (tf : List He.Defn) : Prop where
  hd : ∀ p ∈ tf, PySem.W.codeHdIn K (He.cT K p).1 (He.cT K p).2 = true
  out : ∀ p ∈ tf, K.lookup (He.cT K p).2 = none
  empty : ∀ p ∈ tf, h.get? (He.cT K p).2 = some { cls := .none, data := .fields #[] }
def obU (n : Nat) (fa : List He.Fa) (fn : List He.DefD) (tf : List He.Defn) (ex : PySem.W.Frag → Bool) (g : Addr → Option Obj) : He.AlD × Bool := (He.obsD fa fn (frU n g), ex (frU n g) && He.tabsB g tf (frU n g))
theorem tabF_of {n : Nat} {tf : List He.Defn} {h : Heap} (e : He.tabsB h.get? tf (frU n h.get?) = true) : TabF (frU n h.get?) h tf := by
  have key : ∀ p ∈ tf, PySem.W.codeHdIn (frU n h.get?) (He.cT (frU n h.get?) p).1 (He.cT (frU n h.get?) p).2 = true ∧ ∃ o, h.get? (He.cT (frU n h.get?) p).2 = some o ∧ He.emptyTab o = true := fun p hp => by
    have z := List.all_eq_true.mp e p hp
    rw [Bool.and_eq_true] at z
    refine ⟨z.1, ?_⟩
    have z2 := z.2
    split at z2
    · rename_i o q
      exact ⟨o, q, z2⟩
    · cases z2
  refine ⟨fun p hp => (key p hp).1, fun p hp => ?_, fun p hp => ?_⟩
  · obtain ⟨_, o, q, z⟩ := key p hp
    exact He.frT_none q z
  · obtain ⟨_, o, q, z⟩ := key p hp
    rw [q, He.emptyTab_eq z]
def hookU (n : Nat) (fa : List He.Fa) (fn : List He.DefD) (tf : List He.Defn) (ex : PySem.W.Frag → Bool) : PySem.W.Hook where
  α := He.AlD × Bool
  obs := fun s => obU n fa fn tf ex s.heap.get?
  val := fun _ => (He.valD fn, true)
  says := fun _ h => ∃ K : PySem.W.Frag, K.In h ∧ He.SaysD fa fn K ∧ ex K = true ∧ TabF K h tf
  of := fun _ s e => by
    have e2 : (ex (frU n s.heap.get?) && He.tabsB s.heap.get? tf (frU n s.heap.get?)) = true := congrArg (fun z : He.AlD × Bool => z.2) e
    rw [Bool.and_eq_true] at e2
    exact ⟨frU n s.heap.get?, He.frT_in, congrArg (fun z : He.AlD × Bool => z.1) e, e2.1, tabF_of e2.2⟩
  keeps := fun _ _ _ ⟨K, hK, c1, c2, c3⟩ k => ⟨K, PySem.W.Frag.In.keeps hK k, c1, c2, c3.hd, c3.out, fun p hp => k _ _ (c3.empty p hp)⟩
theorem obU_eq {n : Nat} {fa : List He.Fa} {fn : List He.DefD} {tf : List He.Defn} {ex : PySem.W.Frag → Bool} {g : Addr → Option Obj} {s : Shared} (h : ∀ a, g a = s.heap.get? a) : obU n fa fn tf ex g = (hookU n fa fn tf ex).obs s := by
  have e : g = s.heap.get? := funext h
  subst e
  rfl
theorem FunD.okC {P : Program} {w : World} {K : PySem.W.Frag} {mg : Str → Option Value} {base : Heap} {x qual : Str} {params : Arguments} {body : List Stmt} {scope : Scope} {dvs : List V} {kws : List (Str × V)} {pd : He.Defn} {fd : FuncData} {CX : CXT} {N ps : List Str} {k : Nat} {sp : Sp}
    (F : FunD K x qual params body scope dvs kws (He.fAd K pd) fd) (S : FnScope N ps scope) (len : ∀ vs H Q E, sp vs H Q E → vs.length = ps.length)
    (hbody : ∀ (A : Around) (outer : List Env) (s : Shared) (H : Hp) (vs : List V) (Q : VK) (E : XK), Room k (A.deeper (envOfC qual scope s.heap.objs.size (He.fAd K pd) (.ref (He.cT K pd).1))) → sp vs H Q E →
      ∃ t, PSs (cxOf CX P w K mg base N qual scope (He.fAd K pd) (.ref (He.cT K pd).1) A outer s H E) body t ∧ t { nx := fun _ H' => Q .non H', rt := Q } (L2.start N vs) H) : FnOk P w K mg base CX (k + 1) (He.fAd K pd) fd ps sp := by
  obtain ⟨oc, od, dV, kV, doc, pm, an, cdv, ct, osl, rfl, lk, hcd, _, _⟩ := F.ex
  obtain ⟨c, rfl⟩ := He.codeIn_ref hcd
  have e : He.codeOf K pd = c := He.codeOf_eq lk rfl
  refine fn_of lk hcd S len fun A outer s H vs Q E hr hsp => ?_
  subst e
  exact hbody A outer s H vs Q E hr hsp
theorem body_run {P : Program} {w : World} {cl : Cl} {K : PySem.W.Frag} {mg : Str → Option Value} {base : Heap} {f : Addr} {qual : Str} {body : List Stmt} {scope : Scope} {N : List Str} {n : Nat} {Fb : Sl → Sto → Res Fl} {cdv : Value} {A : Around} {outer : List Env} {s : Shared} {H : Hp} {vs : List V} {Q : VK} {E : XK}
    (hb : DSs cl (cxOf (L2.CX P w) P w K mg base N qual scope f cdv A outer s H E) E body Fb) (h : spD cl K n (dFn N.length Fb) vs H Q E) :
    ∃ t, PSs (cxOf (L2.CX P w) P w K mg base N qual scope f cdv A outer s H E) body t ∧ t { nx := fun _ H' => Q .non H', rt := Q } (L2.start N vs) H := by
  obtain ⟨m, St, ds, hl, rs, rv, h⟩ := h
  obtain ⟨t, p, hh⟩ := hb
  refine ⟨t, p, hh m St H (startD N.length ds) (L2.start N vs) _ rs (start_rl rv) ?_⟩
  unfold dFn at h
  cases hres : Fb (startD N.length ds) St with
  | ok fl S1 =>
    rw [hres] at h
    intro m1 v H1 x1 k1 rs1 rv1
    cases fl with
    | nx sd =>
      cases v with
      | nx σ1 => exact h m1 .non H1 x1 k1 rs1 rfl
      | _ => exact rv1.elim
    | ret d =>
      cases v with
      | ret u => exact h m1 u H1 x1 k1 rs1 rv1
      | _ => exact rv1.elim
    | brk sd => exact h.elim
    | cnt sd => exact h.elim
  | exc x S1 =>
    rw [hres] at h
    exact h
  | stuck =>
    rw [hres] at h
    exact h.elim
theorem rs_extN {cl : Cl} {K : PySem.W.Frag} {m : List Addr} {S : Sto} {H H1 : Hp} (r : RS cl K m S H) (e : LamX.ExtN H H1) (t : LamX.Tabs cl.T H1) : RS cl K m S H1 ∧ Keep H H1 := by
  have kp : Keep H H1 := fun a o h i => e a o h fun ps z => by subst z; exact imm_tbl i
  refine ⟨⟨r.len, r.nd, fun l o a h1 h2 => ?_, t⟩, kp⟩
  obtain ⟨u, hu, ow⟩ := (r.obj l o a h1 h2).any
  exact (r.obj l o a h1 h2).mono (Ext.refl m) kp (by rw [e a u hu ow.1, hu])
def dKind (Fx : Exc → Sto → Res D) (fb : Sl → Sto → Res D) : Sl → Sto → Res D := fun sd S => match fb sd S with
  | .ok d S1 => .ok d S1
  | .exc x S1 => (match Fx x S1 with
    | .ok d S2 => .ok d S2
    | _ => .stuck)
  | .stuck => .stuck
def TKind (cl : Cl) (K : PySem.W.Frag) (Fx : Exc → Sto → Res D) : (XK → Hp → VK → Prop) → Hp → VK → Prop := fun tl H Q =>
  tl (fun cls d H' => ∃ (q : Exc) (m : List Addr) (S : Sto), cls = .ref (cl q.c) ∧ RS cl K m S H' ∧ RX K m H' q d ∧ Post cl K (RV K) m H' C8.E0 Q (Fx q S)) H Q
theorem kind_gives {cl : Cl} {X : Cx} {Ng : List Str} {x a eN n q0 : Str} {sg : Scope} {g C0 : Addr} {cdg : Value} {i : Nat} {b₀ : Stmt} {suite : List Stmt} {p1 p2 p3 p4 p7 p8 : Pos} {Fx : Exc → Sto → Res D} {suF : Exc → Addr → Option Addr → Sl → Sto → Res Fl} {ok : Exc → Prop}
    (hge : sg.names.lookup eN = some .globalImplicit) (hme : X.mg eN = some (.ref C0)) (hde : (eN == ("__debug__" : Str)) = false) (h0 : ∀ f : Addr, (L2.start Ng [V.ref f])[0]? = some (some (V.ref f))) (hN : Ng.Nodup) (hi : Ng[i]? = some n) (hln : sg.names.lookup n = some .local)
    (hex : ∀ (q : Exc) (S : Sto), Fx q S ≠ .stuck → ok q ∧ PySem.W.exmOne X.K (.ref (cl q.c)) (.ref C0) = some true ∧ q.fs ≠ some [])
    (hsu : ∀ (s : Shared) (H : Hp) (q : Exc) (a' : Addr) (oe : Obj) (d : Option Addr) (pn : List (Addr × Obj)), ok q → ExOk d q → Zc (.ref (cl q.c)) d oe → (∃ vs, oe.data = .fields vs) →
      DSs cl ((cxOf C8.CX0 X.prog X.w X.K X.mg X.base Ng x sg g cdg X.A X.stack s H C8.E0).nox.suite a' ((a', oe) :: pn)) C8.E0 (b₀ :: suite) (suF q a' d))
    (hF : ∀ (q : Exc) (a' : Addr) (d : Option Addr) (S : Sto), Fx q S ≠ .stuck → ExOk d q → suF q a' d (exSl Ng.length i (excD a' (d.getD 0) q)) S = (Fx q S).bind fun d S2 => .ok (.ret d) S2) :
    LamX.GivesTo X Ng x sg g cdg [.Try [.Return (some (.Call (.Name a p1) [] [] p2)) p3] [.ExceptHandler (some (.Name eN p4)) (some n) (b₀ :: suite) p7] [] [] p8] a q0 (TKind cl X.K Fx) := by
  intro f c' s H Q tl act hc h
  have hgl : Gl (cxOf C8.CX0 X.prog X.w X.K X.mg X.base Ng x sg g cdg X.A X.stack s H C8.E0).nox eN := hge
  let ts : Addr → Value → Option Addr → TS := fun a' cls d D σ H => ∃ (q : Exc) (m : List Addr) (S : Sto) (sd : Sl), cls = .ref (cl q.c) ∧ ok q ∧ ExOk d q ∧ RS cl X.K m S H ∧ RSl X.K m H sd σ ∧ Post cl X.K (RFl X.K) m H C8.E0 (endQ D) (suF q a' d sd S)
  refine ⟨_, pss_one (ps_try_as (X := (cxOf C8.CX0 X.prog X.w X.K X.mg X.base Ng x sg g cdg X.A X.stack s H C8.E0).nox) (c := .ref C0) (i := i)
      (tb := fun W D σ H => ∃ Ech : XK, (∀ cls d H', Ech cls d H' → ∀ σ' : L2.St, σ'.length = Ng.length → W cls d σ' H') ∧ σ[0]? = some (some (.ref f)) ∧ H c' = some (LamX.CodeO c' q0) ∧ tl Ech H D.rt) (ts := ts) (Wout := fun _ _ _ _ => False)
      rfl rfl hN hi hln ⟨hgl, hde, .inl hme⟩ LamX.takes0 (fun W pn xe tk _ => ?_) (fun a' oe cls d pn hz hd => ?_)), ?_⟩
  · refine ⟨fun pins s' σ H' D I h' => ?_⟩
    obtain ⟨Ech, hW, h1, h2, h3⟩ := h'
    have hp := act (fun cls d _ H => ∀ σ' : L2.St, σ'.length = Ng.length → W cls d σ' H) pn xe Ech p1 p2 (takes_all tk) (fun cls d σ' H' e => hW cls d H' e)
    exact (pss_one (ps_ret (pos := p3) hp)).run pins s' σ H' D I ⟨h1, h2, h3⟩
  · refine ⟨fun pins s' σ H' D I h' => ?_⟩
    obtain ⟨q, m, S, sd, rfl, hq, hok, rs, rl, h'⟩ := h'
    obtain ⟨t, p, hh⟩ := hsu s H q a' oe d pn hq hok hz hd
    exact p.run pins s' σ H' D I (hh m S H' sd σ D rs rl h')
  · refine ⟨_, fun cls d H' hE σ1 hσ => ?_, h0 f, hc, h⟩
    obtain ⟨q, m1, S1, rfl, rs1, rx, hp⟩ := hE
    have hns : Fx q S1 ≠ .stuck := fun z => by rw [z] at hp; exact hp.elim
    obtain ⟨hokq, hexm, hne⟩ := hex q S1 hns
    refine ⟨true, hexm, fun _ a' na => ?_, fun z => Bool.noConfusion z⟩
    have hok : ExOk d q := by
      unfold ExOk
      unfold RX at rx
      split at rx
      · rename_i e; try rw [e]
        exact rx
      · rename_i fs e
        try rw [e]
        obtain ⟨dd, gs, rfl, _⟩ := rx
        exact ⟨rfl, fun z => hne (by rw [e, z])⟩
    refine ⟨q, m1, S1, exSl Ng.length i (excD a' (d.getD 0) q), rfl, hokq, hok, rs1, ⟨?_, fun j d' e => ?_⟩, ?_⟩
    · simp [exSl, hσ]
    · unfold exSl at e
      by_cases hj : j = i
      · subst hj
        by_cases hlt : j < Ng.length
        · rw [List.getElem?_set_self (by simpa using hlt)] at e
          cases e
          exact ⟨.ref a', by rw [List.getElem?_set_self (by rw [hσ]; exact hlt)], excD_rv a' rx⟩
        · rw [List.getElem?_eq_none (by simpa using hlt)] at e; cases e
      · rw [List.getElem?_set_ne (Ne.symm hj), List.getElem?_replicate] at e
        split at e <;> cases e
    · rw [hF q a' d S1 hns hok]
      cases hr : Fx q S1 with
      | stuck => exact absurd hr hns
      | exc y S2 => rw [hr] at hp; exact hp
      | ok r S2 =>
        rw [hr] at hp
        intro m2 v H2 x2 k2 rs2 rv2
        cases v with
        | ret u => exact hp m2 u H2 x2 k2 rs2 rv2
        | _ => exact rv2.elim
theorem inj_map {α β : Type} {f : α → β} : ∀ {l : List α}, (l.map f).Nodup → ∀ a ∈ l, ∀ b ∈ l, f a = f b → a = b
  | [], _, a, ha, _, _, _ => nomatch ha
  | x :: l, hn, a, ha, b, hb, e => by
    rw [List.map_cons, List.nodup_cons] at hn
    rcases List.mem_cons.mp ha with ea | ha' <;> rcases List.mem_cons.mp hb with eb | hb'
    · rw [ea, eb]
    · exact absurd (List.mem_map.mpr ⟨b, hb', by rw [← e, ea]⟩) hn.1
    · exact absurd (List.mem_map.mpr ⟨a, ha', by rw [e, eb]⟩) hn.1
    · exact inj_map hn.2 a ha' b hb' e
def tabsQ (K : PySem.W.Frag) (tq : List (He.Defn × Str)) : List (Addr × Str) := tq.map fun p => ((He.cT K p.1).2, p.2 ++ ".<locals>." ++ "<lambda>")
def tabU (K : PySem.W.Frag) (tq : List (He.Defn × Str)) : Bool := decide (tq.map fun p => (He.cT K p.1).2).Nodup
theorem tab_mem {K : PySem.W.Frag} {tq : List (He.Defn × Str)} {p : He.Defn × Str} (hp : p ∈ tq) : ((He.cT K p.1).2, p.2 ++ ".<locals>." ++ "<lambda>") ∈ tabsQ K tq := List.mem_map.mpr ⟨p, hp, rfl⟩
theorem tab_uniq {K : PySem.W.Frag} {tq : List (He.Defn × Str)} (h : tabU K tq = true) {p : He.Defn × Str} (hp : p ∈ tq) : ∀ r ∈ tabsQ K tq, r.1 = (He.cT K p.1).2 → r.2 = p.2 ++ ".<locals>." ++ "<lambda>" := fun r hr e => by
  obtain ⟨q, hq, rfl⟩ := List.mem_map.mp hr
  have := inj_map (of_decide_eq_true h) q hq p hp e
  rw [this]
theorem tab_tf {K : PySem.W.Frag} {tq : List (He.Defn × Str)} : ∀ r ∈ tabsQ K tq, ∃ t ∈ tq.map Prod.fst, r.1 = (He.cT K t).2 := fun r hr => by
  obtain ⟨q, hq, rfl⟩ := List.mem_map.mp hr
  exact ⟨q.1, List.mem_map.mpr ⟨q, hq, rfl⟩, rfl⟩
end DL

namespace DL
open PySem PySem.Spec PyProof.Rows L2
mutual
def D.blw (n : Nat) : D → Bool
  | .tup ds => D.blws n ds
  | .frl ds => D.blws n ds
  | .ref l => decide (l < n)
  | .exn _ _ _ ds => D.blws n ds
  | .non => true
  | .bl _ => true
  | .int _ => true
  | .str _ => true
def D.blws (n : Nat) : List D → Bool
  | [] => true
  | d :: ds => D.blw n d && D.blws n ds
end
def DO.blw (n : Nat) : DO → Bool
  | .lst ds => D.blws n ds
  | .dic _ kvs => kvs.all fun p => p.2.blw n
  | .ins _ fs => fs.all fun p => p.2.blw n
  | .dead => true
section
variable {cl : Cl} {K : PySem.W.Frag} {m : List Addr} {H : Hp} {n : Nat}
mutual
theorem RV.cut : ∀ (d : D) {v : V}, RV K m H d v → d.blw n = true → RV K (m.take n) H d v
  | .non, _, h, _ => h
  | .bl _, _, h, _ => h
  | .int _, _, h, _ => h
  | .str _, _, h, _ => h
  | .tup ds, _, ⟨a, vs, e, s, r⟩, b => ⟨a, vs, e, s, RVs.cut ds r b⟩
  | .frl ds, _, ⟨a, vs, e, s, r⟩, b => ⟨a, vs, e, s, RVs.cut ds r b⟩
  | .ref l, _, ⟨a, e, r⟩, b => ⟨a, by rw [List.getElem?_take_of_lt (of_decide_eq_true b)]; exact e, r⟩
  | .exn a dd ns ds, _, ⟨e, vs, r, h⟩, b => ⟨e, vs, RVs.cut ds r b, h⟩
theorem RVs.cut : ∀ (ds : List D) {vs : List V}, RVs K m H ds vs → D.blws n ds = true → RVs K (m.take n) H ds vs
  | [], _, h, _ => h
  | d :: ds, _, ⟨v, vs', e, r, t⟩, b => by
    have b' : (D.blw n d && D.blws n ds) = true := b
    rw [Bool.and_eq_true] at b'
    exact ⟨v, vs', e, RV.cut d r b'.1, RVs.cut ds t b'.2⟩
end
mutual
theorem RV.isBelow : ∀ (d : D) {v : V}, RV K m H d v → d.blw m.length = true
  | .non, _, _ => rfl
  | .bl _, _, _ => rfl
  | .int _, _, _ => rfl
  | .str _, _, _ => rfl
  | .tup ds, _, ⟨_, _, _, _, r⟩ => RVs.isBelow ds r
  | .frl ds, _, ⟨_, _, _, _, r⟩ => RVs.isBelow ds r
  | .ref l, _, ⟨a, e, _⟩ => decide_eq_true (List.getElem?_eq_some_iff.mp e).1
  | .exn a dd ns ds, _, ⟨_, _, r, _⟩ => RVs.isBelow ds r
theorem RVs.isBelow : ∀ (ds : List D) {vs : List V}, RVs K m H ds vs → D.blws m.length ds = true
  | [], _, _ => rfl
  | d :: ds, _, ⟨v, vs', e, r, t⟩ => by
    show (D.blw m.length d && D.blws m.length ds) = true
    rw [RV.isBelow d r, RVs.isBelow ds t]; rfl
end
theorem RF.cut : ∀ {fs : List (Str × D)} {gs : List (Str × V)}, RF K m H fs gs → (fs.all fun p => p.2.blw n) = true → RF K (m.take n) H fs gs
  | [], _, h, _ => h
  | p :: fs, _, ⟨v, gs', e, r, t⟩, b => by
    rw [List.all_cons, Bool.and_eq_true] at b
    exact ⟨v, gs', e, RV.cut _ r b.1, RF.cut t b.2⟩
theorem RD0.cut : ∀ {fs : List (D × D)} {gs : List (Key × V)}, RD0 K m H fs gs → (fs.all fun p => p.2.blw n) = true → RD0 K (m.take n) H fs gs
  | [], _, h, _ => h
  | p :: fs, _, ⟨q, v, gs', e, hk, r, t⟩, b => by
    rw [List.all_cons, Bool.and_eq_true] at b
    exact ⟨q, v, gs', e, hk, RV.cut _ r b.1, RD0.cut t b.2⟩
theorem RD1.cut : ∀ {fs : List (D × D)} {gs : List (List Key × V)}, RD1 K m H fs gs → (fs.all fun p => p.2.blw n) = true → RD1 K (m.take n) H fs gs
  | [], _, h, _ => h
  | p :: fs, _, ⟨q, v, gs', e, hk, r, t⟩, b => by
    rw [List.all_cons, Bool.and_eq_true] at b
    exact ⟨q, v, gs', e, hk, RV.cut _ r b.1, RD1.cut t b.2⟩
mutual
theorem nkey_blw {n : Nat} : ∀ (d : D) {k : NestedKey}, nkey d = some k → d.blw n = true
  | .non, _, _ => rfl
  | .int _, _, _ => rfl
  | .str _, _, _ => rfl
  | .tup ds, _, h => by
    unfold nkey at h
    cases e : nkeys ds with
    | none => rw [e] at h; cases h
    | some ks => exact nkeys_blw ds e
  | .bl _, _, h => by cases h
  | .frl _, _, h => by cases h
  | .ref _, _, h => by cases h
  | .exn _ _ _ _, _, h => by cases h
theorem nkeys_blw {n : Nat} : ∀ (ds : List D) {ks : List NestedKey}, nkeys ds = some ks → D.blws n ds = true
  | [], _, _ => rfl
  | d :: ds, _, h => by
    unfold nkeys at h
    cases e : nkey d with
    | none => rw [e] at h; cases h
    | some k =>
      cases e2 : nkeys ds with
      | none => rw [e, e2] at h; cases h
      | some ks =>
        show (D.blw n d && D.blws n ds) = true
        rw [nkey_blw d e, nkeys_blw ds e2]; rfl
end
theorem RD2.cut : ∀ {fs : List (D × D)} {xs : List (NestedKey × Addr × Value)}, RD2 K m H fs xs → (fs.all fun p => p.2.blw n) = true → RD2 K (m.take n) H fs xs
  | [], _, h, _ => h
  | p :: fs, _, ⟨q, b, v, u, xs', e, hk, hd, r1, r2, r3, t⟩, bb => by
    rw [List.all_cons, Bool.and_eq_true] at bb
    exact ⟨q, b, v, u, xs', e, hk, hd, RV.cut _ r1 (nkey_blw _ hk), RV.cut _ r2 bb.1, r3, RD2.cut t bb.2⟩
theorem RD2.isBelow : ∀ {fs : List (D × D)} {xs : List (NestedKey × Addr × Value)}, RD2 K m H fs xs → (fs.all fun p => p.2.blw m.length) = true
  | [], _, _ => rfl
  | p :: fs, _, ⟨q, b, v, u, xs', e, hk, hd, r1, r2, r3, t⟩ => by rw [List.all_cons, RV.isBelow _ r2, RD2.isBelow t]; rfl
theorem RF.isBelow : ∀ {fs : List (Str × D)} {gs : List (Str × V)}, RF K m H fs gs → (fs.all fun p => p.2.blw m.length) = true
  | [], _, _ => rfl
  | p :: fs, _, ⟨v, gs', e, r, t⟩ => by rw [List.all_cons, RV.isBelow _ r, RF.isBelow t]; rfl
theorem RD0.isBelow : ∀ {fs : List (D × D)} {gs : List (Key × V)}, RD0 K m H fs gs → (fs.all fun p => p.2.blw m.length) = true
  | [], _, _ => rfl
  | p :: fs, _, ⟨q, v, gs', e, hk, r, t⟩ => by rw [List.all_cons, RV.isBelow _ r, RD0.isBelow t]; rfl
theorem RD1.isBelow : ∀ {fs : List (D × D)} {gs : List (List Key × V)}, RD1 K m H fs gs → (fs.all fun p => p.2.blw m.length) = true
  | [], _, _ => rfl
  | p :: fs, _, ⟨q, v, gs', e, hk, r, t⟩ => by rw [List.all_cons, RV.isBelow _ r, RD1.isBelow t]; rfl
theorem RO.cut {a : Addr} : ∀ {o : DO}, RO cl K m H o a → o.blw n = true → RO cl K (m.take n) H o a
  | .lst ds, ⟨vs, e, r⟩, b => ⟨vs, e, RVs.cut ds r b⟩
  | .dic 0 kvs, ⟨gs, e, r⟩, b => ⟨gs, e, r.cut b⟩
  | .dic 1 kvs, ⟨gs, e, r⟩, b => ⟨gs, e, r.cut b⟩
  | .dic 2 kvs, ⟨xs, es, ep, e, e1, e2, e3, r⟩, b => ⟨xs, es, ep, e, e1, e2, e3, r.cut b⟩
  | .dic 3 kvs, ⟨gs, o, e, r⟩, b => ⟨gs, o, e, r.cut b⟩
  | .dic 4 kvs, ⟨ds, o, vs, e0, e, e1, e2, r⟩, b => by
    subst e0
    have b' : D.blws n ds = true := by simpa [DO.blw, D.blw] using b
    exact ⟨ds, o, vs, rfl, e, e1, e2, RVs.cut ds r b'⟩
  | .dic 5 kvs, ⟨i, o, u, e0, e, r⟩, _ => ⟨i, o, u, e0, e, r⟩
  | .dic 6 kvs, ⟨xs, es, ep, o, e, e1, e2, e3, r⟩, b => ⟨xs, es, ep, o, e, e1, e2, e3, r.cut b⟩
  | .dic 7 kvs, ⟨i, ds, vs, o, u, e0, e, r, q⟩, b => by
    subst e0
    have b' : D.blws n ds = true := by simpa [DO.blw, D.blw] using b
    exact ⟨i, ds, vs, o, u, rfl, e, RVs.cut ds r b', q⟩
  | .dic (_ + 8) kvs, h, _ => h.elim
  | .ins c fs, ⟨dx, gs, e, r⟩, b => ⟨dx, gs, e, r.cut b⟩
  | .dead, h, _ => h
theorem RO.isBelow {a : Addr} : ∀ {o : DO}, RO cl K m H o a → o.blw m.length = true
  | .lst ds, ⟨vs, e, r⟩ => RVs.isBelow ds r
  | .dic 0 kvs, ⟨gs, e, r⟩ => r.isBelow
  | .dic 1 kvs, ⟨gs, e, r⟩ => r.isBelow
  | .dic 2 kvs, ⟨xs, es, ep, e, e1, e2, e3, r⟩ => r.isBelow
  | .dic 3 kvs, ⟨gs, o, e, r⟩ => r.isBelow
  | .dic 4 kvs, ⟨ds, o, vs, e0, e, e1, e2, r⟩ => by
    subst e0
    have := RVs.isBelow ds r
    simpa [DO.blw, D.blw] using this
  | .dic 5 kvs, ⟨i, o, u, e0, e, r⟩ => by
    subst e0
    rfl
  | .dic 6 kvs, ⟨xs, es, ep, o, e, e1, e2, e3, r⟩ => r.isBelow
  | .dic 7 kvs, ⟨i, ds, vs, o, u, e0, e, r, q⟩ => by
    subst e0
    have := RVs.isBelow ds r
    simpa [DO.blw, D.blw] using this
  | .dic (_ + 8) kvs, h => h.elim
  | .ins c fs, ⟨dx, gs, e, r⟩ => r.isBelow
  | .dead, h => rfl
end
def sameO (n : Nat) (a b : Option DO) : Bool := decide (b = a) || (match b with
  | some o => o.blw n
  | none => true)
def cutOk (S S' : Sto) : Bool := decide (S.length ≤ S'.length) && (List.range S.length).all fun i => sameO S.length S[i]? S'[i]?
section
variable {cl : Cl} {K : PySem.W.Frag} {m m' : List Addr} {S S' : Sto} {H H' : Hp}
theorem cutOk_below (rs : RS cl K m S H) (h : cutOk S S' = true) : S.length ≤ S'.length ∧ ∀ (i : Nat) (o : DO), i < S.length → S'[i]? = some o → o.blw S.length = true := by
  unfold cutOk at h
  rw [Bool.and_eq_true] at h
  refine ⟨of_decide_eq_true h.1, fun i o hi e => ?_⟩
  have z := List.all_eq_true.mp h.2 i (List.mem_range.mpr hi)
  unfold sameO at z
  rw [e] at z
  rw [Bool.or_eq_true] at z
  rcases z with z | z
  · have z' := of_decide_eq_true z
    obtain ⟨a, _, ro⟩ := rs.adr z'.symm
    have := ro.isBelow
    rw [rs.len] at this
    exact this
  · exact z
theorem RS.cut {n : Nat} (rs : RS cl K m S H) (hn : n ≤ S.length) (hb : ∀ (i : Nat) (o : DO), i < n → S[i]? = some o → o.blw n = true) : RS cl K (m.take n) (S.take n) H := by
  have hl := rs.len
  refine ⟨by simp; omega, fun i j a hi hj => ?_, fun l o a hs hm => ?_, rs.tb⟩
  · rw [List.getElem?_take] at hi hj
    split at hi <;> split at hj
    · exact rs.nd i j a hi hj
    all_goals simp_all
  · rw [List.getElem?_take] at hs hm
    split at hs
    · rename_i hlt
      rw [if_pos hlt] at hm
      exact (rs.obj l o a hs hm).cut (hb l o hlt hs)
    · cases hs
theorem Ext.cut (rs : RS cl K m S H) (x : Ext m m') : Ext m (m'.take S.length) := fun l a e => by
  have hl : l < S.length := by rw [← rs.len]; exact (List.getElem?_eq_some_iff.mp e).1
  rw [List.getElem?_take_of_lt hl]
  exact x l a e
end
def Exc.blw (n : Nat) (x : Exc) : Bool := match x.fs with
  | none => true
  | some fs => fs.all fun p => p.2.blw n
theorem RX.cut {K : PySem.W.Frag} {m : List Addr} {H : Hp} {n : Nat} {x : Exc} {dd : Option Addr} (r : RX K m H x dd) (b : x.blw n = true) : RX K (m.take n) H x dd := by
  unfold RX at r ⊢
  unfold Exc.blw at b
  cases e : x.fs with
  | none => rw [e] at r; exact r
  | some fs =>
    rw [e] at r b
    obtain ⟨d, gs, e1, e2, r⟩ := r
    exact ⟨d, gs, e1, e2, r.cut b⟩
def cutR (S : Sto) : Res D → Res D
  | .ok d S' => if cutOk S S' = true then (if d.blw S.length = true then .ok d (S'.take S.length) else match d with
      | .ref l => match S'[l]? with
        | some (.lst xs) => if D.blws S.length xs = true ∧ S.length ≤ l then .ok (.ref S.length) (S'.take S.length ++ [.lst xs]) else .ok d S'
        | _ => .ok d S'
      | _ => .ok d S') else .ok d S'
  | .exc x S' => if cutOk S S' = true ∧ x.blw S.length = true then .exc x (S'.take S.length) else .exc x S'
  | .stuck => .stuck
def cutF (F : List D → Sto → Res D) : List D → Sto → Res D := fun ds S => cutR S (F ds S)
section
variable {cl : Cl} {K : PySem.W.Frag} {m m' : List Addr} {S S' : Sto} {H H' : Hp} {E : XK} {Q : VK}
theorem RS.cut1 {l : Nat} {xs : List D} {a : Addr} (rs0 : RS cl K m S H) (rs : RS cl K m' S' H') (h : cutOk S S' = true) (hl : S.length ≤ l) (e : S'[l]? = some (.lst xs)) (hm : m'[l]? = some a) (hb : D.blws S.length xs = true) :
    RS cl K (m'.take S.length ++ [a]) (S'.take S.length ++ [.lst xs]) H' := by
  obtain ⟨h1, h2⟩ := cutOk_below rs0 h
  have c := rs.cut h1 h2
  have hlen : (m'.take S.length).length = S.length := by rw [c.len]; simp; omega
  have hlS : (S'.take S.length).length = S.length := by simp; omega
  have na : ∀ i : Nat, (m'.take S.length)[i]? = some a → False := fun i hi => by
    rw [List.getElem?_take] at hi
    split at hi
    · rename_i hlt
      have := rs.nd i l a hi hm
      omega
    · cases hi
  refine ⟨by simp [hlen, hlS], fun i j b hi hj => ?_, fun k o b hs hk => ?_, rs.tb⟩
  · rw [List.getElem?_append] at hi hj
    split at hi <;> split at hj
    · exact c.nd i j b hi hj
    · rename_i q1 q2
      have : b = a := by
        cases hz : j - (m'.take S.length).length with
        | zero => rw [hz] at hj; simp at hj; exact hj.symm
        | succ n => rw [hz] at hj; simp at hj
      subst this; exact (na i hi).elim
    · have : b = a := by
        cases hz : i - (m'.take S.length).length with
        | zero => rw [hz] at hi; simp at hi; exact hi.symm
        | succ n => rw [hz] at hi; simp at hi
      subst this; exact (na j hj).elim
    · have e1 : i - (m'.take S.length).length = 0 := by
        cases hz : i - (m'.take S.length).length with
        | zero => rfl
        | succ n => rw [hz] at hi; simp at hi
      have e2 : j - (m'.take S.length).length = 0 := by
        cases hz : j - (m'.take S.length).length with
        | zero => rfl
        | succ n => rw [hz] at hj; simp at hj
      omega
  · rw [List.getElem?_append] at hs hk
    rw [hlS] at hs
    rw [hlen] at hk
    have xx : Ext (m'.take S.length) (m'.take S.length ++ [a]) := Ext.snoc _ _
    split at hs
    · rename_i q1
      rw [if_pos q1] at hk
      exact (c.obj k o b hs hk).mono xx (Keep.refl _) rfl
    · rename_i q1
      rw [if_neg q1] at hk
      have e1 : k - S.length = 0 := by
        cases hz : k - S.length with
        | zero => rfl
        | succ n => rw [hz] at hs; simp at hs
      rw [e1] at hs hk
      simp at hs hk
      subst hs hk
      obtain ⟨vs, hv, r⟩ := rs.obj l _ _ e hm
      exact ⟨vs, hv, (RVs.cut xs r hb).mono xx (Keep.refl _)⟩
theorem cutR_post (rs : RS cl K m S H) {r : Res D} (h : Post cl K (RV K) m H E Q (cutR S r)) : Post cl K (RV K) m H E Q r := by
  cases r with
  | stuck => exact h
  | exc x S1 =>
    simp only [cutR] at h
    split at h
    · rename_i hc
      intro m' dd H' x' k' rs' rx
      obtain ⟨h1, h2⟩ := cutOk_below rs hc.1
      exact h _ dd H' (Ext.cut rs x') k' (rs'.cut h1 h2) (rx.cut hc.2)
    · exact h
  | ok d S1 =>
    simp only [cutR] at h
    split at h
    · rename_i hc
      split at h
      · rename_i hb
        intro m' v H' x' k' rs' rv
        obtain ⟨h1, h2⟩ := cutOk_below rs hc
        exact h _ v H' (Ext.cut rs x') k' (rs'.cut h1 h2) (RV.cut d rv hb)
      · split at h
        · rename_i l hb
          split at h
          · rename_i xs e
            split at h
            · rename_i hz
              intro m' v H' x' k' rs' rv
              obtain ⟨a, hm, rfl⟩ := rv
              have hlen : (m'.take S.length).length = S.length := by
                obtain ⟨h1, h2⟩ := cutOk_below rs hc
                rw [(rs'.cut h1 h2).len]; simp; omega
              exact h _ (.ref a) H' ((Ext.cut rs x').trans (Ext.snoc _ _)) k' (RS.cut1 rs rs' hc hz.2 e hm hz.1) ⟨a, by rw [List.getElem?_append_right (by omega), hlen]; simp, rfl⟩
            · exact h
          · exact h
        · exact h
    · exact h
end
theorem FnD.cut {P : Program} {w : World} {cl : Cl} {K : PySem.W.Frag} {mg : Str → Option Value} {base : Heap} {k n : Nat} {f : Addr} {F} (h : FnD P w cl K mg base k f n F) : FnD P w cl K mg base k f n (cutF F) := by
  obtain ⟨kp, fd, ps, hl, hb, F0⟩ := h
  have imp : ∀ vs H Q E, spD cl K n (cutF F) vs H Q E → spD cl K n F vs H Q E := fun vs H Q E ⟨m, S, ds, hl, rs, rv, h⟩ => ⟨m, S, ds, hl, rs, rv, cutR_post rs h⟩
  exact ⟨kp, fd, ps, hl, hb, fun vs H Q E h => F0.len vs H Q E (imp _ _ _ _ h), fun A outer s H args us vs Q E hr e0 hbb hv h => F0.run A outer s H args us vs Q E hr e0 hbb hv (imp _ _ _ _ h)⟩
theorem pe_frz {X : Cx} {e : Expr} {t : TE} (p : PE X e t) : PE X e (fun σ H Q => t σ H fun v H1 => Q v H1 ∨ ∃ a u, v = .ref a ∧ H1 a = some u ∧ Mut (some u) ∧ ∀ od, Q v (upd H1 a (.frz od u))) := by
  refine ⟨fun pins s σ H Q I h => ?_⟩
  refine thn (p.run pins s σ H _ I h) fun u s1 ⟨v, H1, I1, r1, q1⟩ => ?_
  rcases q1 with q | ⟨a, w, rfl, ha, mu, q⟩
  · exact ⟨v, H1, I1, r1, q⟩
  · obtain ⟨od, I2⟩ := I1.lock ha mu
    exact ⟨.ref a, _, I2, r1, q od⟩
def frzD (S0 : Sto) (d : D) (S1 : Sto) : Res D := match d with
  | .ref l => match S1[l]? with
    | some (.lst xs) => if S0.length ≤ l ∧ cutOk S0 S1 = true ∧ D.blws S0.length xs = true then .ok (.frl xs) (S1.take S0.length) else .ok (.frl xs) (S1.set l .dead)
    | _ => .ok d S1
  | _ => .ok d S1
def dFrz (f : Sl → Sto → Res D) : Sl → Sto → Res D := fun sd S => (f sd S).bind fun d S1 => frzD S d S1
theorem frz_post {cl : Cl} {K : PySem.W.Frag} {m m1 : List Addr} {S S1 : Sto} {H H1 : Hp} {E : XK} {Q : VK} {d : D} {v : V} (rs : RS cl K m S H) (h : Post cl K (RV K) m H E Q (frzD S d S1)) (x1 : Ext m m1) (k1 : Keep H H1) (rs1 : RS cl K m1 S1 H1) (rv : RV K m1 H1 d v) :
    Q v H1 ∨ ∃ a u, v = .ref a ∧ H1 a = some u ∧ Mut (some u) ∧ ∀ od, Q v (upd H1 a (.frz od u)) := by
  unfold frzD at h
  split at h
  · rename_i l
    split at h
    · rename_i xs e1
      obtain ⟨a, hm, vs, hv, r1⟩ := rs1.adr e1
      obtain ⟨a', hm', rfl⟩ := rv
      rw [hm] at hm'; cases hm'
      refine .inr ⟨a, .lst vs, rfl, hv, trivial, fun od => ?_⟩
      have kp : Keep H1 (upd H1 a (.frz od (.lst vs))) := rs1.keepPut e1 hm
      have rs2 : RS cl K m1 (S1.set l .dead) (upd H1 a (.frz od (.lst vs))) := rs1.put e1 hm ⟨od, vs, upd_same⟩
      have r2 := r1.mono (Ext.refl m1) kp
      split at h
      · rename_i hc
        obtain ⟨c1, c2, c3⟩ := hc
        obtain ⟨h3, h4⟩ := cutOk_below rs c2
        have et : (S1.set l .dead).take S.length = S1.take S.length := by
          apply List.ext_getElem?
          intro i
          rw [List.getElem?_take, List.getElem?_take]
          split
          · rw [List.getElem?_set_ne (by omega)]
          · rfl
        have rs3 := rs2.cut (n := S.length) (by simp; exact h3) (fun i o hi ho => by
          rw [List.getElem?_set_ne (by omega)] at ho
          exact h4 i o hi ho)
        rw [et] at rs3
        exact h _ _ _ (Ext.cut rs x1) (k1.trans kp) rs3 ⟨a, vs, rfl, .inl ⟨od, upd_same⟩, RVs.cut xs r2 c3⟩
      · exact h m1 _ _ x1 (k1.trans kp) rs2 ⟨a, vs, rfl, .inl ⟨od, upd_same⟩, r2⟩
    · exact .inl (h m1 v H1 x1 k1 rs1 rv)
  · exact .inl (h m1 v H1 x1 k1 rs1 rv)
theorem de_frz {cl : Cl} {X : Cx} {E : XK} {e : Expr} {f} (h : DE cl X E e f) : DE cl X E e (dFrz f) := by
  obtain ⟨t, p, he⟩ := h
  refine ⟨_, pe_frz p, fun m S H sd σ Q rs rl h => ?_⟩
  refine he m S H sd σ _ rs rl ?_
  unfold dFrz at h
  cases hr : f sd S with
  | ok d S1 => rw [hr] at h; exact fun m1 v H1 x1 k1 rs1 rv => frz_post rs h x1 k1 rs1 rv
  | exc x S1 => rw [hr] at h; exact h
  | stuck => rw [hr] at h; exact h
theorem ps_frz {X : Cx} {st : Stmt} {t : TS} (p : PS X st t) : PS X st (fun D σ H => t { D with nx := fun σ' H' => D.nx σ' H' ∨ ∃ a u, H' a = some u ∧ Mut (some u) ∧ ∀ od, D.nx σ' (upd H' a (.frz od u)) } σ H) := by
  refine ⟨fun pins s σ H D I h => ?_⟩
  refine thn (p.run pins s σ H _ I h) fun f s1 q => ?_
  cases f with
  | next =>
    obtain ⟨σ', H', I', q⟩ := q
    rcases q with q | ⟨a, u, ha, mu, q⟩
    · exact ⟨σ', H', I', q⟩
    · obtain ⟨od, I2⟩ := I'.lock ha mu
      exact ⟨σ', _, I2, q od⟩
  | _ => exact q
section
variable {cl : Cl} {X : Cx} {E : XK} {elt tg iter : Expr} {ifs : List Expr} {scope : Scope} {own : List (Str × Nat)} {pos : Pos} {fi : Sl → Sto → Res ItD} {ga : D → Sl → Sto → Res Sl} {ft : Sl → Sto → Res Bool} {fe : Sl → Sto → Res D}
theorem ds_compF {i : Nat} {y : Str} {py spos : Pos} (hc : X.calm = true) (hN : X.N.Nodup) (hy : X.N[i]? = some y) (hyl : X.env.scope.names.lookup y = some .local)
    (hsw : swapsWith (.ListComp elt [⟨tg, iter, ifs, 0⟩] scope pos) (some (.Name y py)) spos.line X.env = pure true) (hi : DI cl X E tg iter fi) (ok : BlkOk X.N X.env.scope scope own)
    (hg : ∀ (s : Shared) (H : Hp) (C : Addr) (c : List (Str × Addr)) (fp : List Addr), DGw cl (X.blk s H scope (compEnvC scope c C X.env) fp) E0 (own.map (·.2)) tg ga)
    (ht : ∀ (s : Shared) (H : Hp) (C : Addr) (c : List (Str × Addr)) (fp : List Addr), DTs cl (X.blk s H scope (compEnvC scope c C X.env) fp) E0 ifs ft)
    (he : ∀ (s : Shared) (H : Hp) (C : Addr) (c : List (Str × Addr)) (fp : List Addr), DE cl (X.blk s H scope (compEnvC scope c C X.env) fp) E0 elt fe)
    (hs : ∀ x, foldedSetIterable iter X.env x = pure x := by intro _; rfl) :
    DS cl X E (.Assign [.Name y py] (.ListComp elt [⟨tg, iter, ifs, 0⟩] scope pos) spos) (sAsg (dFrz (dComp (own.map (·.2)) fi ga ft fe)) (gVar i)) := by
  obtain ⟨wi, pi, hi⟩ := hi
  refine ⟨_, ps_frz (t := tAsg (tLc wi (fun v σ H Q => ∃ m S sd d, RS cl X.K m S H ∧ RSl X.K m H sd σ ∧ RV X.K m H d v ∧ Post cl X.K (RSl X.K) m H E0 (fun σ2 H2 => wipe σ2 (own.map (·.2)) = wipe σ (own.map (·.2)) → Q σ2 H2) (ga d sd S))
      (fun σ H Q => ∃ m S sd, RS cl X.K m S H ∧ RSl X.K m H sd σ ∧ Post cl X.K RBool m H E0 Q (ft sd S))
      (fun σ H Q => ∃ m S sd, RS cl X.K m S H ∧ RSl X.K m H sd σ ∧ Post cl X.K (RV X.K) m H E0 Q (fe sd S)) (own.map (·.2))) (gName i)) (ps_setLc hc hN hy hyl hsw pi ok (fun s H C c fp => ?_) (fun s H C c fp => ?_) (fun s H C c fp => ?_) hs), ?_⟩
  · obtain ⟨g, pg, og, hg⟩ := hg s H C c fp
    exact ⟨fun pins s σ H v u Q I r ⟨m, S, sd, d, rs, rl, rv, h⟩ => pg.run pins s σ H v u Q I r (og.mono _ _ _ _ _ (fun σ2 H2 z => z.2 z.1) (og.own _ _ _ _ (hg m S H sd σ d v _ rs rl rv h)))⟩
  · obtain ⟨t, p, ht⟩ := ht s H C c fp
    exact ⟨fun pins s σ H Q I ⟨m, S, sd, rs, rl, h⟩ => p.run pins s σ H Q I (ht m S H sd σ Q rs rl h)⟩
  · obtain ⟨t, p, he⟩ := he s H C c fp
    exact ⟨fun pins s σ H Q I ⟨m, S, sd, rs, rl, h⟩ => p.run pins s σ H Q I (he m S H sd σ Q rs rl h)⟩
  · intro m S H sd σ D rs rl h
    have key : Post cl X.K (RV X.K) m H E (fun v H1 => (fun σ' H' => D.nx σ' H' ∨ ∃ a u, H' a = some u ∧ Mut (some u) ∧ ∀ od, D.nx σ' (upd H' a (.frz od u))) (σ.set i (some v)) H1) (dComp (own.map (·.2)) fi ga ft fe sd S) := by
      unfold sAsg dFrz at h
      cases hr : dComp (own.map (·.2)) fi ga ft fe sd S with
      | stuck => rw [hr] at h; exact h
      | exc x S1 => rw [hr] at h; exact h
      | ok d S1 =>
        rw [hr] at h
        intro m1 v H1 x1 k1 rs1 rv
        have h2 : Post cl X.K (RV X.K) m H E (fun v H1 => D.nx (σ.set i (some v)) H1) (frzD S d S1) := by
          have h' : Post cl X.K (RFl X.K) m H E (endQ D) ((frzD S d S1).bind fun d S1 => .ok (.nx (sd.set i (some d))) S1) := h
          cases hf : frzD S d S1 with
          | stuck => rw [hf] at h'; exact h'
          | exc x S2 => rw [hf] at h'; exact h'
          | ok d2 S2 =>
            rw [hf] at h'
            intro m2 v2 H2 x2 k2 rs2 rv2
            exact h' m2 (.nx (σ.set i (some v2))) H2 x2 k2 rs2 ((rl.mono x2 k2).set i rv2)
        rcases frz_post rs h2 x1 k1 rs1 rv with z | ⟨a, u, e, ha, mu, z⟩
        · exact .inl z
        · exact .inr ⟨a, u, ha, mu, z⟩
    exact comp_core X rfl hi ⟨fun v σ H Q Q' hq ⟨m, S, sd, d, rs, rl, rv, h⟩ => ⟨m, S, sd, d, rs, rl, rv, h.imp fun σ2 H2 z w => hq _ _ (z w)⟩, fun v σ H Q ⟨m, S, sd, d, rs, rl, rv, h⟩ => ⟨m, S, sd, d, rs, rl, rv, h.imp fun σ2 H2 z w => ⟨w, z w⟩⟩⟩
      (fun m S H sd σ d v Q rs rl rv h => ⟨m, S, sd, d, rs, rl, rv, Post.imp (Q' := fun σ2 H2 => wipe σ2 (own.map (·.2)) = wipe σ (own.map (·.2)) → Q σ2 H2) (fun σ2 H2 z _ => z) h⟩) (fun m S H sd σ Q rs rl h => ⟨m, S, sd, rs, rl, h⟩) (fun m S H sd σ Q rs rl h => ⟨m, S, sd, rs, rl, h⟩) m S H sd σ _ rs rl key
end
end DL

namespace DL
open PySem PySem.Spec PyProof.Rows L2
section
variable {cl : Cl} {K : PySem.W.Frag} {m : List Addr} {S : Sto} {H : Hp} {ds : List D} {vs : List V} {p : Addr} {E : XK} {Q : VK}
theorem newFrl (rs : RS cl K m S H) (r : RVs K m H ds vs) (hp : H p = none) (h : Post cl K (RV K) m H E Q (.ok (.frl ds) S)) :
    Q (.ref p) (upd H p (.lst vs)) ∨ ∃ a u, V.ref p = .ref a ∧ (upd H p (.lst vs)) a = some u ∧ Mut (some u) ∧ ∀ od, Q (.ref p) (upd (upd H p (.lst vs)) a (.frz od u)) :=
  .inr ⟨p, .lst vs, rfl, upd_same, trivial, fun od => by
    rw [upd_upd]
    exact h m _ _ (Ext.refl m) (Keep.new hp) (rs.ext hp) ⟨p, vs, rfl, .inl ⟨od, upd_same⟩, r.mono (Ext.refl m) (Keep.new hp)⟩⟩
end
def dLstF (f : Sl → Sto → Res (List D)) : Sl → Sto → Res D := fun sd S => (f sd S).bind fun ds S1 => if ds.length ≤ sizeLine then .ok (.frl ds) S1 else .stuck
theorem opr_frz {X : Cx} {f : Value → Value → Sem Value} {r : R2} (h : OpR X f r) : OpR X f (fun x y H Q => r x y H fun v H1 => Q v H1 ∨ ∃ a u, v = .ref a ∧ H1 a = some u ∧ Mut (some u) ∧ ∀ od, Q v (upd H1 a (.frz od u))) := by
  intro pins s σ H x y v u Q I rx ry hh
  refine thn (h pins s σ H x y v u _ I rx ry hh) fun u s1 ⟨v, H1, I1, r1, q1⟩ => ?_
  rcases q1 with q | ⟨a, w, rfl, ha, mu, q⟩
  · exact ⟨v, H1, I1, r1, q⟩
  · obtain ⟨od, I2⟩ := I1.lock ha mu
    exact ⟨.ref a, _, I2, r1, q od⟩
theorem callr_frz {X : Cx} {f : Value} {r} (h : CallR X f r) : CallR X f (fun xs H Q => r xs H fun v H1 => Q v H1 ∨ ∃ a u, v = .ref a ∧ H1 a = some u ∧ Mut (some u) ∧ ∀ od, Q v (upd H1 a (.frz od u))) := by
  intro pins s σ H xs us Q I rx hh
  refine thn (h pins s σ H xs us _ I rx hh) fun u s1 ⟨v, H1, I1, r1, q1⟩ => ?_
  rcases q1 with q | ⟨a, w, rfl, ha, mu, q⟩
  · exact ⟨v, H1, I1, r1, q⟩
  · obtain ⟨od, I2⟩ := I1.lock ha mu
    exact ⟨.ref a, _, I2, r1, q od⟩
def addF : D → D → Sto → Res D
  | .int a, .int b, S => .ok (.int (a + b)) S
  | .str a, .str b, S => if a.length + b.length ≤ sizeLine then .ok (.str (a ++ b)) S else .stuck
  | .tup a, .tup b, S => if a.length + b.length ≤ sizeLine then .ok (.tup (a ++ b)) S else .stuck
  | a, b, S => match lsD a S, lsD b S with
    | some x, some y => if x.length + y.length ≤ sizeLine then .ok (.frl (x ++ y)) S else .stuck
    | _, _ => .stuck
def sliceF (x : D) (lo hi : Option Int) (S : Sto) : Res D := match x with
  | .tup ds => .ok (.tup (cutL ds lo hi)) S
  | .str z => if z.length ≤ sizeLine then .ok (.str (cutS z lo hi)) S else .stuck
  | x => match lsD x S with
    | some ds => .ok (.frl (cutL ds lo hi)) S
    | _ => .stuck
def dSliceF (f : Sl → Sto → Res D) (g h : Sl → Sto → Res (Option Int)) : Sl → Sto → Res D := fun sd S => (f sd S).bind fun x S1 => (g sd S1).bind fun lo S2 => (h sd S2).bind fun hi S3 => sliceF x lo hi S3
def listF : List D → Sto → Res D
  | [d], S => match seqD d S with
    | some ds => .ok (.frl ds) S
    | none => .stuck
  | _, _ => .stuck
section
variable {cl : Cl} {X : Cx} {E : XK} {a b : Expr} {fa fb : Sl → Sto → Res D} {pos : Pos}
theorem de_lstF {es : List Expr} {f pos} (h : DA cl X E es f) : DE cl X E (.List es pos) (dLstF f) := by
  obtain ⟨t, p, h⟩ := h
  refine ⟨_, pe_frz (pe_lst p), fun m S H sd σ Q rs rl hh => ?_⟩
  refine h m S H sd σ _ rs rl (Post.bind hh fun ds S1 m1 vs H1 x1 k1 rs1 rv1 h1 => ?_)
  split at h1
  · rename_i hz
    exact ⟨by rw [← rv1.length]; exact hz, fun p hp => newFrl rs1 rv1 hp h1⟩
  · exact h1.elim
theorem op_addF : OpD cl X (binaryOp .Add) addF := by
  refine ⟨_, opr_frz (((op_add.or op_add_str).or op_catA).or op_catS), fun E m S H x y vx vy Q rs rx ry h => ?_⟩
  unfold addF at h
  split at h
  · rename_i a b
    cases rx; cases ry
    exact .inl (.inl (.inl ⟨_, _, rfl, rfl, .inl (h.here rs rfl)⟩))
  · rename_i a b
    cases rx; cases ry
    split at h
    · rename_i hz
      exact .inl (.inl (.inr ⟨_, _, rfl, rfl, hz, .inl (h.here rs rfl)⟩))
    · exact h.elim
  · rename_i a b
    split at h
    · rename_i hz
      obtain ⟨p, vs, rfl, s1, r1⟩ := rx
      obtain ⟨q, ws, rfl, s2, r2⟩ := ry
      refine .inl (.inr ⟨p, q, vs, ws, rfl, rfl, s1, s2, by rw [← r1.length, ← r2.length]; exact hz, fun e => ?_, fun e1 e2 => ?_, fun e1 e2 p' hp => ?_⟩)
      · subst e
        have : a = [] := List.eq_nil_of_length_eq_zero r1.length
        subst this
        exact .inl (h.here rs ⟨q, ws, rfl, s2, r2⟩)
      · subst e2
        have : b = [] := List.eq_nil_of_length_eq_zero r2.length
        subst this
        exact .inl (h.here rs ⟨p, vs, rfl, s1, by rw [List.append_nil]; exact r1⟩)
      · obtain ⟨a1, b1⟩ := newTup rs (r1.append r2) hp
        exact .inl (h _ _ _ (Ext.refl m) (Keep.new hp) a1 b1)
    · exact h.elim
  · rename_i a b _ _ _
    split at h
    · rename_i x y e1 e2
      split at h
      · rename_i hz
        obtain ⟨p, vs, rfl, hv, r1⟩ := ls_rv rs rx e1
        obtain ⟨q, ws, rfl, hw, r2⟩ := ls_rv rs ry e2
        exact .inr ⟨p, q, vs, ws, rfl, rfl, hv, hw, by rw [← r1.length, ← r2.length]; exact hz, fun p' hp => newFrl rs (r1.append r2) hp h⟩
      · exact h.elim
    · exact h.elim
theorem de_sliceF {lo hi : Option Expr} {p2 : Pos} {fl fh} (ha : DE cl X E a fa) (hl : DPO cl X E lo fl) (hh : DPO cl X E hi fh) : DE cl X E (.Subscript a (.Slice lo hi none p2) pos) (dSliceF fa fl fh) := by
  obtain ⟨t, p, ha⟩ := ha
  obtain ⟨t1, p1, hl⟩ := hl
  obtain ⟨t2, p2', hh⟩ := hh
  refine ⟨_, pe_frz (pe_slice ((sl_list.or sl_tupA).or sl_str) p p1 p2'), fun m S H sd σ Q rs rl h => ?_⟩
  refine ha m S H sd σ _ rs rl (Post.bind h fun x S1 m1 vx H1 x1 k1 rs1 rx h1 => ?_)
  refine hl m1 S1 H1 sd σ _ rs1 (rl.mono x1 k1) (Post.bind h1 fun l S2 m2 vl H2 x2 k2 rs2 rll h2 => ?_)
  refine hh m2 S2 H2 sd σ _ rs2 (rl.mono (x1.trans x2) (k1.trans k2)) (Post.bind h2 fun u S3 m3 vu H3 x3 k3 rs3 ru h3 => ?_)
  cases rll; cases ru
  have rx3 := RV.mono (x2.trans x3) (k2.trans k3) x rx
  unfold sliceF at h3
  split at h3
  · obtain ⟨a, vs, rfl, s1, r1⟩ := rx3
    refine .inl (.inr ⟨a, vs, rfl, s1, fun e => ?_, fun e p' hp => ?_⟩)
    · rw [← r1.length] at e
      rw [sIx_whole e] at h3
      exact .inl (h3.here rs3 ⟨a, vs, rfl, s1, r1⟩)
    · obtain ⟨a1, b1⟩ := newTup rs3 (cut_rv r1 l u) hp
      exact .inl (h3 _ _ _ (Ext.refl _) (Keep.new hp) a1 b1)
  · cases rx3
    split at h3
    · rename_i hz
      exact .inr ⟨_, rfl, hz, .inl (h3.here rs3 rfl)⟩
    · exact h3.elim
  · split at h3
    · rename_i ds e1
      obtain ⟨a, vs, rfl, hv, r1⟩ := ls_rv rs3 rx3 e1
      exact .inl (.inl ⟨a, vs, rfl, hv, fun p' hp => newFrl rs3 (cut_rv r1 l u) hp h3⟩)
    · exact h3.elim
theorem cd_listF : CallD cl X (.type "list") listF := by
  refine ⟨_, callr_frz call_list_of, fun E m S H ds vs Q rs rv h => ?_⟩
  unfold listF at h
  split at h
  · rename_i d
    obtain ⟨v, rfl, r⟩ := rvs1 rv
    split at h
    · rename_i es e1
      obtain ⟨a, ws, rfl, hs, r1⟩ := seq_rv rs r e1
      exact ⟨a, ws, rfl, hs, fun l hl => newFrl rs r1 hl h⟩
    · exact h.elim
  · exact h.elim
end
end DL

namespace DL
open PySem PySem.Spec PyProof.Rows L2
section
variable {X : Cx} {pins : List (Addr × Obj)} {σ : L2.St} {H : Hp} {s : Shared}
end
theorem key0_rv {K : PySem.W.Frag} {m : List Addr} {H : Hp} {d : D} {v : V} {k : Key} (h : key0 d = some k) (r : RV K m H d v) : v = kV k := by
  cases d <;> simp only [key0] at h <;> cases h <;> exact r
theorem key0_eq {a b : D} {j k : Key} (ha : key0 a = some j) (hb : key0 b = some k) : a = b ↔ j = k := by
  constructor
  · intro e; subst e; rw [ha] at hb; cases hb; rfl
  · intro e; subst e
    cases a <;> simp only [key0] at ha <;> cases ha <;> cases b <;> simp only [key0] at hb <;> cases hb <;> rfl
def RVp (K : PySem.W.Frag) (m : List Addr) (H : Hp) : List (D × D) → List (V × V) → Prop
  | [], vs => vs = []
  | p :: ps, vs => ∃ a b vs', vs = (a, b) :: vs' ∧ RV K m H p.1 a ∧ RV K m H p.2 b ∧ RVp K m H ps vs'
def RVo (K : PySem.W.Frag) (m : List Addr) (H : Hp) : Option D → Option V → Prop
  | none, o => o = none
  | some d, o => ∃ v, o = some v ∧ RV K m H d v
def keysOk (ps : List (D × D)) : Bool := ps.all fun p => (key0 p.1).isSome
def dgl (y : D) : List (D × D) → Option D → Option D
  | [], acc => acc
  | p :: r, acc => dgl y r (if p.1 = y then some p.2 else acc)
def putD (kvs : List (D × D)) (k v : D) : List (D × D) := if kvs.any (fun p => decide (p.1 = k)) then kvs.map fun p => if p.1 = k then (p.1, v) else p else kvs ++ [(k, v)]
def mergeD (kvs more : List (D × D)) : List (D × D) := more.foldl (fun acc p => putD acc p.1 p.2) kvs
def getK (kvs : List (D × D)) (k : D) : Option D := (kvs.find? fun p => decide (p.1 = k)).map (·.2)
section
variable {K : PySem.W.Frag} {m m' : List Addr} {H H' : Hp}
theorem RVp.mono (x : Ext m m') (k : Keep H H') : ∀ {ps : List (D × D)} {vs : List (V × V)}, RVp K m H ps vs → RVp K m' H' ps vs
  | [], _, h => h
  | _ :: _, _, ⟨a, b, vs', e, r1, r2, t⟩ => ⟨a, b, vs', e, RV.mono x k _ r1, RV.mono x k _ r2, RVp.mono x k t⟩
theorem RVp.keys : ∀ {ps : List (D × D)} {vs : List (V × V)}, RVp K m H ps vs → keysOk ps = true → ∃ kvs : List (Key × V), vs = kvs.map (fun kv => (kV kv.1, kv.2)) ∧ RD0 K m H ps kvs ∧ kvs.length = ps.length
  | [], _, h, _ => by cases h; exact ⟨[], rfl, rfl, rfl⟩
  | p :: ps, _, ⟨a, b, vs', e, r1, r2, t⟩, h => by
    unfold keysOk at h
    rw [List.all_cons, Bool.and_eq_true] at h
    obtain ⟨kvs, e1, r, l⟩ := RVp.keys t h.2
    obtain ⟨k, hk⟩ := Option.isSome_iff_exists.mp h.1
    have := key0_rv hk r1
    subst this e e1
    exact ⟨(k, b) :: kvs, rfl, ⟨k, b, kvs, rfl, hk, r2, r⟩, by simp [l]⟩
theorem RD0.any : ∀ {ps : List (D × D)} {gs : List (Key × V)} {d : D} {k : Key}, RD0 K m H ps gs → key0 d = some k → (ps.any fun p => decide (p.1 = d)) = gs.any fun kv => decide (kv.1 = k)
  | [], _, _, _, h, _ => by cases h; rfl
  | p :: ps, _, d, k, ⟨j, v, gs', e, hj, r, t⟩, hk => by
    subst e
    rw [List.any_cons, List.any_cons, RD0.any t hk]
    congr 1
    exact decide_eq_decide.mpr (key0_eq hj hk)
theorem RD0.repl {d x : D} {k : Key} {v : V} (hk : key0 d = some k) (rx : RV K m H x v) : ∀ {ps : List (D × D)} {gs : List (Key × V)}, RD0 K m H ps gs → RD0 K m H (ps.map fun p => if p.1 = d then (p.1, x) else p) (gs.map fun kv => if kv.1 = k then (kv.1, v) else kv)
  | [], _, h => by cases h; exact rfl
  | p :: ps, _, ⟨j, u, gs', e, hj, r, t⟩ => by
    subst e
    rw [List.map_cons, List.map_cons]
    by_cases z : p.1 = d
    · rw [if_pos z, if_pos ((key0_eq hj hk).mp z)]
      exact ⟨j, v, _, rfl, hj, rx, RD0.repl hk rx t⟩
    · rw [if_neg z, if_neg (fun q => z ((key0_eq hj hk).mpr q))]
      exact ⟨j, u, _, rfl, hj, r, RD0.repl hk rx t⟩
theorem RD0.snoc {d x : D} {k : Key} {v : V} (hk : key0 d = some k) (rx : RV K m H x v) : ∀ {ps : List (D × D)} {gs : List (Key × V)}, RD0 K m H ps gs → RD0 K m H (ps ++ [(d, x)]) (gs ++ [(k, v)])
  | [], _, h => by cases h; exact ⟨k, v, [], rfl, hk, rx, rfl⟩
  | p :: ps, _, ⟨j, u, gs', e, hj, r, t⟩ => by subst e; exact ⟨j, u, _, rfl, hj, r, RD0.snoc hk rx t⟩
theorem RD0.put {d x : D} {k : Key} {v : V} {ps : List (D × D)} {gs : List (Key × V)} (r : RD0 K m H ps gs) (hk : key0 d = some k) (rx : RV K m H x v) : RD0 K m H (putD ps d x) (putK gs k v) := by
  unfold putD putK
  rw [RD0.any r hk]
  split
  · exact RD0.repl hk rx r
  · exact RD0.snoc hk rx r
theorem RD0.len : ∀ {ps : List (D × D)} {gs : List (Key × V)}, RD0 K m H ps gs → gs.length = ps.length
  | [], _, h => by cases h; rfl
  | p :: ps, _, ⟨j, u, gs', e, hj, r, t⟩ => by subst e; simp [RD0.len t]
theorem RD0.get : ∀ {ps : List (D × D)} {gs : List (Key × V)} {d : D} {k : Key}, RD0 K m H ps gs → key0 d = some k → RVo K m H (getK ps d) (valV gs k)
  | [], _, _, _, h, _ => by cases h; exact rfl
  | p :: ps, _, d, k, ⟨j, v, gs', e, hj, r, t⟩, hk => by
    subst e
    by_cases z : p.1 = d
    · rw [valV_pos ((key0_eq hj hk).mp z)]
      simp only [getK, List.find?_cons, z, decide_true, Option.map_some]
      exact ⟨v, rfl, r⟩
    · rw [valV_neg (fun q => z ((key0_eq hj hk).mpr q))]
      have := RD0.get t hk
      simp only [getK, List.find?_cons, z, decide_false] at this ⊢
      exact this
theorem RD0.dgl {d : D} {k : Key} (hk : key0 d = some k) : ∀ {ps : List (D × D)} {gs : List (Key × V)} {o : Option D} {u : Option V}, RD0 K m H ps gs → RVo K m H o u → RVo K m H (DL.dgl d ps o) (gs.foldl (fun acc kv => if kv.1 = k then some kv.2 else acc) u)
  | [], _, _, _, h, r => by cases h; exact r
  | p :: ps, _, o, u, ⟨j, v, gs', e, hj, r1, t⟩, r => by
    subst e
    show RVo K m H (DL.dgl d ps (if p.1 = d then some p.2 else o)) _
    rw [List.foldl_cons]
    refine RD0.dgl hk t ?_
    by_cases z : p.1 = d
    · rw [if_pos z, if_pos ((key0_eq hj hk).mp z)]
      exact ⟨v, rfl, r1⟩
    · rw [if_neg z, if_neg (fun q => z ((key0_eq hj hk).mpr q))]
      exact r
theorem RVo.mono (x : Ext m m') (k : Keep H H') : ∀ {o : Option D} {u : Option V}, RVo K m H o u → RVo K m' H' o u
  | none, _, h => h
  | some _, _, ⟨v, e, r⟩ => ⟨v, e, RV.mono x k _ r⟩
theorem RVo.getD {d : D} {v : V} (r : RV K m H d v) : ∀ {o : Option D} {u : Option V}, RVo K m H o u → RV K m H (o.getD d) (u.getD v)
  | none, _, h => by cases h; exact r
  | some _, _, ⟨v, e, q⟩ => by subst e; exact q
theorem RVo.isSome : ∀ {o : Option D} {u : Option V}, RVo K m H o u → o.isSome = u.isSome
  | none, _, h => by cases h; rfl
  | some _, _, ⟨v, e, q⟩ => by subst e; rfl
end
def pNil : Sl → Sto → Res (List (D × D)) := fun _ S => .ok [] S
def pCons (fk fv : Sl → Sto → Res D) (g : Sl → Sto → Res (List (D × D))) : Sl → Sto → Res (List (D × D)) := fun sd S =>
  (fk sd S).bind fun k S1 => (fv sd S1).bind fun v S2 => (g sd S2).bind fun ds S3 => .ok ((k, v) :: ds) S3
section
variable {cl : Cl} {X : Cx} {E : XK} {dpos apos cpos pos : Pos} {o e f : Expr} {fo fe ff : Sl → Sto → Res D} {fp : Sl → Sto → Res (List (D × D))} {keys : List (Option Expr)} {values : List Expr}
def dDispGet (fp : Sl → Sto → Res (List (D × D))) (fe ff : Sl → Sto → Res D) : Sl → Sto → Res D := fun sd S => (fp sd S).bind fun ps S1 => match keysOk ps with
  | false => .stuck
  | true => (fe sd S1).bind fun y S2 => match (key0 y).isSome with
    | false => .stuck
    | true => (ff sd S2).bind fun z S3 => .ok ((dgl y ps none).getD z) S3
def dDisp (fp : Sl → Sto → Res (List (D × D))) : Sl → Sto → Res D := fun sd S => (fp sd S).bind fun ps S1 => match keysOk ps && decide (ps.length ≤ 15) with
  | false => .stuck
  | true => .ok (.ref S1.length) (S1 ++ [.dic 0 (mergeD [] ps)])
theorem newDic {m : List Addr} {S : Sto} {H : Hp} {ds : List (D × D)} {vs : List (Key × V)} {p : Addr} {K : PySem.W.Frag} (rs : RS cl K m S H) (r : RD0 K m H ds vs) (hp : H p = none) :
    RS cl K (m ++ [p]) (S ++ [.dic 0 ds]) (upd H p (.dK vs)) ∧ RV K (m ++ [p]) (upd H p (.dK vs)) (.ref S.length) (.ref p) :=
  ⟨rs.new hp ⟨vs, upd_same, r.mono (Ext.snoc m p) (Keep.new hp)⟩, p, by rw [← rs.len]; simp, rfl⟩
def dDisp0 : Sl → Sto → Res D := fun _ S => .ok (.ref S.length) (S ++ [.dic 0 []])
theorem de_disp0 : DE cl X E (.Dict [] [] dpos) dDisp0 :=
  ⟨_, pe_dnewK, fun m S H sd σ Q rs rl h p hp => by
    obtain ⟨a, b⟩ := newDic rs (ds := []) (vs := []) rfl hp
    exact h _ _ _ (Ext.snoc m p) (Keep.new hp) a b⟩
def dicD (d k : D) (S : Sto) : Option (Option D) := match d with
  | .ref l => match S[l]? with
    | some (.dic 0 kvs) => match (key0 k).isSome with
      | true => some (getK kvs k)
      | false => none
    | _ => none
  | _ => none
def dDget (fo fe ff : Sl → Sto → Res D) : Sl → Sto → Res D := fun sd S => (fo sd S).bind fun x S1 => match dicD x (.int 0) S1 with
  | none => .stuck
  | some _ => (fe sd S1).bind fun y S2 => (ff sd S2).bind fun z S3 => match dicD x y S3 with
    | some r => .ok (r.getD z) S3
    | none => .stuck
end
end DL

namespace DL
open PySem PySem.Spec PyProof.Rows L2
structure KDg (K : PySem.W.Frag) (w : World) (mg : Str → Option Value) (x : Str) (kvs : List (Str × D)) : Prop where
  g : mg x = some (.ref (He.ga K x))
  d : ∃ es n, KDict K w (He.ga K x) es n
  hit : ∀ z c, kvs.lookup z = some c → ∃ u v, PySem.W.nsIn K (He.ga K x) z = some (some u) ∧ RelV v u ∧ ∀ m H, RV K m H c v
  miss : ∀ z, kvs.lookup z = none → PySem.W.nsIn K (He.ga K x) z = some none
section
variable {cl : Cl} {X : Cx} {E : XK} {apos cpos pos : Pos} {o e f : Expr} {fe ff : Sl → Sto → Res D} {td ty tx : TE}
def kdGet (kvs : List (Str × D)) : D → Option (Option D)
  | .str z => some (kvs.lookup z)
  | .int _ => some none
  | _ => none
def dKget (kvs : List (Str × D)) (fe ff : Sl → Sto → Res D) : Sl → Sto → Res D := fun sd S => (fe sd S).bind fun y S1 => match kdGet kvs y with
  | some r => (ff sd S1).bind fun x S2 => .ok (r.getD x) S2
  | none => .stuck
end
end DL

namespace DL
open PySem PySem.Spec PyProof.Rows L2
def setDic (o i v : D) (S : Sto) : Res Unit := match o with
  | .ref l => match S[l]? with
    | some (.dic 0 kvs) => match (key0 i).isSome && decide (kvs.length < sizeLine) with
      | true => .ok () (S.set l (.dic 0 (putD kvs i v)))
      | false => .stuck
    | _ => .stuck
  | _ => .stuck
section
variable {cl : Cl} {X : Cx}
theorem set_dicD (hu : X.A.units + 65 < cLine) : SetD cl X setDic := by
  refine ⟨_, set_dict (by omega), fun E m S H o i v vo vi vv Q rs ro ri rv h => ?_⟩
  unfold setDic at h
  split at h
  · rename_i l
    split at h
    · rename_i kvs e1
      obtain ⟨a, h1, gs, hv, r1⟩ := rs.adr e1
      obtain ⟨a', h2, rfl⟩ := ro
      rw [h1] at h2; cases h2
      split at h
      · rename_i hk
        rw [Bool.and_eq_true] at hk
        obtain ⟨j, hj⟩ := Option.isSome_iff_exists.mp hk.1
        have hl : gs.length < sizeLine := by rw [RD0.len r1]; exact of_decide_eq_true hk.2
        have := key0_rv hj ri
        subst this
        have kp := rs.keepPut (u := .dK (putK gs j vv)) e1 h1
        refine ⟨a, _, rfl, DPut.k hv hl, h m () _ (Ext.refl _) kp (rs.put e1 h1 ⟨_, upd_same, (r1.put hj rv).mono (Ext.refl _) kp⟩) trivial⟩
      · exact h.elim
    · exact h.elim
  · exact h.elim
end
end DL

namespace DL
open PySem PySem.Spec PyProof.Rows L2
mutual
def NKey (K : PySem.W.Frag) (H : Hp) : NestedKey → V → Prop
  | .none, v => v = .non
  | .num i, v => v = .int i
  | .text x, v => v = .str x
  | .tup ks, v => ∃ a vs, v = .ref a ∧ SqT K H a vs ∧ NKeys K H ks vs
def NKeys (K : PySem.W.Frag) (H : Hp) : List NestedKey → List V → Prop
  | [], vs => vs = []
  | k :: ks, vs => ∃ v vs', vs = v :: vs' ∧ NKey K H k v ∧ NKeys K H ks vs'
end
section
variable {K : PySem.W.Frag} {m : List Addr} {H : Hp}
mutual
theorem nkey_rv : ∀ (d : D) {k : NestedKey} {v : V}, nkey d = some k → RV K m H d v → NKey K H k v
  | .non, _, _, h, r => by cases h; exact r
  | .int _, _, _, h, r => by cases h; exact r
  | .str _, _, _, h, r => by cases h; exact r
  | .tup ds, _, _, h, ⟨a, vs, e, s, r⟩ => by
    unfold nkey at h
    cases e2 : nkeys ds with
    | none => rw [e2] at h; cases h
    | some ks =>
      rw [e2] at h
      cases h
      exact ⟨a, vs, e, s, nkeys_rv ds e2 r⟩
  | .bl _, _, _, h, _ => by cases h
  | .frl _, _, _, h, _ => by cases h
  | .ref _, _, _, h, _ => by cases h
  | .exn _ _ _ _, _, _, h, _ => by cases h
theorem nkeys_rv : ∀ (ds : List D) {ks : List NestedKey} {vs : List V}, nkeys ds = some ks → RVs K m H ds vs → NKeys K H ks vs
  | [], _, _, h, r => by cases h; exact r
  | d :: ds, _, _, h, ⟨v, vs', e, r, t⟩ => by
    unfold nkeys at h
    cases e1 : nkey d with
    | none => rw [e1] at h; cases h
    | some k =>
      cases e2 : nkeys ds with
      | none => rw [e1, e2] at h; cases h
      | some ks =>
        rw [e1, e2] at h
        cases h
        exact ⟨v, vs', e, nkey_rv d e1 r, nkeys_rv ds e2 t⟩
end
mutual
theorem nkey_inj : ∀ (a b : D) {k : NestedKey}, nkey a = some k → nkey b = some k → a = b
  | .non, b, _, h, g => by
    cases h
    cases b <;> first | (cases g <;> rfl) | (unfold nkey at g; split at g <;> cases g)
  | .int i, b, _, h, g => by
    cases h
    cases b <;> first | (cases g <;> rfl) | (unfold nkey at g; split at g <;> cases g)
  | .str x, b, _, h, g => by
    cases h
    cases b <;> first | (cases g <;> rfl) | (unfold nkey at g; split at g <;> cases g)
  | .tup ds, b, k, h, g => by
    unfold nkey at h
    cases e2 : nkeys ds with
    | none => rw [e2] at h; cases h
    | some ks =>
      rw [e2] at h
      cases h
      cases b with
      | tup es =>
        unfold nkey at g
        cases e3 : nkeys es with
        | none => rw [e3] at g; cases g
        | some js =>
          rw [e3] at g
          cases g
          rw [nkeys_inj ds es e2 e3]
      | _ => cases g
  | .bl _, _, _, h, _ => by cases h
  | .frl _, _, _, h, _ => by cases h
  | .ref _, _, _, h, _ => by cases h
  | .exn _ _ _ _, _, _, h, _ => by cases h
theorem nkeys_inj : ∀ (as bs : List D) {ks : List NestedKey}, nkeys as = some ks → nkeys bs = some ks → as = bs
  | [], bs, _, h, g => by
    cases h
    cases bs with
    | nil => rfl
    | cons b bs =>
      unfold nkeys at g
      split at g <;> cases g
  | a :: as, bs, _, h, g => by
    unfold nkeys at h
    cases e1 : nkey a with
    | none => rw [e1] at h; cases h
    | some k =>
      cases e2 : nkeys as with
      | none => rw [e1, e2] at h; cases h
      | some ks =>
        rw [e1, e2] at h
        cases h
        cases bs with
        | nil => cases g
        | cons b bs =>
          unfold nkeys at g
          cases e3 : nkey b with
          | none => rw [e3] at g; cases g
          | some j =>
            cases e4 : nkeys bs with
            | none => rw [e3, e4] at g; cases g
            | some js =>
              rw [e3, e4] at g
              cases g
              rw [nkey_inj a b e1 e3, nkeys_inj as bs e2 e4]
end
end
section
variable {X : Cx} {pins : List (Addr × Obj)} {σ : L2.St} {H : Hp} {s : Shared}
mutual
theorem NKey.is (I : Inv X pins σ H s) : ∀ (k : NestedKey) {v : V} {u : Value}, NKey X.K H k v → RelV v u → NestedIs s.heap k u
  | .none, _, _, h, r => by cases h; cases r; exact .none
  | .num i, _, _, h, r => by cases h; obtain ⟨t, rfl⟩ := r; exact .int i t
  | .text x, _, _, h, r => by cases h; obtain ⟨t, rfl⟩ := r; exact .text x t
  | .tup ks, _, _, ⟨a, vs, e, sq, hk⟩, r => by
    subst e
    cases (show _ = Value.ref a from r)
    obtain ⟨its, rv, ⟨o, ho, hc, n, hd⟩, _⟩ := I.tuple sq
    exact .tup ho hc hd (by simpa using NKeys.is I ks hk rv)
theorem NKeys.is (I : Inv X pins σ H s) : ∀ (ks : List NestedKey) {vs : List V} {us : List Value}, NKeys X.K H ks vs → Vals vs us → NestedAll s.heap ks us
  | [], _, _, h, r => by cases h; cases r; exact .nil
  | k :: ks, _, _, ⟨v, vs', e, hk, t⟩, r => by
    subst e
    cases r with
    | cons r1 r2 => exact .cons (NKey.is I k hk r1) (NKeys.is I ks t r2)
end
def entN (X : Cx) (x : NestedKey × Addr × Value) : DictEntry := ⟨x.1.hash X.w, .ref x.2.1, x.2.2⟩
def NAt (X : Cx) (H : Hp) (a : Addr) (xs : List (NestedKey × Addr × Value)) : Prop :=
  ∃ es ep, H a = some (RawO a es ep) ∧ es.toList = xs.map (entN X) ∧ (xs.map (·.1)).Nodup ∧ (a == sysModules) = false ∧ ∀ x ∈ xs, NKey X.K H x.1 (.ref x.2.1) ∧ x.1.depth ≤ 8
theorem NAt.dict {a : Addr} {xs : List (NestedKey × Addr × Value)} (I : Inv X pins σ H s) (h : NAt X H a xs) : s.heap.DictOfH (nestedKind X.prog X.w) a xs := by
  obtain ⟨es, ep, e, he, hn, _, hk⟩ := h
  obtain ⟨⟨o, ho, hc, hd⟩, _, _⟩ := (show ObjOk X.prog X.w H s.heap a (RawO a es ep) from I.hok a _ e)
  exact ⟨o, es, ep, ho, hc, hd, he, fun x hx => ⟨NKey.is I _ (hk x hx).1 rfl, (hk x hx).2⟩, hn⟩
theorem NAt.sys {a : Addr} {xs : List (NestedKey × Addr × Value)} (h : NAt X H a xs) : (a == sysModules) = false := let ⟨_, _, _, _, _, hs, _⟩ := h; hs
theorem rawO_ok {P : Program} {w : World} {H' : Hp} {h' : Heap} {a : Addr} {o : Obj} {es : Array DictEntry} {ep : Nat} (ho : h'.get? a = some o) (hc : o.ExactDict) (hd : o.data = .dict es ep) : ObjOk P w H' h' a (RawO a es ep) :=
  ⟨⟨o, ho, hc, hd⟩, ⟨o, ho⟩, fun h1 h2 ⟨q, e1, e2, e3⟩ k => ⟨q, k q e1, e2, e3⟩⟩
end
def nokD : D → Bool
  | .tup ds => match nkey (.tup ds) with
    | some k => decide (k.depth ≤ 8)
    | none => false
  | _ => false
theorem nokD_key {d : D} (h : nokD d = true) : ∃ ds k, d = .tup ds ∧ nkey d = some k ∧ k.depth ≤ 8 := by
  unfold nokD at h
  split at h
  · rename_i ds
    split at h
    · rename_i k e
      exact ⟨ds, k, rfl, e, of_decide_eq_true h⟩
    · cases h
  · cases h
def dicN (d k : D) (S : Sto) : Option (Option D) := match d with
  | .ref l => match S[l]? with
    | some (.dic 2 kvs) => match nokD k with
      | true => some (getK kvs k)
      | false => none
    | _ => none
  | _ => none
def RVn (K : PySem.W.Frag) (m : List Addr) (H : Hp) : Option D → Option (Addr × Value) → Prop
  | none, o => o = none
  | some d, o => ∃ p v, o = some p ∧ RV K m H d v ∧ RelV v p.2
section
variable {K : PySem.W.Frag} {m : List Addr} {H : Hp}
theorem RD2.get {d : D} {k : NestedKey} (hk : nkey d = some k) : ∀ {ps : List (D × D)} {xs : List (NestedKey × Addr × Value)}, RD2 K m H ps xs → RVn K m H (getK ps d) (atKey xs k)
  | [], _, h => by cases h; exact rfl
  | p :: ps, _, ⟨j, b, v, u, xs', e, hj, hd, r1, r2, r3, t⟩ => by
    subst e
    have ih := RD2.get hk t
    by_cases z : p.1 = d
    · have zk : j = k := by rw [z] at hj; rw [hj] at hk; exact Option.some.inj hk
      simp only [getK, List.find?_cons, z, decide_true, Option.map_some, atKey, zk]
      exact ⟨(b, u), v, rfl, r2, r3⟩
    · have zk : ¬ j = k := fun q => z (nkey_inj _ _ hj (q ▸ hk))
      simp only [getK, List.find?_cons, z, decide_false, atKey, zk] at ih ⊢
      exact ih
theorem RD2.keys : ∀ {ps : List (D × D)} {xs : List (NestedKey × Addr × Value)}, RD2 K m H ps xs → ∀ x ∈ xs, NKey K H x.1 (.ref x.2.1) ∧ x.1.depth ≤ 8
  | [], _, h, x, hx => by cases h; cases hx
  | p :: ps, _, ⟨j, b, v, u, xs', e, hj, hd, r1, r2, r3, t⟩, x, hx => by
    subst e
    rcases List.mem_cons.mp hx with rfl | hx
    · exact ⟨nkey_rv _ hj r1, hd⟩
    · exact RD2.keys t x hx
theorem RD2.len : ∀ {ps : List (D × D)} {xs : List (NestedKey × Addr × Value)}, RD2 K m H ps xs → xs.length = ps.length
  | [], _, h => by cases h; rfl
  | p :: ps, _, ⟨j, b, v, u, xs', e, hj, hd, r1, r2, r3, t⟩ => by subst e; simp [RD2.len t]
theorem RD2.any {d : D} {k : NestedKey} (hk : nkey d = some k) : ∀ {ps : List (D × D)} {xs : List (NestedKey × Addr × Value)}, RD2 K m H ps xs → (ps.any fun p => decide (p.1 = d)) = (atKey xs k).isSome
  | [], _, h => by cases h; rfl
  | p :: ps, _, ⟨j, b, v, u, xs', e, hj, hd, r1, r2, r3, t⟩ => by
    subst e
    have ih := RD2.any hk t
    by_cases z : p.1 = d
    · have zk : j = k := by rw [z] at hj; rw [hj] at hk; exact Option.some.inj hk
      simp [z, atKey, zk]
    · have zk : ¬ j = k := fun q => z (nkey_inj _ _ hj (q ▸ hk))
      simp only [List.any_cons, z, decide_false, Bool.false_or, atKey, List.find?_cons, zk] at ih ⊢
      exact ih
theorem RD2.repl {d x : D} {k : NestedKey} {v : V} {u : Value} (hk : nkey d = some k) (rx : RV K m H x v) (ru : RelV v u) : ∀ {ps : List (D × D)} {xs : List (NestedKey × Addr × Value)}, RD2 K m H ps xs → RD2 K m H (ps.map fun p => if p.1 = d then (p.1, x) else p) (xs.map (putAt k u))
  | [], _, h => by cases h; exact rfl
  | p :: ps, _, ⟨j, b, w, u', xs', e, hj, hd, r1, r2, r3, t⟩ => by
    subst e
    by_cases z : p.1 = d
    · have zk : j = k := by rw [z] at hj; rw [hj] at hk; exact Option.some.inj hk
      simp only [List.map_cons, z, if_true, putAt, zk]
      exact ⟨k, b, v, u, _, rfl, hk, zk ▸ hd, z ▸ r1, rx, ru, RD2.repl hk rx ru t⟩
    · have zk : ¬ j = k := fun q => z (nkey_inj _ _ hj (q ▸ hk))
      simp only [List.map_cons, z, if_false, putAt, zk]
      exact ⟨j, b, w, u', _, rfl, hj, hd, r1, r2, r3, RD2.repl hk rx ru t⟩
theorem RD2.snoc {d x : D} {k : NestedKey} {b : Addr} {v : V} {u : Value} (hk : nkey d = some k) (hd : k.depth ≤ 8) (rd : RV K m H d (.ref b)) (rx : RV K m H x v) (ru : RelV v u) : ∀ {ps : List (D × D)} {xs : List (NestedKey × Addr × Value)}, RD2 K m H ps xs → RD2 K m H (ps ++ [(d, x)]) (xs ++ [(k, b, u)])
  | [], _, h => by cases h; exact ⟨k, b, v, u, [], rfl, hk, hd, rd, rx, ru, rfl⟩
  | p :: ps, _, ⟨j, c, w, u', xs', e, hj, hd', r1, r2, r3, t⟩ => by
    subst e
    exact ⟨j, c, w, u', _, rfl, hj, hd', r1, r2, r3, RD2.snoc hk hd rd rx ru t⟩
theorem RD2.put {d x : D} {k : NestedKey} {b : Addr} {v : V} {u : Value} {ps : List (D × D)} {xs : List (NestedKey × Addr × Value)} (r : RD2 K m H ps xs) (hk : nkey d = some k) (hd : k.depth ≤ 8) (rd : RV K m H d (.ref b)) (rx : RV K m H x v) (ru : RelV v u) : RD2 K m H (putD ps d x) (storedH xs k b u) := by
  unfold putD storedH
  rw [RD2.any hk r]
  split
  · exact RD2.repl hk rx ru r
  · exact RD2.snoc hk hd rd rx ru r
end
section
variable {cl : Cl} {X : Cx} {E : XK}
abbrev HashOk (cl : Cl) (X : Cx) : Prop := cl.hh = fun k => k.hash X.w
theorem dicN_rv {m : List Addr} {S : Sto} {H : Hp} {d k : D} {v vk : V} {r : Option D} (hc : HashOk cl X) (rs : RS cl X.K m S H) (rv : RV X.K m H d v) (rk : RV X.K m H k vk) (h : dicN d k S = some r) :
    ∃ a b xs q, v = .ref a ∧ vk = .ref b ∧ NAt X H a xs ∧ NKey X.K H q (.ref b) ∧ q.depth ≤ 8 ∧ RVn X.K m H r (atKey xs q) := by
  unfold dicN at h
  split at h
  · split at h
    · rename_i kvs e1
      split at h
      · rename_i hk
        cases h
        obtain ⟨ds, q, ek, hq, hd⟩ := nokD_key hk
        obtain ⟨a, h1, xs, es, ep, hv, he, hn, hs, r1⟩ := rs.adr e1
        obtain ⟨a', h2, rfl⟩ := rv
        rw [h1] at h2; cases h2
        have rk' := rk
        rw [ek] at rk'
        obtain ⟨b, vs, rfl, _⟩ := rk'
        refine ⟨a, b, xs, q, rfl, rfl, ⟨es, ep, hv, ?_, hn, hs, RD2.keys r1⟩, nkey_rv _ hq rk, hd, RD2.get hq r1⟩
        rw [he]
        unfold HashOk at hc
        rw [hc]
        rfl
      · cases h
    · cases h
  · cases h
theorem RVn.isSome {K : PySem.W.Frag} {m : List Addr} {H : Hp} : ∀ {o : Option D} {u : Option (Addr × Value)}, RVn K m H o u → o.isSome = u.isSome
  | none, _, h => by cases h; rfl
  | some _, _, ⟨p, v, e, _⟩ => by subst e; rfl
def notInDicN (k d : D) (S : Sto) : Res D := match dicN d k S with
  | some r => .ok (.bl (!r.isSome)) S
  | none => .stuck
theorem nroom (hu : X.A.units + 65 < cLine) : (nestedKind X.prog X.w).room X.A.in1 := by
  show X.A.units + 1 + 8 < cLine
  omega
theorem op_notInDicN (hu : X.A.units + 65 < cLine) (hc : HashOk cl X) : OpD cl X (compareOp .NotIn) notInDicN := by
  refine ⟨fun x y H Q => ∃ a b xs q, y = .ref a ∧ x = .ref b ∧ NAt X H a xs ∧ NKey X.K H q (.ref b) ∧ q.depth ≤ 8 ∧ Q (.bl (!(atKey xs q).isSome)) H, fun pins s σ H x y v u Q I rx ry ⟨a, b, xs, q, ey, ex, hn, hk, hd, hq⟩ => ?_, fun E m S H x y vx vy Q rs rx ry h => ?_⟩
  · subst ey ex
    cases (show u = Value.ref a from ry)
    cases (show v = Value.ref b from rx)
    refine notIn_keyed (nroom hu) ⟨NKey.is I _ hk rfl, hd⟩ hn.sys ⟨xs, hn.dict I, rfl⟩ ⟨.bl (!(atKey xs q).isSome), H, I.tok _, ?_, hq⟩
    rw [valueAt_pairsH, Option.isSome_map]
    rfl
  · unfold notInDicN at h
    split at h
    · rename_i r e
      obtain ⟨a, b, xs, q, e1, e2, hn, hk, hd, ro⟩ := dicN_rv hc rs ry rx e
      exact ⟨a, b, xs, q, e1, e2, hn, hk, hd, by rw [← ro.isSome]; exact h.here rs rfl⟩
    · exact h.elim
def setDicN (o i v : D) (S : Sto) : Res Unit := match o with
  | .ref l => match S[l]? with
    | some (.dic 2 kvs) => match nokD i && decide (kvs.length ≤ sizeLine) with
      | true => .ok () (S.set l (.dic 2 (putD kvs i v)))
      | false => .stuck
    | _ => .stuck
  | _ => .stuck
def rSetN (X : Cx) : TSet := fun o i v H Q => ∃ a b xs q, o = .ref a ∧ i = .ref b ∧ NAt X H a xs ∧ NKey X.K H q (.ref b) ∧ q.depth ≤ 8 ∧ xs.length ≤ sizeLine ∧
  ∀ u es ep, RelV v u → es.toList = (storedH xs q b u).map (entN X) → ((storedH xs q b u).map (·.1)).Nodup → Q (upd H a (RawO a es ep))
theorem set_dictN (hu : X.A.units + 65 < cLine) : PSet X (rSetN X) := by
  intro pins s σ H o i v ov iv u Q I ro ri rv h
  obtain ⟨a, b, xs, q, eo, ei, hn, hk, hd, hz, hq⟩ := h
  subst eo ei
  cases (show ov = Value.ref a from ro)
  cases (show iv = Value.ref b from ri)
  obtain ⟨es0, ep0, e0, _⟩ := id hn
  refine wpAny_setItem_heap (hsz := hz) (nroom hu) ⟨NKey.is I _ hk rfl, hd⟩ (hn.dict I) fun h' dd' hs => ?_
  obtain ⟨o2, es, ep, ho, h2, h3, h4, _, h5⟩ := dd'
  exact ⟨_, d_write I (by rw [e0]; exact True.intro) hs ⟨o2, ho⟩ (rawO_ok ho h2 h3), hq u es ep rv h4 h5⟩
theorem set_dicN (hu : X.A.units + 65 < cLine) (hc : HashOk cl X) : SetD cl X setDicN := by
  refine ⟨_, set_dictN hu, fun E m S H o i v vo vi vv Q rs ro ri rv h => ?_⟩
  unfold setDicN at h
  split at h
  · rename_i l
    split at h
    · rename_i kvs e1
      obtain ⟨a, h1, xs, es, ep, hv, he, hn, hs, r1⟩ := rs.adr e1
      obtain ⟨a', h2, rfl⟩ := ro
      rw [h1] at h2; cases h2
      split at h
      · rename_i hk
        rw [Bool.and_eq_true] at hk
        obtain ⟨ds, q, ek, hq, hd⟩ := nokD_key hk.1
        have hl : xs.length ≤ sizeLine := by rw [RD2.len r1]; exact of_decide_eq_true hk.2
        have ri' := ri
        rw [ek] at ri'
        obtain ⟨b, vs, rfl, _⟩ := ri'
        have hce : cl.hh = fun k => k.hash X.w := hc
        refine ⟨a, b, xs, q, rfl, rfl, ⟨es, ep, hv, by rw [he, hce]; rfl, hn, hs, RD2.keys r1⟩, nkey_rv _ hq ri, hd, hl, fun u es' ep' ru he' hn' => ?_⟩
        have kp := rs.keepPut (u := RawO a es' ep') e1 h1
        refine h m () _ (Ext.refl _) kp (rs.put e1 h1 ⟨storedH xs q b u, es', ep', upd_same, by rw [he', hce]; rfl, hn', hs, (r1.put hq hd ri rv ru).mono (Ext.refl _) kp⟩) trivial
      · exact h.elim
    · exact h.elim
  · exact h.elim
end
end DL

namespace DL
open PySem PySem.Spec PyProof.Rows L2
theorem Dict_walkH {prog : Program} {w : World} {K : Type} [DecidableEq K] {knd : HeapKind prog w K} {A : Around} {E : Value → Shared → Prop} {s : Shared} {env : Env} {keys : List (Option Expr)} {values : List Expr} {pos : Pos} {Q : Value → Shared → Prop}
    (hu : knd.room A) (hall : keys.all (·.isSome) = true) (hl : keys.length = values.length) (h0 : keys ≠ []) (hlen : keys.length ≤ 15)
    (h : wpAny (model prog w) A (evalPairs (pairTrees keys values env pos)) (fun vs s₁ => ∃ ps, CarriesH knd s₁.heap vs ps ∧ s₁.heap.DictOfH knd s.heap.objs.size [] ∧
      ∀ h' tk, h'.DictOfH knd s.heap.objs.size (storedAllH [] ps) → Heap.SameBut s.heap.objs.size s₁.heap h' → Q (.ref s.heap.objs.size) { s₁ with heap := h', toks := tk }) E
      { s with heap := s.heap.push { cls := .type "dict", data := .dict #[] } }) :
    wpAny (model prog w) A (eval (.Dict keys values pos) env) Q E s := by
  have hn := pairTrees_length keys values env pos hall hl
  have hne : pairTrees keys values env pos ≠ [] := by
    intro he
    rw [he] at hn
    exact h0 (List.length_eq_zero_iff.mp hn.symm)
  rw [arm_eval_Dict, zip_pairTrees keys values env pos hall hl, dictDisplay_pairs _ hne (by omega)]
  exact wpAny_bind (wpAny_standAt (wpAny_bind (wpAny_subDictH (knd := knd) (Q := fun d s' => wpAny (model prog w) A (pure (Value.ref d)) Q E s') hu (by omega)
    (wpAny_mono h (fun vs s₁ h₁ => by obtain ⟨ps, hc, hm, hq⟩ := h₁; exact ⟨ps, hc, hm, fun h' tk a b => wpAny_pure (hq h' tk a b)⟩) fun _ _ e => e))))
section
variable {X : Cx}
def tDispN (X : Cx) (tk tv : TE) : TE := fun σ H Q => tPairs [(tk, tv)] σ H fun ps H2 => ∃ y v, ps = [(y, v)] ∧ ∃ b q, y = .ref b ∧ NKey X.K H2 q (.ref b) ∧ q.depth ≤ 8 ∧
  ∀ p u es ep, H2 p = none → (p == sysModules) = false → RelV v u → es.toList = [entN X (q, b, u)] → Q (.ref p) (upd H2 p (RawO p es ep))
theorem pe_dispN {dpos : Pos} {ke ve : Expr} {tk tv : TE} (hu : X.A.units + 65 < cLine) (hk : PE X ke tk) (hv : PE X ve tv) : PE X (.Dict [some ke] [ve] dpos) (tDispN X tk tv) := by
  refine ⟨fun pins s σ H Q I q => ?_⟩
  have h : PPs X dpos [some ke] [ve] [(tk, tv)] := pps_cons hk hv pps_nil
  have hn := I.hok.fresh (Nat.le_refl s.heap.objs.size)
  have hks : ∀ b u, s.heap.get? b = some u → (s.heap.push { cls := .type "dict", data := .dict #[] }).get? b = some u := fun _ _ q => Heap.get?_push_of_some _ q
  have I0 : Inv X pins σ H { s with heap := s.heap.push { cls := .type "dict", data := .dict #[] } } := I.kept (t' := s.toks) hks
  have hnew : (s.heap.push { cls := .type "dict", data := .dict #[] }).get? s.heap.objs.size = some { cls := .type "dict", data := .dict #[] } := Heap.get?_push_size _ rfl
  have hL : s.heap.objs.size ≠ X.env.locals := Nat.ne_of_gt I.lt
  have hC : ∀ x c, X.env.cells.lookup x = some c → c ≠ s.heap.objs.size := fun x c e => by
    obtain ⟨v, o, ho, _⟩ := I.cell x c e
    exact Nat.ne_of_lt (Heap.lt_size ho)
  have hP : ∀ p ∈ X.pn ++ pins, p.1 ≠ s.heap.objs.size := fun p hp => Nat.ne_of_lt (Heap.lt_size (I.pin p hp).1)
  have I1 : Inv X ((s.heap.objs.size, { cls := .type "dict", data := .dict #[] }) :: pins) σ H { s with heap := s.heap.push { cls := .type "dict", data := .dict #[] } } := I0.pins_of fun p hp => by
    rcases List.mem_cons.mp hp with rfl | hp
    · exact ⟨hnew, hn, hL, I.nofs (Nat.le_refl _), fun v e => by cases e⟩
    · exact I0.pin p (List.mem_append_right _ hp)
  have hbig : (s.heap.objs.size == sysModules) = false := by
    have h1 := I.big
    cases z : s.heap.objs.size == sysModules with
    | false => rfl
    | true => exact absurd (eq_of_beq z) (Nat.ne_of_gt h1)
  have hroom : (nestedKind X.prog X.w).room X.A := by
    show X.A.units + 8 < cLine
    omega
  refine Dict_walkH (knd := nestedKind X.prog X.w) hroom rfl rfl (by nofun) (by simp) (thn (h.run _ _ σ H _ I1 q) fun ws s2 ⟨ps, H2, I2, rel, y, v, ep0, b, nk, ey, hnk, hnd, q2⟩ => ?_)
  subst ep0 ey
  obtain ⟨uy, uv, hws, r1, r1'⟩ : ∃ uy uv, ws = [(uy, uv)] ∧ RelV (.ref b) uy ∧ RelV v uv := by
    cases rel with
    | cons r1 r2 =>
      cases r2
      exact ⟨_, _, rfl, r1.1, r1.2⟩
  subst hws
  cases (show uy = Value.ref b from r1)
  · skip
    obtain ⟨e2, n2, _, f2, _⟩ := I2.pin _ (List.mem_append_right _ (List.mem_cons_self ..))
    have dd0 : s2.heap.DictOfH (nestedKind X.prog X.w) s.heap.objs.size [] := ⟨_, #[], 0, e2, ⟨rfl, rfl, rfl⟩, rfl, rfl, fun x hx => (nomatch hx), List.nodup_nil⟩
    have I3 : Inv X pins σ H2 s2 := I2.pins_of fun p hp => I2.pin p (List.mem_append_right _ (List.mem_cons_of_mem _ hp))
    refine ⟨[(nk, b, uv)], ⟨rfl, rfl, ⟨NKey.is I3 _ hnk rfl, hnd⟩, trivial⟩, dd0, fun h' tk dd' hs => ?_⟩
    have I4 : Inv X pins σ H2 { s2 with heap := h', toks := tk } := I3.turned (it := s.heap.objs.size) (fun b o nb e => (hs.2 b nb).trans e) n2 hL (.inr I.sz) hC hP
    obtain ⟨o, es, ep, ho, hc, hd, he, _, _⟩ := dd'
    generalize hs3 : ({ s2 with heap := h', toks := tk } : Shared) = s3 at I4 ⊢
    have ho : s3.heap.get? s.heap.objs.size = some o := by rw [← hs3]; exact ho
    refine ⟨.ref s.heap.objs.size, _, ?_, rfl, q2 s.heap.objs.size uv es ep n2 hbig r1' he⟩
    have nit : ∀ b u, H2 b = some u → b ≠ s.heap.objs.size := fun b u e z => by rw [z, n2] at e; cases e
    refine I4.step (g' := s3.gens) (d' := s3.drawn) (t' := s3.toks) (h' := s3.heap) (H' := upd H2 s.heap.objs.size (RawO s.heap.objs.size es ep)) (ch := [s.heap.objs.size]) (fun b hb => ?_) (fun b o _ _ hc e _ => e) (fun b o _ _ hc e _ => ⟨o.slots, e⟩) (fun b o hc e n => ?_)
      (fun b o hc e => ⟨o, e⟩) (fun b xs e => ?_) (fun b o u e => ?_) (fun b ps e => ⟨#[], ?_⟩) (fun m hm => hm) (fun b u e => ?_) I4.bare
    · have e : b = s.heap.objs.size := by simpa using hb
      subst e
      exact ⟨.inr I.sz, hL, hC, hP⟩
    · rw [upd_ne (fun z => hc (by simp [z]))]; exact n
    · rw [upd_ne (nit _ _ e)]; exact e
    · rw [upd_ne (nit _ _ e)]; exact e
    · rw [upd_ne (nit _ _ e), e]; simp
    · by_cases z : b = s.heap.objs.size
      · subst z
        rw [upd_same] at e; cases e
        exact rawO_ok ho hc hd
      · rw [upd_ne z] at e
        refine (I4.hok b u e).stay (fun c v hc q => q) (fun _ q => ?_) fun _ _ q => ?_
        · rw [upd_ne (nit _ _ q)]; exact q
        · rw [upd_ne (nit _ _ q)]; exact q
def dDispN (fk fv : Sl → Sto → Res D) : Sl → Sto → Res D := fun sd S => (fk sd S).bind fun k S1 => (fv sd S1).bind fun v S2 => match nokD k with
  | true => .ok (.ref S2.length) (S2 ++ [.dic 2 [(k, v)]])
  | false => .stuck
theorem de_dispN {cl : Cl} {E : XK} {dpos : Pos} {ke ve : Expr} {fk fv : Sl → Sto → Res D} (hu : X.A.units + 65 < cLine) (hc : HashOk cl X) (hk : DE cl X E ke fk) (hv : DE cl X E ve fv) : DE cl X E (.Dict [some ke] [ve] dpos) (dDispN fk fv) := by
  obtain ⟨t, p, hk⟩ := hk
  obtain ⟨u, q, hv⟩ := hv
  refine ⟨_, pe_dispN hu p q, fun m S H sd σ Q rs rl h => ?_⟩
  refine hk m S H sd σ _ rs rl (Post.bind h fun x S1 m1 vx H1 x1 k1 rs1 rx h1 => ?_)
  refine hv m1 S1 H1 sd σ _ rs1 (rl.mono x1 k1) (Post.bind h1 fun y S2 m2 vy H2 x2 k2 rs2 ry h2 => ?_)
  split at h2
  · rename_i hn
    obtain ⟨ds, nk, ek, hnk, hd⟩ := nokD_key hn
    have rx2 := RV.mono x2 k2 x rx
    have rx' := rx2
    rw [ek] at rx'
    obtain ⟨b, vs, rfl, _⟩ := rx'
    have hce : cl.hh = fun k => k.hash X.w := hc
    refine ⟨_, _, rfl, b, nk, rfl, nkey_rv _ hnk rx2, hd, fun p u es ep hp hsys ru he => ?_⟩
    have kp : Keep H2 (upd H2 p (RawO p es ep)) := Keep.new hp
    refine h2 _ _ _ (Ext.snoc m2 p) kp (rs2.new hp ⟨[(nk, b, u)], es, ep, upd_same, by rw [he, hce]; rfl, by simp, hsys, nk, b, vy, u, [], rfl, hnk, hd, RV.mono (Ext.snoc m2 p) kp _ rx2, RV.mono (Ext.snoc m2 p) kp _ ry, ru, rfl⟩) ⟨p, by rw [← rs2.len]; simp, rfl⟩
  · exact h2.elim
end
end DL

namespace DL
open PySem PySem.Spec PyProof.Rows L2
section
variable {cl : Cl} {X : Cx} {E : XK}
end
end DL

namespace DL
open PySem PySem.Spec PyProof.Rows L2
section
variable {cl : Cl} {X : Cx} {E : XK}
end
end DL

namespace DL
open PySem PySem.Spec PyProof.Rows L2
section
variable {cl : Cl} {X : Cx} {E : XK}
def ixDicN (d k : D) (S : Sto) : Res D := match dicN d k S with
  | some (some r) => .ok r S
  | _ => .stuck
def tIxN (X : Cx) (td ty : TE) : TE := fun σ H Q => td σ H fun x H1 => ty σ H1 fun y H2 => ∃ a b xs q p v, x = .ref a ∧ y = .ref b ∧ NAt X H2 a xs ∧ NKey X.K H2 q (.ref b) ∧ q.depth ≤ 8 ∧ atKey xs q = some p ∧ RelV v p.2 ∧ Q v H2
theorem pe_ixN {o i : Expr} {td ty : TE} {pos : Pos} (hu : X.A.units + 65 < cLine) (ho : PE X o td) (hi : PE X i ty) (hs : NoSl i) : PE X (.Subscript o i pos) (tIxN X td ty) := by
  refine ⟨fun pins s σ H Q I h => ?_⟩
  refine subD_of PySem.F.slot_dict_getitem.lookup hs (thn (ho.run pins s σ H _ I h) fun u s1 ⟨x, H1, I1, rx, q1⟩ => thn (hi.run pins s1 σ H1 _ I1 q1) fun iv s2 ⟨y, H2, I2, ry, a, b, xs, q, p, v, ex, ey, hn, hk, hd, hp, rv, q2⟩ => ?_)
  subst ex ey
  obtain rfl : u = Value.ref a := rx
  obtain rfl : iv = Value.ref b := ry
  exact ⟨(hn.dict I2).typeIs, wpAny_getItem_heap (nroom hu) ⟨NKey.is I2 _ hk rfl, hd⟩ (hn.dict I2) hp ⟨v, H2, I2.tok _, rv, q2⟩⟩
theorem de_ixDicN {o e : Expr} {fo fe : Sl → Sto → Res D} {pos : Pos} (hu : X.A.units + 65 < cLine) (hc : HashOk cl X) (ha : DE cl X E o fo) (hb : DE cl X E e fe) (hs : NoSl e := by intro _ _; rfl) : DE cl X E (.Subscript o e pos) (d2 ixDicN fo fe) := by
  obtain ⟨t, p, ha⟩ := ha
  obtain ⟨u, q, hb⟩ := hb
  refine ⟨_, pe_ixN hu p q hs, fun m S H sd σ Q rs rl h => ?_⟩
  refine ha m S H sd σ _ rs rl (Post.bind h fun x S1 m1 vx H1 x1 k1 rs1 rx h1 => ?_)
  refine hb m1 S1 H1 sd σ _ rs1 (rl.mono x1 k1) (Post.bind h1 fun y S2 m2 vy H2 x2 k2 rs2 ry h2 => ?_)
  unfold ixDicN at h2
  split at h2
  · rename_i r e
    obtain ⟨a, b, xs, q, e1, e2, hn, hk, hd, ro⟩ := dicN_rv hc rs2 (RV.mono x2 k2 x rx) ry e
    obtain ⟨p, v, ep, rv, ru⟩ := ro
    exact ⟨a, b, xs, q, p, v, e1, e2, hn, hk, hd, ep, ru, h2.here rs2 rv⟩
  · exact h2.elim
end
end DL

namespace DL
open PySem PySem.Spec PyProof.Rows L2
section
variable {cl : Cl} {X : Cx} {E : XK}
def intsD : List D → Option (List Int)
  | [] => some []
  | .int i :: ds => (intsD ds).map (i :: ·)
  | _ :: _ => none
theorem intsD_rv {K : PySem.W.Frag} {m : List Addr} {H : Hp} : ∀ {ds : List D} {vs : List V} {ns : List Int}, intsD ds = some ns → RVs K m H ds vs → vs = ns.map V.int
  | [], vs, ns, e, r => by cases e; cases r; rfl
  | .int i :: ds, vs, ns, e, ⟨v, vs', ev, rv, rt⟩ => by
    simp only [intsD] at e
    cases h : intsD ds with
    | none => rw [h] at e; cases e
    | some ms =>
      rw [h] at e; cases e
      rw [ev, intsD_rv h rt, show v = .int i from rv]
      rfl
  | .non :: _, _, _, e, _ => by cases e
  | .bl _ :: _, _, _, e, _ => by cases e
  | .str _ :: _, _, _, e, _ => by cases e
  | .tup _ :: _, _, _, e, _ => by cases e
  | .frl _ :: _, _, _, e, _ => by cases e
  | .ref _ :: _, _, _, e, _ => by cases e
  | .exn _ _ _ _ :: _, _, _, e, _ => by cases e
end
end DL

namespace DL
open PySem PySem.Spec PyProof.Rows L2
section
variable {prog : Program} {w : World} {A : Around} {E : Value → Shared → Prop} {s : Shared} {z TI TO T i1 i2 : Addr} {fp1 fp2 : List Addr} {n1 n2 i : Nat} {P1 P2 : Nat → Value → Prop} {St1 St2 : Nat → Heap → Prop} {f : Bool} {oT : Obj}
end
section
variable {prog : Program} {w : World}
end
end DL

namespace DL
open PySem PySem.Spec PyProof.Rows L2
section
variable {cl : Cl} {X : Cx} {E : XK}
end
end DL

namespace DL
open PySem PySem.Spec PyProof.Rows L2
section
variable {cl : Cl} {X : Cx} {E : XK}
def ixDic3 (d k : D) (S : Sto) : Res D := match d with
  | .ref l => match S[l]? with
    | some (.dic 3 kvs) => match (key0 k).isSome with
      | true => match getK kvs k with
        | some r => .ok r S
        | none => .stuck
      | false => .stuck
    | _ => .stuck
  | _ => .stuck
theorem de_ixDic3 {o e : Expr} {fo fe : Sl → Sto → Res D} {pos : Pos} (hu : X.A.units + 1 < cLine) (ha : DE cl X E o fo) (hb : DE cl X E e fe) (hs : NoSl e := by intro _ _; rfl) : DE cl X E (.Subscript o e pos) (d2 ixDic3 fo fe) := by
  obtain ⟨t, p, ha⟩ := ha
  obtain ⟨u, q, hb⟩ := hb
  refine ⟨_, pe_dget hu p q hs, fun m S H sd σ Q rs rl h => ?_⟩
  refine ha m S H sd σ _ rs rl (Post.bind h fun x S1 m1 vx H1 x1 k1 rs1 rx h1 => ?_)
  refine hb m1 S1 H1 sd σ _ rs1 (rl.mono x1 k1) (Post.bind h1 fun y S2 m2 vy H2 x2 k2 rs2 ry h2 => ?_)
  unfold ixDic3 at h2
  split at h2
  · rename_i l
    split at h2
    · rename_i kvs e1
      split at h2
      · rename_i hk
        split at h2
        · rename_i r e2
          obtain ⟨j, hj⟩ := Option.isSome_iff_exists.mp hk
          obtain ⟨a, g1, gs, o, hv, r1⟩ := rs2.adr e1
          obtain ⟨a', g2, rfl⟩ := RV.mono x2 k2 _ rx
          rw [g1] at g2; cases g2
          have := key0_rv hj ry
          subst this
          have hg := RD0.get r1 hj
          rw [e2] at hg
          obtain ⟨v, e3, rv⟩ := hg
          exact ⟨a, v, rfl, .inl ⟨gs, j, .inr ⟨o, hv⟩, rfl, e3.symm⟩, h2.here rs2 rv⟩
        · exact h2.elim
      · exact h2.elim
    · exact h2.elim
  · exact h2.elim
def chk3 (l : Nat) (kvs : List (D × D)) : Sto → Bool := fun S => decide (S[l]? = some (.dic 3 kvs))
def iKeysD (f : Sl → Sto → Res D) : Sl → Sto → Res ItD := fun sd S => (f sd S).bind fun d S1 => match d with
  | .ref l => match S1[l]? with
    | some (.dic 3 kvs) => .ok ⟨kvs.map (·.1), chk3 l kvs⟩ S1
    | _ => .stuck
  | _ => .stuck
theorem key0_mk {K : PySem.W.Frag} {m : List Addr} {H : Hp} {d : D} {k : Key} (h : key0 d = some k) : RV K m H d (kV k) := by
  cases d <;> simp only [key0] at h <;> cases h <;> rfl
theorem rd0_key {K : PySem.W.Frag} {m : List Addr} {H : Hp} : ∀ {fs : List (D × D)} {gs : List (Key × V)} {i : Nat} {k : Key} {v : V}, RD0 K m H fs gs → gs[i]? = some (k, v) → ∃ d, (fs.map (·.1))[i]? = some d ∧ key0 d = some k
  | [], gs, i, k, v, h, e => by
    cases (show gs = [] from h)
    simp at e
  | p :: fs, gs, i, k, v, ⟨j, u, gs', eg, hk, r, t⟩, e => by
    subst eg
    cases i with
    | zero =>
      simp only [List.getElem?_cons_zero, Option.some.injEq, Prod.mk.injEq] at e
      exact ⟨p.1, rfl, by rw [hk, e.1]⟩
    | succ i =>
      obtain ⟨d, h1, h2⟩ := rd0_key t (show gs'[i]? = some (k, v) from e)
      exact ⟨d, h1, h2⟩
theorem di_keys {tg e : Expr} {fa : Sl → Sto → Res D} (he : DE cl X E e fa) : DI cl X E tg e (iKeysD fa) := by
  obtain ⟨t, p, he⟩ := he
  refine ⟨_, pi_keys p, fun m S H sd σ R rs rl h => ?_⟩
  refine he m S H sd σ _ rs rl (Post.bind h fun d S1 m1 v H1 x1 k1 rs1 rv h1 => ?_)
  split at h1
  · rename_i l
    split at h1
    · rename_i kvs e1
      obtain ⟨a, g1, gs, o, hv, r1⟩ := rs1.adr e1
      obtain ⟨a', g2, rfl⟩ := rv
      rw [g1] at g2; cases g2
      refine ⟨a, o, rfl, .inl ⟨gs, hv, h1.here rs1 fun i m' S' H' x kp rs' hc' => ?_⟩⟩
      have hv' : H' a = some (.frz o (.dK gs)) := kp _ _ hv trivial
      have hl : (kvs.map (·.1)).length = gs.length := by rw [List.length_map]; exact (RD0.len r1).symm
      refine ⟨fun e => ⟨hv', by rw [e, hl]; exact Nat.le_refl _⟩, fun d hd => ⟨⟨hv', by rw [← hl]; exact (List.getElem?_eq_some_iff.mp hd).1⟩, ?_⟩⟩
      rintro y H2 ⟨rfl, k, v, hkv, rfl⟩
      obtain ⟨d', hd', hk'⟩ := rd0_key r1 hkv
      rw [hd] at hd'; cases hd'
      exact ⟨Keep.refl _, rs', key0_mk hk'⟩
    · exact h1.elim
  · exact h1.elim
end
end DL

namespace DL
open PySem PySem.Spec PyProof.Rows L2
section
variable {prog : Program} {w : World} {A : Around} {R : Result → Shared → Prop} {I : Addr} {fp wr : List Addr} {n : Nat} {P : Nat → Value → Prop} {St : Nat → Heap → Prop} {h0 : Heap}
end
section
variable {cl : Cl} {X : Cx} {E : XK}
end
end DL

namespace DL
open PySem PySem.Spec PyProof.Rows L2
section
variable {cl : Cl} {X : Cx} {E : XK}
end
end DL
namespace DL
open PySem PySem.Spec PyProof.Rows L2
section
variable {cl : Cl} {X : Cx} {E : XK}
end
end DL

namespace DL
open PySem PySem.Spec PyProof.Rows L2
def Wp {α : Type} (r : Res α) (Q : α → Sto → Prop) (X : Exc → Sto → Prop) : Prop := match r with
  | .ok a S => Q a S
  | .exc x S => X x S
  | .stuck => False
def kB {α β : Type} (k : α → Sto → Res β) (Q : β → Sto → Prop) (X : Exc → Sto → Prop) (a : α) (S : Sto) : Prop := Wp (k a S) Q X
theorem kB_ap {α β : Type} {k : α → Sto → Res β} {Q : β → Sto → Prop} {X : Exc → Sto → Prop} {a : α} {S : Sto} : kB k Q X a S = Wp (k a S) Q X := rfl
theorem w_bind {α β : Type} {r : Res α} {k : α → Sto → Res β} {Q : β → Sto → Prop} {X : Exc → Sto → Prop} : Wp (r.bind k) Q X = Wp r (kB k Q X) X := by cases r <;> rfl
theorem w_ok {α : Type} {a : α} {S : Sto} {Q : α → Sto → Prop} {X : Exc → Sto → Prop} : Wp (.ok a S) Q X = Q a S := rfl
theorem w_exc {α : Type} {x : Exc} {S : Sto} {Q : α → Sto → Prop} {X : Exc → Sto → Prop} : Wp (.exc x S) Q X = X x S := rfl
theorem w_stuck {α : Type} {Q : α → Sto → Prop} {X : Exc → Sto → Prop} : Wp .stuck Q X = False := rfl
theorem w_ite {α : Type} {c : Prop} [Decidable c] {r s : Res α} {Q : α → Sto → Prop} {X : Exc → Sto → Prop} (h : c) : Wp (if c then r else s) Q X = Wp r Q X := by rw [if_pos h]
theorem Wp.mono {α : Type} {r : Res α} {Q Q' : α → Sto → Prop} {X X' : Exc → Sto → Prop} (h : Wp r Q X) (hq : ∀ a S, Q a S → Q' a S) (hx : ∀ x S, X x S → X' x S) : Wp r Q' X' := by
  cases r with
  | ok a S => exact hq a S h
  | exc x S => exact hx x S h
  | stuck => exact h
theorem Wp.ok {α : Type} {r : Res α} {Q : α → Sto → Prop} (h : Wp r Q (fun _ _ => False)) : ∃ a S, r = .ok a S ∧ Q a S := by
  cases r with
  | ok a S => exact ⟨a, S, rfl, h⟩
  | exc x S => exact h.elim
  | stuck => exact h.elim
def kFn (Q : D → Sto → Prop) : Fl → Sto → Prop
  | .nx _, S => Q .non S
  | .ret d, S => Q d S
  | _, _ => False
theorem w_dFn {n : Nat} {Fb : Sl → Sto → Res Fl} {ds : List D} {S : Sto} {Q : D → Sto → Prop} {X : Exc → Sto → Prop} : Wp (dFn n Fb ds S) Q X = Wp (Fb (startD n ds) S) (kFn Q) X := by
  unfold dFn
  cases h : Fb (startD n ds) S with
  | ok fl S1 => cases fl <;> rfl
  | exc x S1 => rfl
  | stuck => rfl
theorem kFn_nx {Q : D → Sto → Prop} {sd : Sl} {S : Sto} : kFn Q (.nx sd) S = Q .non S := rfl
theorem kFn_ret {Q : D → Sto → Prop} {d : D} {S : Sto} : kFn Q (.ret d) S = Q d S := rfl
theorem w_sTry {Fb : Sl → Sto → Res Fl} {Fx : Exc → Sto → Res D} {sd : Sl} {S : Sto} {Q : Fl → Sto → Prop} {X : Exc → Sto → Prop} : Wp (sTry Fb Fx sd S) Q X = Wp (Fb sd S) Q (fun x S => Wp (Fx x S) (fun d S => Q (.ret d) S) X) := by
  unfold sTry
  cases Fb sd S with
  | ok fl S1 => rfl
  | exc x S1 =>
    show Wp ((Fx x S1).bind _) Q X = _
    rw [w_bind]; rfl
  | stuck => rfl
theorem w_dKind {Fx : Exc → Sto → Res D} {fb : Sl → Sto → Res D} {sd : Sl} {S : Sto} {Q : D → Sto → Prop} {X : Exc → Sto → Prop} : Wp (dKind Fx fb sd S) Q X = Wp (fb sd S) Q (fun x S => Wp (Fx x S) Q (fun _ _ => False)) := by
  unfold dKind
  cases fb sd S with
  | ok d S1 => rfl
  | exc x S1 =>
    show Wp (match Fx x S1 with
      | .ok d S2 => .ok d S2
      | _ => .stuck) Q X = _
    show _ = Wp (Fx x S1) Q _
    cases Fx x S1 <;> rfl
  | stuck => rfl
theorem w_sFor {fi : Sl → Sto → Res ItD} {ga : D → Sl → Sto → Res Sl} {fb : Sl → Sto → Res Fl} {sd : Sl} {S : Sto} {Q : Fl → Sto → Prop} {X : Exc → Sto → Prop} :
    Wp (sFor fi ga fb sd S) Q X = Wp (fi sd S) (kB (fun it S1 => loopD it.chk ga fb it.items sd S1) Q X) X := w_bind
theorem w_loop {chk : Sto → Bool} {ga : D → Sl → Sto → Res Sl} {fb : Sl → Sto → Res Fl} {Q : Fl → Sto → Prop} {X : Exc → Sto → Prop} (I : List D → Sl → Sto → Prop) (hc : ∀ xs sd S, I xs sd S → chk S = true)
    (h0 : ∀ sd S, I [] sd S → Q (.nx sd) S)
    (h1 : ∀ x xs sd S, I (x :: xs) sd S → Wp (ga x sd S) (fun sd1 S1 => Wp (fb sd1 S1) (fun fl S2 => match fl with
      | .nx sd2 => I xs sd2 S2
      | .cnt sd2 => I xs sd2 S2
      | .brk sd2 => Q (.nx sd2) S2
      | .ret d => Q (.ret d) S2) X) X) :
    ∀ xs sd S, I xs sd S → Wp (loopD chk ga fb xs sd S) Q X := by
  intro xs
  induction xs with
  | nil =>
    intro sd S h
    unfold loopD
    rw [if_pos (hc _ _ _ h)]
    exact h0 sd S h
  | cons x xs ih =>
    intro sd S h
    unfold loopD
    rw [if_pos (hc _ _ _ h), w_bind]
    refine Wp.mono (h1 x xs sd S h) (fun sd1 S1 h2 => ?_) fun _ _ z => z
    show Wp ((fb sd1 S1).bind _) Q X
    rw [w_bind]
    refine Wp.mono h2 (fun fl S2 h3 => ?_) fun _ _ z => z
    show Wp (match fl with
      | .nx sd2 => loopD chk ga fb xs sd2 S2
      | .cnt sd2 => loopD chk ga fb xs sd2 S2
      | .brk sd2 => .ok (.nx sd2) S2
      | .ret d => .ok (.ret d) S2) Q X
    cases fl with
    | nx sd2 => exact ih sd2 S2 h3
    | cnt sd2 => exact ih sd2 S2 h3
    | brk sd2 => exact h3
    | ret d => exact h3
theorem z6 {ga : D → Sl → Sto → Res Sl} {fb : Sl → Sto → Res Fl} {sd : Sl} {S : Sto} {Q : Fl → Sto → Prop} {X : Exc → Sto → Prop} : Wp (loopD yes ga fb [] sd S) Q X = Q (.nx sd) S := rfl
theorem z5 {ga : D → Sl → Sto → Res Sl} {fb : Sl → Sto → Res Fl} {x : D} {xs : List D} {sd : Sl} {S : Sto} {Q : Fl → Sto → Prop} {X : Exc → Sto → Prop} : Wp (loopD yes ga fb (x :: xs) sd S) Q X =
    Wp ((ga x sd S).bind fun sd1 S1 => (fb sd1 S1).bind fun fl S2 => match fl with
      | .nx sd2 => loopD yes ga fb xs sd2 S2
      | .cnt sd2 => loopD yes ga fb xs sd2 S2
      | .brk sd2 => .ok (.nx sd2) S2
      | .ret d => .ok (.ret d) S2) Q X := rfl
theorem w_dVar {i : Nat} {sd : Sl} {S : Sto} {Q : D → Sto → Prop} {X : Exc → Sto → Prop} : Wp (dVar i  sd S) Q X = Wp (match sd[i]? with
  | some (some d) => .ok d S
  | _ => .stuck) Q X := rfl
theorem w_dC {d : D} {sd : Sl} {S : Sto} {Q : D → Sto → Prop} {X : Exc → Sto → Prop} : Wp (dC d  sd S) Q X = Wp (.ok d S) Q X := rfl
theorem w_dNil {sd : Sl} {S : Sto} {Q : (List D) → Sto → Prop} {X : Exc → Sto → Prop} : Wp (dNil   sd S) Q X = Wp (.ok [] S) Q X := rfl
theorem w_dCons {f : Sl → Sto → Res D} {g : Sl → Sto → Res (List D)} {sd : Sl} {S : Sto} {Q : (List D) → Sto → Prop} {X : Exc → Sto → Prop} : Wp (dCons f g  sd S) Q X = Wp ((f sd S).bind fun d S1 => (g sd S1).bind fun ds S2 => .ok (d :: ds) S2) Q X := rfl
theorem w_dTup {f : Sl → Sto → Res (List D)} {sd : Sl} {S : Sto} {Q : D → Sto → Prop} {X : Exc → Sto → Prop} : Wp (dTup f  sd S) Q X = Wp ((f sd S).bind fun ds S1 => if ds.length ≤ sizeLine then .ok (.tup ds) S1 else .stuck) Q X := rfl
theorem w_dLst {f : Sl → Sto → Res (List D)} {sd : Sl} {S : Sto} {Q : D → Sto → Prop} {X : Exc → Sto → Prop} : Wp (dLst f  sd S) Q X = Wp ((f sd S).bind fun ds S1 => if ds.length ≤ sizeLine then .ok (.ref S1.length) (S1 ++ [.lst ds]) else .stuck) Q X := rfl
theorem w_d2 {g : D → D → Sto → Res D} {fa fb : Sl → Sto → Res D} {sd : Sl} {S : Sto} {Q : D → Sto → Prop} {X : Exc → Sto → Prop} : Wp (d2 g fa fb  sd S) Q X = Wp ((fa sd S).bind fun x S1 => (fb sd S1).bind fun y S2 => g x y S2) Q X := rfl
theorem w_d2T {g : D → D → Sto → Res D} {fa fb : Sl → Sto → Res D} {sd : Sl} {S : Sto} {Q : Bool → Sto → Prop} {X : Exc → Sto → Prop} : Wp (d2T g fa fb  sd S) Q X = Wp ((d2 g fa fb sd S).bind fun d S1 => match d with
  | .bl b => .ok b S1
  | _ => .stuck) Q X := rfl
theorem w_d3 {g g' : D → D → Sto → Res D} {fa fb fc : Sl → Sto → Res D} {sd : Sl} {S : Sto} {Q : D → Sto → Prop} {X : Exc → Sto → Prop} : Wp (d3 g g' fa fb fc  sd S) Q X = Wp ((fa sd S).bind fun x S1 => (fb sd S1).bind fun y S2 => (g x y S2).bind fun z S3 => match z with
  | .bl true => (fc sd S3).bind fun w S4 => g' y w S4
  | .bl false => .ok (.bl false) S3
  | _ => .stuck) Q X := rfl
theorem w_d3T {g g' : D → D → Sto → Res D} {fa fb fc : Sl → Sto → Res D} {sd : Sl} {S : Sto} {Q : Bool → Sto → Prop} {X : Exc → Sto → Prop} : Wp (d3T g g' fa fb fc  sd S) Q X = Wp ((d3 g g' fa fb fc sd S).bind fun d S1 => match d with
  | .bl b => .ok b S1
  | _ => .stuck) Q X := rfl
theorem w_tstB {f : Sl → Sto → Res D} {sd : Sl} {S : Sto} {Q : Bool → Sto → Prop} {X : Exc → Sto → Prop} : Wp (tstB f  sd S) Q X = Wp ((f sd S).bind fun d S1 => match d with
  | .bl b => .ok b S1
  | _ => .stuck) Q X := rfl
theorem w_tAndD {f g : Sl → Sto → Res Bool} {sd : Sl} {S : Sto} {Q : Bool → Sto → Prop} {X : Exc → Sto → Prop} : Wp (tAndD f g  sd S) Q X = Wp ((f sd S).bind fun b S1 => if b then g sd S1 else .ok false S1) Q X := rfl
theorem w_tOrD {f g : Sl → Sto → Res Bool} {sd : Sl} {S : Sto} {Q : Bool → Sto → Prop} {X : Exc → Sto → Prop} : Wp (tOrD f g  sd S) Q X = Wp ((f sd S).bind fun b S1 => if b then .ok true S1 else g sd S1) Q X := rfl
theorem w_tNotD {f : Sl → Sto → Res Bool} {sd : Sl} {S : Sto} {Q : Bool → Sto → Prop} {X : Exc → Sto → Prop} : Wp (tNotD f  sd S) Q X = Wp ((f sd S).bind fun b S1 => .ok (!b) S1) Q X := rfl
theorem w_dAnd {f g : Sl → Sto → Res D} {sd : Sl} {S : Sto} {Q : D → Sto → Prop} {X : Exc → Sto → Prop} : Wp (dAnd f g  sd S) Q X = Wp ((f sd S).bind fun d S1 => match d with
  | .bl true => g sd S1
  | .bl false => .ok (.bl false) S1
  | _ => .stuck) Q X := rfl
theorem w_dOr {f g : Sl → Sto → Res D} {sd : Sl} {S : Sto} {Q : D → Sto → Prop} {X : Exc → Sto → Prop} : Wp (dOr f g  sd S) Q X = Wp ((f sd S).bind fun d S1 => match d with
  | .bl true => .ok (.bl true) S1
  | .bl false => g sd S1
  | _ => .stuck) Q X := rfl
theorem w_dNot {f : Sl → Sto → Res D} {sd : Sl} {S : Sto} {Q : D → Sto → Prop} {X : Exc → Sto → Prop} : Wp (dNot f  sd S) Q X = Wp ((f sd S).bind fun d S1 => match d with
  | .bl b => .ok (.bl (!b)) S1
  | _ => .stuck) Q X := rfl
theorem w_dIf {c : Sl → Sto → Res Bool} {f g : Sl → Sto → Res D} {sd : Sl} {S : Sto} {Q : D → Sto → Prop} {X : Exc → Sto → Prop} : Wp (dIf c f g  sd S) Q X = Wp ((c sd S).bind fun b S1 => if b then f sd S1 else g sd S1) Q X := rfl
theorem w_dNeg {f : Sl → Sto → Res D} {sd : Sl} {S : Sto} {Q : D → Sto → Prop} {X : Exc → Sto → Prop} : Wp (dNeg f  sd S) Q X = Wp ((f sd S).bind fun d S1 => match d with
  | .int i => .ok (.int (-i)) S1
  | _ => .stuck) Q X := rfl
theorem w_sNext {sd : Sl} {S : Sto} {Q : Fl → Sto → Prop} {X : Exc → Sto → Prop} : Wp (sNext   sd S) Q X = Wp (.ok (.nx sd) S) Q X := rfl
theorem w_sSeq {f g : Sl → Sto → Res Fl} {sd : Sl} {S : Sto} {Q : Fl → Sto → Prop} {X : Exc → Sto → Prop} : Wp (sSeq f g  sd S) Q X = Wp ((f sd S).bind fun fl S1 => match fl with
  | .nx sd1 => g sd1 S1
  | r => .ok r S1) Q X := rfl
theorem w_sIf {c : Sl → Sto → Res Bool} {f g : Sl → Sto → Res Fl} {sd : Sl} {S : Sto} {Q : Fl → Sto → Prop} {X : Exc → Sto → Prop} : Wp (sIf c f g  sd S) Q X = Wp ((c sd S).bind fun b S1 => if b then f sd S1 else g sd S1) Q X := rfl
theorem w_sRet {f : Sl → Sto → Res D} {sd : Sl} {S : Sto} {Q : Fl → Sto → Prop} {X : Exc → Sto → Prop} : Wp (sRet f  sd S) Q X = Wp ((f sd S).bind fun d S1 => .ok (.ret d) S1) Q X := rfl
theorem w_sExpr {f : Sl → Sto → Res D} {sd : Sl} {S : Sto} {Q : Fl → Sto → Prop} {X : Exc → Sto → Prop} : Wp (sExpr f  sd S) Q X = Wp ((f sd S).bind fun _ S1 => .ok (.nx sd) S1) Q X := rfl
theorem w_sAsg {f : Sl → Sto → Res D} {g : D → Sl → Sto → Res Sl} {sd : Sl} {S : Sto} {Q : Fl → Sto → Prop} {X : Exc → Sto → Prop} : Wp (sAsg f g  sd S) Q X = Wp ((f sd S).bind fun d S1 => (g d sd S1).bind fun sd1 S2 => .ok (.nx sd1) S2) Q X := rfl
theorem w_gVar {i : Nat} {d : D} {sd : Sl} {S : Sto} {Q : Sl → Sto → Prop} {X : Exc → Sto → Prop} : Wp (gVar i d sd S) Q X = Wp (.ok (sd.set i (some d)) S) Q X := rfl
theorem w_sBrk {sd : Sl} {S : Sto} {Q : Fl → Sto → Prop} {X : Exc → Sto → Prop} : Wp (sBrk   sd S) Q X = Wp (.ok (.brk sd) S) Q X := rfl
theorem w_gsNil {ds : List D} {sd : Sl} {S : Sto} {Q : Sl → Sto → Prop} {X : Exc → Sto → Prop} : Wp (gsNil  ds sd S) Q X = Wp (match ds with
  | [] => .ok sd S
  | _ => .stuck) Q X := rfl
theorem w_gsCons {g : D → Sl → Sto → Res Sl} {k : List D → Sl → Sto → Res Sl} {ds : List D} {sd : Sl} {S : Sto} {Q : Sl → Sto → Prop} {X : Exc → Sto → Prop} : Wp (gsCons g k ds sd S) Q X = Wp (match ds with
  | d :: r => (g d sd S).bind fun sd1 S1 => k r sd1 S1
  | _ => .stuck) Q X := rfl
theorem w_gTupD {n : Nat} {k : List D → Sl → Sto → Res Sl} {d : D} {sd : Sl} {S : Sto} {Q : Sl → Sto → Prop} {X : Exc → Sto → Prop} : Wp (gTupD n k d sd S) Q X = Wp (match d with
  | .tup ds => if ds.length = n then k ds sd S else .stuck
  | d => match lsD d S with
    | some ds => if ds.length = n then k ds sd S else .stuck
    | _ => .stuck) Q X := rfl
theorem w_sPar {i j : Nat} {f : Sl → Sto → Res (List D)} {sd : Sl} {S : Sto} {Q : Fl → Sto → Prop} {X : Exc → Sto → Prop} : Wp (sPar i j f  sd S) Q X = Wp ((f sd S).bind fun ds S1 => match ds with
  | [x, y] => .ok (.nx ((sd.set i (some x)).set j (some y))) S1
  | _ => .stuck) Q X := rfl
theorem w_iVal {f : Sl → Sto → Res D} {sd : Sl} {S : Sto} {Q : ItD → Sto → Prop} {X : Exc → Sto → Prop} : Wp (iVal f  sd S) Q X = Wp ((f sd S).bind fun d S1 => match itemsD d S1 with
  | some it => .ok it S1
  | none => .stuck) Q X := rfl
theorem w_iEnumD {f : Sl → Sto → Res D} {sd : Sl} {S : Sto} {Q : ItD → Sto → Prop} {X : Exc → Sto → Prop} : Wp (iEnumD f  sd S) Q X = Wp ((f sd S).bind fun d S1 => match itemsD d S1 with
  | some it => .ok ⟨enumL 0 it.items, it.chk⟩ S1
  | none => .stuck) Q X := rfl
theorem w_iZipD {f g : Sl → Sto → Res D} {sd : Sl} {S : Sto} {Q : ItD → Sto → Prop} {X : Exc → Sto → Prop} : Wp (iZipD f g  sd S) Q X = Wp ((f sd S).bind fun d S1 => (g sd S1).bind fun e S2 => match itemsD d S2, itemsD e S2 with
  | some it, some jt => .ok ⟨zipL it.items jt.items, fun S => it.chk S && jt.chk S⟩ S2
  | _, _ => .stuck) Q X := rfl
theorem w_iRngD1 {f : Sl → Sto → Res D} {sd : Sl} {S : Sto} {Q : ItD → Sto → Prop} {X : Exc → Sto → Prop} : Wp (iRngD1 f  sd S) Q X = Wp ((f sd S).bind fun d S1 => match d with
  | .int j => if bnd 62 j = true then .ok ⟨rangeL 0 j.toNat, yes⟩ S1 else .stuck
  | _ => .stuck) Q X := rfl
theorem w_iRngD2 {f g : Sl → Sto → Res D} {sd : Sl} {S : Sto} {Q : ItD → Sto → Prop} {X : Exc → Sto → Prop} : Wp (iRngD2 f g  sd S) Q X = Wp ((f sd S).bind fun d S1 => (g sd S1).bind fun e S2 => match d, e with
  | .int i, .int j => if bnd 62 i = true ∧ bnd 62 j = true then .ok ⟨rangeL i (j - i).toNat, yes⟩ S2 else .stuck
  | _, _ => .stuck) Q X := rfl
theorem w_dComp {vs : List Nat} {fi : Sl → Sto → Res ItD} {ga : D → Sl → Sto → Res Sl} {ft : Sl → Sto → Res Bool} {fe : Sl → Sto → Res D} {sd : Sl} {S : Sto} {Q : D → Sto → Prop} {X : Exc → Sto → Prop} : Wp (dComp vs fi ga ft fe  sd S) Q X = Wp ((fi sd S).bind fun it S1 => (compD it.chk ga ft fe S1.length (wipeD sd vs) it.items (S1 ++ [.lst []])).bind fun _ S2 => .ok (.ref S1.length) S2) Q X := rfl
theorem w_tYesD {sd : Sl} {S : Sto} {Q : Bool → Sto → Prop} {X : Exc → Sto → Prop} : Wp (tYesD   sd S) Q X = Wp (.ok true S) Q X := rfl
theorem w_gSubD {set : D → D → D → Sto → Res Unit} {fo fi : Sl → Sto → Res D} {v : D} {sd : Sl} {S : Sto} {Q : Sl → Sto → Prop} {X : Exc → Sto → Prop} : Wp (gSubD set fo fi v sd S) Q X = Wp ((fo sd S).bind fun o S1 => (fi sd S1).bind fun i S2 => (set o i v S2).bind fun _ S3 => .ok sd S3) Q X := rfl
theorem w_oNone {sd : Sl} {S : Sto} {Q : (Option Int) → Sto → Prop} {X : Exc → Sto → Prop} : Wp (oNone   sd S) Q X = Wp (.ok none S) Q X := rfl
theorem w_oSome {f : Sl → Sto → Res D} {sd : Sl} {S : Sto} {Q : (Option Int) → Sto → Prop} {X : Exc → Sto → Prop} : Wp (oSome f  sd S) Q X = Wp ((f sd S).bind fun d S1 => match d with
  | .int i => .ok (some i) S1
  | _ => .stuck) Q X := rfl
theorem w_dSlice {f : Sl → Sto → Res D} {g h : Sl → Sto → Res (Option Int)} {sd : Sl} {S : Sto} {Q : D → Sto → Prop} {X : Exc → Sto → Prop} : Wp (dSlice f g h  sd S) Q X = Wp ((f sd S).bind fun x S1 => (g sd S1).bind fun lo S2 => (h sd S2).bind fun hi S3 => sliceD x lo hi S3) Q X := rfl
theorem w_dCall {g : List D → Sto → Res D} {f : Sl → Sto → Res (List D)} {sd : Sl} {S : Sto} {Q : D → Sto → Prop} {X : Exc → Sto → Prop} : Wp (dCall g f  sd S) Q X = Wp ((f sd S).bind fun ds S1 => g ds S1) Q X := rfl
theorem w_dFld {cs : List Nat} {f : Str} {fo : Sl → Sto → Res D} {sd : Sl} {S : Sto} {Q : D → Sto → Prop} {X : Exc → Sto → Prop} : Wp (dFld cs f fo  sd S) Q X = Wp ((fo sd S).bind fun d S1 => getF cs f d S1) Q X := rfl
theorem w_sFldD {cs : List Nat} {f : Str} {fo fv : Sl → Sto → Res D} {sd : Sl} {S : Sto} {Q : Fl → Sto → Prop} {X : Exc → Sto → Prop} : Wp (sFldD cs f fo fv  sd S) Q X = Wp ((fv sd S).bind fun v S1 => (fo sd S1).bind fun o S2 => (setF cs f o v S2).bind fun _ S3 => .ok (.nx sd) S3) Q X := rfl
theorem w_gFldD {cs : List Nat} {f : Str} {fo : Sl → Sto → Res D} {v : D} {sd : Sl} {S : Sto} {Q : Sl → Sto → Prop} {X : Exc → Sto → Prop} : Wp (gFldD cs f fo v sd S) Q X = Wp ((fo sd S).bind fun o S2 => (setF cs f o v S2).bind fun _ S3 => .ok sd S3) Q X := rfl
theorem w_dCallF {n : Nat} {F : List D → Sto → Res D} {fs : Sl → Sto → Res (List D)} {sd : Sl} {S : Sto} {Q : D → Sto → Prop} {X : Exc → Sto → Prop} : Wp (dCallF n F fs  sd S) Q X = Wp ((fs sd S).bind fun ds S1 => if ds.length = n then F ds S1 else .stuck) Q X := rfl
theorem w_dMeth {c : Nat} {m : Str} {n : Nat} {F : List D → Sto → Res D} {fo : Sl → Sto → Res D} {fs : Sl → Sto → Res (List D)} {sd : Sl} {S : Sto} {Q : D → Sto → Prop} {X : Exc → Sto → Prop} : Wp (dMeth c m n F fo fs  sd S) Q X = Wp ((fo sd S).bind fun d S1 => match d with
  | .ref l => match S1[l]? with
    | some (.ins c' gs) => if c' = c ∧ gs.lookup m = none then (fs sd S1).bind fun ds S2 => if ds.length + 1 = n then F (d :: ds) S2 else .stuck else .stuck
    | _ => .stuck
  | _ => .stuck) Q X := rfl
theorem w_dMake {c : Nat} {n : Nat} {F : List D → Sto → Res D} {fs : Sl → Sto → Res (List D)} {sd : Sl} {S : Sto} {Q : D → Sto → Prop} {X : Exc → Sto → Prop} : Wp (dMake c n F fs  sd S) Q X = Wp ((fs sd S).bind fun ds S1 => if ds.length + 1 = n then (F (.ref S1.length :: ds) (S1 ++ [.ins c []])).bind fun r S2 => match r with
    | .non => .ok (.ref S1.length) S2
    | _ => .stuck
  else .stuck) Q X := rfl
theorem w_sRaise {c : Nat} {fs : List Str} {fa : Sl → Sto → Res (List D)} {sd : Sl} {S : Sto} {Q : Fl → Sto → Prop} {X : Exc → Sto → Prop} : Wp (sRaise c fs fa  sd S) Q X = Wp ((fa sd S).bind fun ds S1 => match fs, ds with
  | [f], [d] => .exc ⟨c, some [(f, d)]⟩ S1
  | [f, g], [d, e] => .exc ⟨c, some [(g, e), (f, d)]⟩ S1
  | _, _ => .stuck) Q X := rfl
theorem w_sRaiseT {c : Nat} {sd : Sl} {S : Sto} {Q : Fl → Sto → Prop} {X : Exc → Sto → Prop} : Wp (sRaiseT c  sd S) Q X = Wp (.exc ⟨c, none⟩ S) Q X := rfl
theorem w_dExF {i : Nat} {a : Addr} {d : Option Addr} {f : Str} {sd : Sl} {S : Sto} {Q : D → Sto → Prop} {X : Exc → Sto → Prop} : Wp (dExF i a d f  sd S) Q X = Wp (match sd[i]? with
  | some (some (.exn a' dd ns ds)) => if a' = a ∧ d = some dd ∧ ns ≠ [] then (match lookN ns ds f with
    | some v => .ok v S
    | none => .stuck) else .stuck
  | _ => .stuck) Q X := rfl
theorem w_dExI {i : Nat} {a : Addr} {d : Option Addr} {b : Bool} {sd : Sl} {S : Sto} {Q : D → Sto → Prop} {X : Exc → Sto → Prop} : Wp (dExI i a d b  sd S) Q X = Wp (match sd[i]? with
  | some (some (.exn a' dd ns _)) => if a' = a ∧ (d = none ∨ (d = some dd ∧ ns ≠ [])) then .ok (.bl b) S else .stuck
  | _ => .stuck) Q X := rfl
theorem w_dExFc {i : Nat} {c : Nat} {cs : List Nat} {a : Addr} {d : Option Addr} {f : Str} {sd : Sl} {S : Sto} {Q : D → Sto → Prop} {X : Exc → Sto → Prop} : Wp (dExFc i c cs a d f  sd S) Q X = Wp (if c ∈ cs then dExF i a d f sd S else .stuck) Q X := rfl
theorem w_dBm {T : String} {g : D → List D → Sto → Res D} {fo : Sl → Sto → Res D} {fs : Sl → Sto → Res (List D)} {sd : Sl} {S : Sto} {Q : D → Sto → Prop} {X : Exc → Sto → Prop} : Wp (dBm T g fo fs  sd S) Q X = Wp ((fo sd S).bind fun d S1 => if isTy T d S1 then (fs sd S1).bind fun ds S2 => g d ds S2 else .stuck) Q X := rfl
theorem w_dIsi {ts : List String} {f : Sl → Sto → Res D} {sd : Sl} {S : Sto} {Q : D → Sto → Prop} {X : Exc → Sto → Prop} : Wp (dIsi ts f  sd S) Q X = Wp ((f sd S).bind fun d S1 => match tyS d S1 with
  | some t => .ok (.bl (ts.any fun b => isT t b)) S1
  | none => .stuck) Q X := rfl
theorem w_dFrz {f : Sl → Sto → Res D} {sd : Sl} {S : Sto} {Q : D → Sto → Prop} {X : Exc → Sto → Prop} : Wp (dFrz f  sd S) Q X = Wp ((f sd S).bind fun d S1 => frzD S d S1) Q X := rfl
theorem w_dLstF {f : Sl → Sto → Res (List D)} {sd : Sl} {S : Sto} {Q : D → Sto → Prop} {X : Exc → Sto → Prop} : Wp (dLstF f  sd S) Q X = Wp ((f sd S).bind fun ds S1 => if ds.length ≤ sizeLine then .ok (.frl ds) S1 else .stuck) Q X := rfl
theorem w_dSliceF {f : Sl → Sto → Res D} {g h : Sl → Sto → Res (Option Int)} {sd : Sl} {S : Sto} {Q : D → Sto → Prop} {X : Exc → Sto → Prop} : Wp (dSliceF f g h  sd S) Q X = Wp ((f sd S).bind fun x S1 => (g sd S1).bind fun lo S2 => (h sd S2).bind fun hi S3 => sliceF x lo hi S3) Q X := rfl
-- w_dVar, w_dC, w_dNil, w_dCons, w_dTup, w_dLst, w_d2, w_d2T, w_d3, w_d3T, w_tstB, w_tAndD, w_tOrD, w_tNotD, w_dAnd, w_dOr, w_dNot, w_dIf, w_dNeg, w_sNext, w_sSeq, w_sIf, w_sRet, w_sExpr, w_sAsg, w_gVar, w_sBrk, w_gsNil, w_gsCons, w_gTupD, w_sPar, w_iVal, w_iEnumD, w_iZipD, w_iRngD1, w_iRngD2, w_dComp, w_tYesD, w_gSubD, w_oNone, w_oSome, w_dSlice, w_dCall, w_dFld, w_sFldD, w_gFldD, w_dCallF, w_dMeth, w_dMake, w_sRaise, w_sRaiseT, w_dExF, w_dExI, w_dExFc, w_dBm, w_dIsi, w_dFrz, w_dLstF, w_dSliceF

section
variable {S : Sto} {Q : D → Sto → Prop} {X : Exc → Sto → Prop}
theorem w_addI {a b : Int} : Wp (addD (.int a) (.int b) S) Q X = Q (.int (a + b)) S := rfl
theorem w_subI {a b : Int} : Wp (subD (.int a) (.int b) S) Q X = Q (.int (a - b)) S := rfl
theorem w_modI {a b : Int} (h : 0 < b) : Wp (modD (.int a) (.int b) S) Q X = Q (.int (a % b)) S := by simp only [modD, if_pos h]; rfl
theorem w_fdivI {a b : Int} (h : fdOk b = true) : Wp (fdivD (.int a) (.int b) S) Q X = Q (.int (a / b)) S := by simp only [fdivD, if_pos h]; rfl
theorem w_mulI {a b : Int} (h : (bnd 63 a || bnd 63 b) = true) : Wp (mulD (.int a) (.int b) S) Q X = Q (.int (a * b)) S := by simp only [mulD, if_pos h]; rfl
theorem w_ltI {a b : Int} : Wp (ltD (.int a) (.int b) S) Q X = Q (.bl (decide (a < b))) S := rfl
theorem w_leI {a b : Int} : Wp (leD (.int a) (.int b) S) Q X = Q (.bl (decide (a ≤ b))) S := rfl
theorem w_gtI {a b : Int} : Wp (gtD (.int a) (.int b) S) Q X = Q (.bl (decide (b < a))) S := rfl
theorem w_geI {a b : Int} : Wp (geD (.int a) (.int b) S) Q X = Q (.bl (decide (b ≤ a))) S := rfl
theorem w_eqI {a b : Int} : Wp (eqD (.int a) (.int b) S) Q X = Q (.bl (decide (a = b))) S := rfl
theorem w_neI {a b : Int} : Wp (neD (.int a) (.int b) S) Q X = Q (.bl (!decide (a = b))) S := rfl
theorem w_eqS {a b : Str} : Wp (eqD (.str a) (.str b) S) Q X = Q (.bl (decide (a = b))) S := rfl
theorem w_neS {a b : Str} : Wp (neD (.str a) (.str b) S) Q X = Q (.bl (!decide (a = b))) S := rfl
theorem w_lenT {ds : List D} : Wp (lenD [.tup ds] S) Q X = Q (.int (ds.length : Nat)) S := rfl
theorem w_lenF {ds : List D} : Wp (lenD [.frl ds] S) Q X = Q (.int (ds.length : Nat)) S := rfl
theorem w_lenS {z : Str} (h : z.length ≤ sizeLine) : Wp (lenD [.str z] S) Q X = Q (.int (z.length : Nat)) S := by simp only [lenD, if_pos h]; rfl
theorem w_ixT2 {ds : List D} {i : Int} : Wp (ixD (.tup ds) (.int i) S) Q X = Wp (match atI ds i with
  | some d => .ok d S
  | none => .stuck) Q X := rfl
theorem w_ixF2 {ds : List D} {i : Int} : Wp (ixD (.frl ds) (.int i) S) Q X = Wp (match atI ds i with
  | some d => .ok d S
  | none => .stuck) Q X := rfl
theorem w_ixL2 {l : Nat} {ds : List D} {i : Int} (hl : S[l]? = some (.lst ds)) : Wp (ixD (.ref l) (.int i) S) Q X = Wp (match atI ds i with
  | some d => .ok d S
  | none => .stuck) Q X := by simp only [ixD, hl] <;> rfl
theorem w_setL2 {l : Nat} {ds : List D} {i : Int} {v : D} {Q : Unit → Sto → Prop} (hl : S[l]? = some (.lst ds)) : Wp (setD (.ref l) (.int i) v S) Q X = Wp (match ixN ds.length i with
  | some j => .ok () (S.set l (.lst (ds.set j v)))
  | none => .stuck) Q X := by simp only [setD, hl] <;> rfl
end
theorem w_getF {cs : List Nat} {f : Str} {l c : Nat} {fs : List (Str × D)} {v : D} {S : Sto} {Q : D → Sto → Prop} {X : Exc → Sto → Prop} (h : S[l]? = some (.ins c fs)) (hc : c ∈ cs) (hv : fs.lookup f = some v) : Wp (getF cs f (.ref l) S) Q X = Q v S := by
  simp only [getF, h]
  rw [if_pos hc, hv]
  rfl
theorem atI_pos {α : Type} {xs : List α} {i : Int} (h : 0 ≤ i) : atI xs i = xs[i.toNat]? := by
  unfold atI ixN
  rw [if_pos h]
  by_cases hl : i < xs.length
  · rw [if_pos hl]; rfl
  · rw [if_neg hl]
    rw [List.getElem?_eq_none (by omega)]
    rfl
theorem ixN_nat {n : Nat} {i : Int} (h : 0 ≤ i) (h2 : i < n) : ixN n i = some i.toNat := by
  unfold ixN
  rw [if_pos h, if_pos h2]
theorem set_same {S : Sto} {l : Nat} {o : DO} (h : l < S.length) : (S.set l o)[l]? = some o := by rw [List.getElem?_set_self h]
def Grow (S S' : Sto) : Prop := ∃ T, S' = S ++ T
theorem Grow.refl (S : Sto) : Grow S S := ⟨[], by simp⟩
theorem Grow.trans {A B C : Sto} (a : Grow A B) (b : Grow B C) : Grow A C := by
  obtain ⟨T, rfl⟩ := a
  obtain ⟨U, rfl⟩ := b
  exact ⟨T ++ U, by simp⟩
theorem Grow.one (S : Sto) (o : DO) : Grow S (S ++ [o]) := ⟨[o], rfl⟩
theorem Grow.get {S S' : Sto} (g : Grow S S') {l : Nat} {o : DO} (h : S[l]? = some o) : S'[l]? = some o := by
  obtain ⟨T, rfl⟩ := g
  rw [List.getElem?_append_left (List.getElem?_eq_some_iff.mp h).1]; exact h
theorem Grow.len {S S' : Sto} (g : Grow S S') : S.length ≤ S'.length := by
  obtain ⟨T, rfl⟩ := g
  simp
theorem set_last {S : Sto} {o o' : DO} : (S ++ [o]).set S.length o' = S ++ [o'] := by
  rw [List.set_append_right _ _ (Nat.le_refl _)]
  simp
theorem wp_eq {α : Type} {r : Res α} {a : α} {S : Sto} {Q : α → Sto → Prop} {X : Exc → Sto → Prop} (h : r = .ok a S) : Wp r Q X = Q a S := by rw [h]; rfl
theorem eq_of_wp {α : Type} {r : Res α} {a : α} {S : Sto} (h : Wp r (fun d S' => d = a ∧ S' = S) (fun _ _ => False)) : r = .ok a S := by
  obtain ⟨d, S', e, rfl, rfl⟩ := h.ok
  exact e
theorem c_0 : ((0 : Nat) : Int) = 0 := rfl
theorem c_1 : ((1 : Nat) : Int) = 1 := rfl
theorem c_2 : ((2 : Nat) : Int) = 2 := rfl
theorem c_3 : ((3 : Nat) : Int) = 3 := rfl
theorem c_4 : ((4 : Nat) : Int) = 4 := rfl
theorem c_5 : ((5 : Nat) : Int) = 5 := rfl
theorem c_6 : ((6 : Nat) : Int) = 6 := rfl
theorem c_7 : ((7 : Nat) : Int) = 7 := rfl
theorem c_8 : ((8 : Nat) : Int) = 8 := rfl
theorem c_9 : ((9 : Nat) : Int) = 9 := rfl
theorem c_10 : ((10 : Nat) : Int) = 10 := rfl
theorem c_11 : ((11 : Nat) : Int) = 11 := rfl
theorem c_12 : ((12 : Nat) : Int) = 12 := rfl
theorem sz_0 : (0 ≤ sizeLine) = True := eq_true (by rw [sizeLine_eq]; omega)
theorem sz_1 : (1 ≤ sizeLine) = True := eq_true (by rw [sizeLine_eq]; omega)
theorem sz_2 : (2 ≤ sizeLine) = True := eq_true (by rw [sizeLine_eq]; omega)
theorem sz_3 : (3 ≤ sizeLine) = True := eq_true (by rw [sizeLine_eq]; omega)
theorem sz_4 : (4 ≤ sizeLine) = True := eq_true (by rw [sizeLine_eq]; omega)
theorem sz_5 : (5 ≤ sizeLine) = True := eq_true (by rw [sizeLine_eq]; omega)
theorem sz_6 : (6 ≤ sizeLine) = True := eq_true (by rw [sizeLine_eq]; omega)
theorem sz_7 : (7 ≤ sizeLine) = True := eq_true (by rw [sizeLine_eq]; omega)
theorem sz_8 : (8 ≤ sizeLine) = True := eq_true (by rw [sizeLine_eq]; omega)
theorem sz_9 : (9 ≤ sizeLine) = True := eq_true (by rw [sizeLine_eq]; omega)
theorem sz_10 : (10 ≤ sizeLine) = True := eq_true (by rw [sizeLine_eq]; omega)
theorem sz_11 : (11 ≤ sizeLine) = True := eq_true (by rw [sizeLine_eq]; omega)
theorem sz_12 : (12 ≤ sizeLine) = True := eq_true (by rw [sizeLine_eq]; omega)
theorem sz_13 : (13 ≤ sizeLine) = True := eq_true (by rw [sizeLine_eq]; omega)
theorem sz_14 : (14 ≤ sizeLine) = True := eq_true (by rw [sizeLine_eq]; omega)
theorem sz_15 : (15 ≤ sizeLine) = True := eq_true (by rw [sizeLine_eq]; omega)
theorem sz_16 : (16 ≤ sizeLine) = True := eq_true (by rw [sizeLine_eq]; omega)
theorem off {S T : Sto} {k : Nat} : (S ++ T)[S.length + k]? = T[k]? := by rw [List.getElem?_append_right (Nat.le_add_right _ _), Nat.add_sub_cancel_left]
theorem w_addFI {a b : Int} {S : Sto} {Q : D → Sto → Prop} {X : Exc → Sto → Prop} : Wp (addF (.int a) (.int b) S) Q X = Q (.int (a + b)) S := rfl
theorem w_addFL2 {a b : List D} {S : Sto} {Q : D → Sto → Prop} {X : Exc → Sto → Prop} : Wp (addF (.frl a) (.frl b) S) Q X = Wp (if a.length + b.length ≤ sizeLine then .ok (.frl (a ++ b)) S else .stuck) Q X := rfl
theorem w_addFT2 {a b : List D} {S : Sto} {Q : D → Sto → Prop} {X : Exc → Sto → Prop} : Wp (addF (.tup a) (.tup b) S) Q X = Wp (if a.length + b.length ≤ sizeLine then .ok (.tup (a ++ b)) S else .stuck) Q X := rfl
theorem w_addS {a b : Str} {S : Sto} {Q : D → Sto → Prop} {X : Exc → Sto → Prop} (h : a.length + b.length ≤ sizeLine) : Wp (addD (.str a) (.str b) S) Q X = Q (.str (a ++ b)) S := by simp only [addD, if_pos h]; rfl
theorem w_frzI {i : Int} {S0 S : Sto} {Q : D → Sto → Prop} {X : Exc → Sto → Prop} : Wp (frzD S0 (.int i) S) Q X = Q (.int i) S := rfl
theorem w_frzS {i : Str} {S0 S : Sto} {Q : D → Sto → Prop} {X : Exc → Sto → Prop} : Wp (frzD S0 (.str i) S) Q X = Q (.str i) S := rfl
theorem w_frzT {i : List D} {S0 S : Sto} {Q : D → Sto → Prop} {X : Exc → Sto → Prop} : Wp (frzD S0 (.tup i) S) Q X = Q (.tup i) S := rfl
theorem w_frzF {i : List D} {S0 S : Sto} {Q : D → Sto → Prop} {X : Exc → Sto → Prop} : Wp (frzD S0 (.frl i) S) Q X = Q (.frl i) S := rfl
theorem w_frzN {S0 S : Sto} {Q : D → Sto → Prop} {X : Exc → Sto → Prop} : Wp (frzD S0 .non S) Q X = Q .non S := rfl
theorem w_frzB {i : Bool} {S0 S : Sto} {Q : D → Sto → Prop} {X : Exc → Sto → Prop} : Wp (frzD S0 (.bl i) S) Q X = Q (.bl i) S := rfl
theorem get_last {S : Sto} {o : DO} : (S ++ [o])[S.length]? = some o := by simp
theorem it_tuplelist_int : ((["tuple", "list"] : List String).any fun b => isT "int" b) = false := by decide +kernel
theorem it_tuplelist_str : ((["tuple", "list"] : List String).any fun b => isT "str" b) = false := by decide +kernel
theorem it_tuplelist_tuple : ((["tuple", "list"] : List String).any fun b => isT "tuple" b) = true := by decide +kernel
theorem it_tuplelist_list : ((["tuple", "list"] : List String).any fun b => isT "list" b) = true := by decide +kernel
theorem it_tuplelist_bool : ((["tuple", "list"] : List String).any fun b => isT "bool" b) = false := by decide +kernel
theorem it_tuplelist_NoneType : ((["tuple", "list"] : List String).any fun b => isT "NoneType" b) = false := by decide +kernel
theorem it_list_int : ((["list"] : List String).any fun b => isT "int" b) = false := by decide +kernel
theorem it_list_str : ((["list"] : List String).any fun b => isT "str" b) = false := by decide +kernel
theorem it_list_tuple : ((["list"] : List String).any fun b => isT "tuple" b) = false := by decide +kernel
theorem it_list_list : ((["list"] : List String).any fun b => isT "list" b) = true := by decide +kernel
theorem it_list_bool : ((["list"] : List String).any fun b => isT "bool" b) = false := by decide +kernel
theorem it_list_NoneType : ((["list"] : List String).any fun b => isT "NoneType" b) = false := by decide +kernel
theorem it_tuple_int : ((["tuple"] : List String).any fun b => isT "int" b) = false := by decide +kernel
theorem it_tuple_str : ((["tuple"] : List String).any fun b => isT "str" b) = false := by decide +kernel
theorem it_tuple_tuple : ((["tuple"] : List String).any fun b => isT "tuple" b) = true := by decide +kernel
theorem it_tuple_list : ((["tuple"] : List String).any fun b => isT "list" b) = false := by decide +kernel
theorem it_tuple_bool : ((["tuple"] : List String).any fun b => isT "bool" b) = false := by decide +kernel
theorem it_tuple_NoneType : ((["tuple"] : List String).any fun b => isT "NoneType" b) = false := by decide +kernel
theorem it_bool_int : ((["bool"] : List String).any fun b => isT "int" b) = false := by decide +kernel
theorem it_bool_str : ((["bool"] : List String).any fun b => isT "str" b) = false := by decide +kernel
theorem it_bool_tuple : ((["bool"] : List String).any fun b => isT "tuple" b) = false := by decide +kernel
theorem it_bool_list : ((["bool"] : List String).any fun b => isT "list" b) = false := by decide +kernel
theorem it_bool_bool : ((["bool"] : List String).any fun b => isT "bool" b) = true := by decide +kernel
theorem it_bool_NoneType : ((["bool"] : List String).any fun b => isT "NoneType" b) = false := by decide +kernel
theorem it_int_int : ((["int"] : List String).any fun b => isT "int" b) = true := by decide +kernel
theorem it_int_str : ((["int"] : List String).any fun b => isT "str" b) = false := by decide +kernel
theorem it_int_tuple : ((["int"] : List String).any fun b => isT "tuple" b) = false := by decide +kernel
theorem it_int_list : ((["int"] : List String).any fun b => isT "list" b) = false := by decide +kernel
theorem it_int_bool : ((["int"] : List String).any fun b => isT "bool" b) = true := by decide +kernel
theorem it_int_NoneType : ((["int"] : List String).any fun b => isT "NoneType" b) = false := by decide +kernel
theorem it_str_int : ((["str"] : List String).any fun b => isT "int" b) = false := by decide +kernel
theorem it_str_str : ((["str"] : List String).any fun b => isT "str" b) = true := by decide +kernel
theorem it_str_tuple : ((["str"] : List String).any fun b => isT "tuple" b) = false := by decide +kernel
theorem it_str_list : ((["str"] : List String).any fun b => isT "list" b) = false := by decide +kernel
theorem it_str_bool : ((["str"] : List String).any fun b => isT "bool" b) = false := by decide +kernel
theorem it_str_NoneType : ((["str"] : List String).any fun b => isT "NoneType" b) = false := by decide +kernel
theorem ty_int {i : Int} {S : Sto} : tyS (.int i) S = some "int" := rfl
theorem ty_str {i : Str} {S : Sto} : tyS (.str i) S = some "str" := rfl
theorem ty_tuple {i : List D} {S : Sto} : tyS (.tup i) S = some "tuple" := rfl
theorem ty_list {i : List D} {S : Sto} : tyS (.frl i) S = some "list" := rfl
theorem ty_bool {i : Bool} {S : Sto} : tyS (.bl i) S = some "bool" := rfl
theorem ty_non {S : Sto} : tyS .non S = some "NoneType" := rfl
theorem w_eqB {a b : Bool} {S : Sto} {Q : D → Sto → Prop} {X : Exc → Sto → Prop} : Wp (eqD (.bl a) (.bl b) S) Q X = Q (.bl (decide (a = b))) S := rfl
theorem w_neB {a b : Bool} {S : Sto} {Q : D → Sto → Prop} {X : Exc → Sto → Prop} : Wp (neD (.bl a) (.bl b) S) Q X = Q (.bl (!decide (a = b))) S := rfl
theorem w_isN {x : D} {S : Sto} {Q : D → Sto → Prop} {X : Exc → Sto → Prop} : Wp (isD x .non S) Q X = Q (.bl (decide (x = .non))) S := by cases x <;> rfl
theorem w_isNotN {x : D} {S : Sto} {Q : D → Sto → Prop} {X : Exc → Sto → Prop} : Wp (isNotD x .non S) Q X = Q (.bl (!decide (x = .non))) S := by cases x <;> rfl
theorem nn_int {i : Int} : (D.int i = D.non) = False := eq_false (by intro h; cases h)
theorem nn_str {i : Str} : (D.str i = D.non) = False := eq_false (by intro h; cases h)
theorem nn_tuple {i : List D} : (D.tup i = D.non) = False := eq_false (by intro h; cases h)
theorem nn_list {i : List D} : (D.frl i = D.non) = False := eq_false (by intro h; cases h)
theorem nn_bool {i : Bool} : (D.bl i = D.non) = False := eq_false (by intro h; cases h)
end DL

namespace DL
open PySem PySem.Spec PyProof.Rows L2
def su_kind (q : Exc) (a : Addr) (d : Option Addr) : Sl → Sto → Res Fl :=
  (sSeq (sAsg (dLstF (dCons (dExI 1 a d (q.c == 1 || 1 == 0)) (dCons (dExI 1 a d (q.c == 2 || 2 == 0)) (dCons (dExI 1 a d (q.c == 3 || 3 == 0)) (dCons (dExI 1 a d (q.c == 4 || 4 == 0)) dNil))))) (gVar 2))
  (sSeq (sAsg (d2 addF (dVar 2) (dLstF (dCons (dExI 1 a d (q.c == 5 || 5 == 0)) (dCons (dExI 1 a d (q.c == 6 || 6 == 0)) (dCons (dExI 1 a d (q.c == 7 || 7 == 0)) dNil))))) (gVar 2))
  (sSeq (sAsg (d2 addF (dVar 2) (dLstF (dCons (dExI 1 a d (q.c == 8 || 8 == 0)) (dCons (dExI 1 a d (q.c == 9 || 9 == 0)) (dCons (dExI 1 a d (q.c == 10 || 10 == 0)) dNil))))) (gVar 2))
  (sSeq (sAsg (d2 addF (dVar 2) (dLstF (dCons (dExI 1 a d (q.c == 11 || 11 == 0)) (dCons (dExI 1 a d (q.c == 12 || 12 == 0)) (dCons (dExI 1 a d (q.c == 13 || 13 == 0)) dNil))))) (gVar 2))
  (sSeq (sAsg (d2 addF (dVar 2) (dLstF (dCons (dExI 1 a d (q.c == 14 || 14 == 0)) (dCons (dExI 1 a d (q.c == 15 || 15 == 0)) (dCons (dExI 1 a d (q.c == 16 || 16 == 0)) dNil))))) (gVar 2))
  (sSeq (sAsg (dLstF (dCons (dC (.str "BadMachine")) (dCons (dC (.str "NotSound")) (dCons (dC (.str "BadBeat")) (dCons (dC (.str "BadPlain")) (dCons (dC (.str "TooLarge")) (dCons (dC (.str "BadMatch")) (dCons (dC (.str "BadMarks")) (dCons (dC (.str "BadTree")) dNil))))))))) (gVar 3))
  (sSeq (sAsg (d2 addF (dVar 3) (dLstF (dCons (dC (.str "BadProgram")) (dCons (dC (.str "Stuck")) (dCons (dC (.str "BadCircuit")) (dCons (dC (.str "BadPattern")) (dCons (dC (.str "BadPairs")) (dCons (dC (.str "BadNumbers")) (dCons (dC (.str "BadRows")) dNil))))))))) (gVar 3))
  (sSeq (sIf (tOrD (d2T neD (dBm "list" countD (dVar 2) (dCons (dC (.bl true)) dNil)) (dC (.int 1))) (tNotD (tstB (dExI 1 a d true)))) (sRet (dC (.str "other"))) sNext)
  (sSeq (sAsg (d2 ixD (d2 addF (dVar 3) (dLstF (dCons (dC (.str "BadText")) dNil))) (dBm "list" indexD (dVar 2) (dCons (dC (.bl true)) dNil))) (gVar 4))
  (sSeq (sIf (d2T eqD (dVar 4) (dC (.str "BadMachine"))) (sRet (dTup (dCons (dVar 4) (dCons (dExFc 1 q.c [1] a d "why") (dCons (dExFc 1 q.c [1] a d "spot") dNil))))) sNext)
  (sSeq (sIf (d2T inD (dVar 4) (dTup (dCons (dC (.str "BadBeat")) (dCons (dC (.str "BadPlain")) (dCons (dC (.str "BadProgram")) (dCons (dC (.str "BadCircuit")) (dCons (dC (.str "BadRows")) dNil))))))) (sRet (dTup (dCons (dVar 4) (dCons (dExFc 1 q.c [3, 4, 9, 11, 15] a d "number") dNil)))) sNext)
  (sRet (dIf (d2T eqD (dVar 4) (dC (.str "BadText"))) (dTup (dCons (dVar 4) (dCons (dExFc 1 q.c [16] a d "row") dNil))) (dVar 4))))))))))))))
def kwords : List D := [.str "BadMachine", .str "NotSound", .str "BadBeat", .str "BadPlain", .str "TooLarge", .str "BadMatch", .str "BadMarks", .str "BadTree", .str "BadProgram", .str "Stuck", .str "BadCircuit", .str "BadPattern", .str "BadPairs", .str "BadNumbers", .str "BadRows", .str "BadText"]
def kbits (c : Nat) : List D := [.bl (c == 1 || 1 == 0), .bl (c == 2 || 2 == 0), .bl (c == 3 || 3 == 0), .bl (c == 4 || 4 == 0), .bl (c == 5 || 5 == 0), .bl (c == 6 || 6 == 0), .bl (c == 7 || 7 == 0), .bl (c == 8 || 8 == 0), .bl (c == 9 || 9 == 0), .bl (c == 10 || 10 == 0), .bl (c == 11 || 11 == 0), .bl (c == 12 || 12 == 0), .bl (c == 13 || 13 == 0), .bl (c == 14 || 14 == 0), .bl (c == 15 || 15 == 0), .bl (c == 16 || 16 == 0)]
def lookF (fs : List (Str × D)) (f : Str) : Option D := lookN (fs.map Prod.fst) (fs.map Prod.snd) f
def kdata (q : Exc) : Option D := match q.c, q.fs with
  | 1, some fs => (match lookF fs "why", lookF fs "spot" with
    | some u, some v => some (.tup [.str "BadMachine", u, v])
    | _, _ => none)
  | 3, some fs => (lookF fs "number").map fun v => .tup [.str "BadBeat", v]
  | 4, some fs => (lookF fs "number").map fun v => .tup [.str "BadPlain", v]
  | 9, some fs => (lookF fs "number").map fun v => .tup [.str "BadProgram", v]
  | 11, some fs => (lookF fs "number").map fun v => .tup [.str "BadCircuit", v]
  | 15, some fs => (lookF fs "number").map fun v => .tup [.str "BadRows", v]
  | 16, some fs => (lookF fs "row").map fun v => .tup [.str "BadText", v]
  | 2, _ => some (.str "NotSound")
  | 5, _ => some (.str "TooLarge")
  | 6, _ => some (.str "BadMatch")
  | 7, _ => some (.str "BadMarks")
  | 8, _ => some (.str "BadTree")
  | 10, _ => some (.str "Stuck")
  | 12, _ => some (.str "BadPattern")
  | 13, _ => some (.str "BadPairs")
  | 14, _ => some (.str "BadNumbers")
  | _, _ => none
def x_kind (q : Exc) (S : Sto) : Res D := if (1 ≤ q.c ∧ q.c < 17) ∧ q.fs ≠ some [] then (match kdata q with
  | some d => .ok d (S)
  | none => .stuck) else .stuck
theorem x_kind_ok {q : Exc} {S : Sto} (h : x_kind q S ≠ .stuck) : (1 ≤ q.c ∧ q.c < 17) ∧ q.fs ≠ some [] := by
  unfold x_kind at h
  by_cases z : (1 ≤ q.c ∧ q.c < 17) ∧ q.fs ≠ some []
  · exact z
  · rw [if_neg z] at h; exact absurd rfl h
theorem kn_BadMachine_BadText : (Str.ofString "BadMachine" = Str.ofString "BadText") = False := eq_false (by decide +kernel)
theorem kn_NotSound_BadMachine : (Str.ofString "NotSound" = Str.ofString "BadMachine") = False := eq_false (by decide +kernel)
theorem kn_NotSound_BadText : (Str.ofString "NotSound" = Str.ofString "BadText") = False := eq_false (by decide +kernel)
theorem kn_BadBeat_BadMachine : (Str.ofString "BadBeat" = Str.ofString "BadMachine") = False := eq_false (by decide +kernel)
theorem kn_BadBeat_BadText : (Str.ofString "BadBeat" = Str.ofString "BadText") = False := eq_false (by decide +kernel)
theorem kn_BadPlain_BadMachine : (Str.ofString "BadPlain" = Str.ofString "BadMachine") = False := eq_false (by decide +kernel)
theorem kn_BadPlain_BadText : (Str.ofString "BadPlain" = Str.ofString "BadText") = False := eq_false (by decide +kernel)
theorem kn_TooLarge_BadMachine : (Str.ofString "TooLarge" = Str.ofString "BadMachine") = False := eq_false (by decide +kernel)
theorem kn_TooLarge_BadText : (Str.ofString "TooLarge" = Str.ofString "BadText") = False := eq_false (by decide +kernel)
theorem kn_BadMatch_BadMachine : (Str.ofString "BadMatch" = Str.ofString "BadMachine") = False := eq_false (by decide +kernel)
theorem kn_BadMatch_BadText : (Str.ofString "BadMatch" = Str.ofString "BadText") = False := eq_false (by decide +kernel)
theorem kn_BadMarks_BadMachine : (Str.ofString "BadMarks" = Str.ofString "BadMachine") = False := eq_false (by decide +kernel)
theorem kn_BadMarks_BadText : (Str.ofString "BadMarks" = Str.ofString "BadText") = False := eq_false (by decide +kernel)
theorem kn_BadTree_BadMachine : (Str.ofString "BadTree" = Str.ofString "BadMachine") = False := eq_false (by decide +kernel)
theorem kn_BadTree_BadText : (Str.ofString "BadTree" = Str.ofString "BadText") = False := eq_false (by decide +kernel)
theorem kn_BadProgram_BadMachine : (Str.ofString "BadProgram" = Str.ofString "BadMachine") = False := eq_false (by decide +kernel)
theorem kn_BadProgram_BadText : (Str.ofString "BadProgram" = Str.ofString "BadText") = False := eq_false (by decide +kernel)
theorem kn_Stuck_BadMachine : (Str.ofString "Stuck" = Str.ofString "BadMachine") = False := eq_false (by decide +kernel)
theorem kn_Stuck_BadText : (Str.ofString "Stuck" = Str.ofString "BadText") = False := eq_false (by decide +kernel)
theorem kn_BadCircuit_BadMachine : (Str.ofString "BadCircuit" = Str.ofString "BadMachine") = False := eq_false (by decide +kernel)
theorem kn_BadCircuit_BadText : (Str.ofString "BadCircuit" = Str.ofString "BadText") = False := eq_false (by decide +kernel)
theorem kn_BadPattern_BadMachine : (Str.ofString "BadPattern" = Str.ofString "BadMachine") = False := eq_false (by decide +kernel)
theorem kn_BadPattern_BadText : (Str.ofString "BadPattern" = Str.ofString "BadText") = False := eq_false (by decide +kernel)
theorem kn_BadPairs_BadMachine : (Str.ofString "BadPairs" = Str.ofString "BadMachine") = False := eq_false (by decide +kernel)
theorem kn_BadPairs_BadText : (Str.ofString "BadPairs" = Str.ofString "BadText") = False := eq_false (by decide +kernel)
theorem kn_BadNumbers_BadMachine : (Str.ofString "BadNumbers" = Str.ofString "BadMachine") = False := eq_false (by decide +kernel)
theorem kn_BadNumbers_BadText : (Str.ofString "BadNumbers" = Str.ofString "BadText") = False := eq_false (by decide +kernel)
theorem kn_BadRows_BadMachine : (Str.ofString "BadRows" = Str.ofString "BadMachine") = False := eq_false (by decide +kernel)
theorem kn_BadRows_BadText : (Str.ofString "BadRows" = Str.ofString "BadText") = False := eq_false (by decide +kernel)
theorem kn_BadText_BadMachine : (Str.ofString "BadText" = Str.ofString "BadMachine") = False := eq_false (by decide +kernel)
theorem km_BadMachine {S : Sto} : hasD (.str "BadMachine") (.tup [.str "BadBeat", .str "BadPlain", .str "BadProgram", .str "BadCircuit", .str "BadRows"]) S = some false := by
  simp only [hasD]
  decide +kernel
theorem km_NotSound {S : Sto} : hasD (.str "NotSound") (.tup [.str "BadBeat", .str "BadPlain", .str "BadProgram", .str "BadCircuit", .str "BadRows"]) S = some false := by
  simp only [hasD]
  decide +kernel
theorem km_BadBeat {S : Sto} : hasD (.str "BadBeat") (.tup [.str "BadBeat", .str "BadPlain", .str "BadProgram", .str "BadCircuit", .str "BadRows"]) S = some true := by
  simp only [hasD]
  decide +kernel
theorem km_BadPlain {S : Sto} : hasD (.str "BadPlain") (.tup [.str "BadBeat", .str "BadPlain", .str "BadProgram", .str "BadCircuit", .str "BadRows"]) S = some true := by
  simp only [hasD]
  decide +kernel
theorem km_TooLarge {S : Sto} : hasD (.str "TooLarge") (.tup [.str "BadBeat", .str "BadPlain", .str "BadProgram", .str "BadCircuit", .str "BadRows"]) S = some false := by
  simp only [hasD]
  decide +kernel
theorem km_BadMatch {S : Sto} : hasD (.str "BadMatch") (.tup [.str "BadBeat", .str "BadPlain", .str "BadProgram", .str "BadCircuit", .str "BadRows"]) S = some false := by
  simp only [hasD]
  decide +kernel
theorem km_BadMarks {S : Sto} : hasD (.str "BadMarks") (.tup [.str "BadBeat", .str "BadPlain", .str "BadProgram", .str "BadCircuit", .str "BadRows"]) S = some false := by
  simp only [hasD]
  decide +kernel
theorem km_BadTree {S : Sto} : hasD (.str "BadTree") (.tup [.str "BadBeat", .str "BadPlain", .str "BadProgram", .str "BadCircuit", .str "BadRows"]) S = some false := by
  simp only [hasD]
  decide +kernel
theorem km_BadProgram {S : Sto} : hasD (.str "BadProgram") (.tup [.str "BadBeat", .str "BadPlain", .str "BadProgram", .str "BadCircuit", .str "BadRows"]) S = some true := by
  simp only [hasD]
  decide +kernel
theorem km_Stuck {S : Sto} : hasD (.str "Stuck") (.tup [.str "BadBeat", .str "BadPlain", .str "BadProgram", .str "BadCircuit", .str "BadRows"]) S = some false := by
  simp only [hasD]
  decide +kernel
theorem km_BadCircuit {S : Sto} : hasD (.str "BadCircuit") (.tup [.str "BadBeat", .str "BadPlain", .str "BadProgram", .str "BadCircuit", .str "BadRows"]) S = some true := by
  simp only [hasD]
  decide +kernel
theorem km_BadPattern {S : Sto} : hasD (.str "BadPattern") (.tup [.str "BadBeat", .str "BadPlain", .str "BadProgram", .str "BadCircuit", .str "BadRows"]) S = some false := by
  simp only [hasD]
  decide +kernel
theorem km_BadPairs {S : Sto} : hasD (.str "BadPairs") (.tup [.str "BadBeat", .str "BadPlain", .str "BadProgram", .str "BadCircuit", .str "BadRows"]) S = some false := by
  simp only [hasD]
  decide +kernel
theorem km_BadNumbers {S : Sto} : hasD (.str "BadNumbers") (.tup [.str "BadBeat", .str "BadPlain", .str "BadProgram", .str "BadCircuit", .str "BadRows"]) S = some false := by
  simp only [hasD]
  decide +kernel
theorem km_BadRows {S : Sto} : hasD (.str "BadRows") (.tup [.str "BadBeat", .str "BadPlain", .str "BadProgram", .str "BadCircuit", .str "BadRows"]) S = some true := by
  simp only [hasD]
  decide +kernel
theorem km_BadText {S : Sto} : hasD (.str "BadText") (.tup [.str "BadBeat", .str "BadPlain", .str "BadProgram", .str "BadCircuit", .str "BadRows"]) S = some false := by
  simp only [hasD]
  decide +kernel
theorem kcount {c : Nat} {S : Sto} (hc : 1 ≤ c ∧ c < 17) : countD (.frl (kbits c)) [.bl true] S = .ok (.int 1) S := by
  have : c = 1 ∨ c = 2 ∨ c = 3 ∨ c = 4 ∨ c = 5 ∨ c = 6 ∨ c = 7 ∨ c = 8 ∨ c = 9 ∨ c = 10 ∨ c = 11 ∨ c = 12 ∨ c = 13 ∨ c = 14 ∨ c = 15 ∨ c = 16 := by omega
  simp only [countD, lsD]
  rcases this with rfl | rfl | rfl | rfl | rfl | rfl | rfl | rfl | rfl | rfl | rfl | rfl | rfl | rfl | rfl | rfl <;> rfl
theorem kindex {c : Nat} {S : Sto} (hc : 1 ≤ c ∧ c < 17) : indexD (.frl (kbits c)) [.bl true] S = .ok (.int ((c - 1 : Nat) : Int)) S := by
  have : c = 1 ∨ c = 2 ∨ c = 3 ∨ c = 4 ∨ c = 5 ∨ c = 6 ∨ c = 7 ∨ c = 8 ∨ c = 9 ∨ c = 10 ∨ c = 11 ∨ c = 12 ∨ c = 13 ∨ c = 14 ∨ c = 15 ∨ c = 16 := by omega
  simp only [indexD, lsD]
  rcases this with rfl | rfl | rfl | rfl | rfl | rfl | rfl | rfl | rfl | rfl | rfl | rfl | rfl | rfl | rfl | rfl <;> rfl
theorem x_kind_su (q : Exc) (a : Addr) (d : Option Addr) (S : Sto) (hns : x_kind q S ≠ .stuck) (hok : ExOk d q) : su_kind q a d (exSl 5 1 (excD a (d.getD 0) q)) S = (x_kind q S).bind fun r S2 => .ok (.ret r) S2 := by
  obtain ⟨hc, hne⟩ := x_kind_ok hns
  unfold x_kind at hns ⊢
  rw [if_pos ⟨hc, hne⟩] at hns ⊢
  cases hk : kdata q with
  | none => rw [hk] at hns; exact absurd rfl hns
  | some r =>
    show _ = Res.ok (Fl.ret r) (S)
    apply eq_of_wp
    obtain ⟨e, he⟩ : ∃ e, e = excD a (d.getD 0) q := ⟨_, rfl⟩
    have wI : ∀ {b : Bool} {sd : Sl} {S : Sto} {Q : D → Sto → Prop} {X : Exc → Sto → Prop}, sd[1]? = some (some e) → Wp (dExI 1 a d b sd S) Q X = Q (.bl b) S := fun {b sd S Q X} hs => by
      have : dExI 1 a d b sd S = .ok (.bl b) S := by
        unfold dExI
        rw [hs, he]
        unfold excD
        unfold ExOk at hok
        cases hfs : q.fs with
        | none =>
          rw [hfs] at hok
          simp [hok]
        | some fs =>
          rw [hfs] at hok
          obtain ⟨dd, rfl⟩ := Option.isSome_iff_exists.mp hok.1
          simp [hok.2]
      rw [this]; rfl
    have wF : ∀ {f : Str} {v : D} {fs : List (Str × D)} {sd : Sl} {S : Sto} {Q : D → Sto → Prop} {X : Exc → Sto → Prop}, q.fs = some fs → lookF fs f = some v → sd[1]? = some (some e) → Wp (dExF 1 a d f sd S) Q X = Q v S := fun {f v fs sd S Q X} hfs hl hs => by
      have : dExF 1 a d f sd S = .ok v S := by
        unfold dExF
        rw [hs, he]
        unfold excD
        unfold ExOk at hok
        rw [hfs] at hok
        obtain ⟨dd, rfl⟩ := Option.isSome_iff_exists.mp hok.1
        unfold lookF at hl
        simp [hfs, hok.2, hl]
      rw [this]; rfl
    rw [← he]
    show Wp (su_kind q a d [none, some e, none, none, none] S) _ _
    unfold su_kind
    have tyR : ∀ {S : Sto} {xs : List D}, isTy "list" (.frl xs) S = true := fun {S xs} => rfl
    simp only [w_dVar, w_dC, w_dNil, w_dCons, w_dTup, w_dLst, w_d2, w_d2T, w_d3, w_d3T, w_tstB, w_tAndD, w_tOrD, w_tNotD, w_dAnd, w_dOr, w_dNot, w_dIf, w_dNeg, w_sNext, w_sSeq, w_sIf, w_sRet, w_sExpr, w_sAsg, w_gVar, w_sBrk, w_gsNil, w_gsCons, w_gTupD, w_sPar, w_iVal, w_iEnumD, w_iZipD, w_iRngD1, w_iRngD2, w_tYesD, w_gSubD, w_oNone, w_oSome, w_dSlice, w_dCall, w_dFld, w_sFldD, w_gFldD, w_dCallF, w_dMeth, w_dMake, w_sRaise, w_sRaiseT, w_dExFc, w_dBm, w_dIsi, w_dLstF, w_dSliceF, w_dKind, kB_ap, w_bind, w_ok, w_exc, w_stuck, w_dFn, kFn_nx, kFn_ret, w_sTry, w_sFor, z6, z5, w_addI, w_addFI, w_addFL2, w_addFT2, w_frzI, w_frzS, w_frzT, w_frzF, w_frzN, w_frzB, w_subI, w_ltI, w_leI, w_gtI, w_geI, w_eqI, w_neI, w_eqS, w_neS, w_lenT, w_lenF, w_ixT2, w_ixF2, atI_pos, ixN_nat, Int.reduceToNat, Int.reduceLE, Int.reduceLT, Int.reduceNeg, startD, List.map_cons, List.map_nil, List.length_cons, List.length_nil, List.replicate, List.cons_append, List.nil_append, List.getElem?_cons_zero, List.getElem?_cons_succ, List.set_cons_zero, List.set_cons_succ, Nat.reduceAdd, Nat.reduceSub, Nat.reduceEqDiff, if_true, if_false, Bool.false_eq_true, decide_true, decide_false, Int.reduceEq, Int.reduceAdd, Int.reduceSub, Int.reduceMul, Bool.not_true, Bool.not_false, c_0, c_1, c_2, c_3, c_4, c_5, c_6, c_7, c_8, c_9, c_10, c_11, c_12, sz_0, sz_1, sz_2, sz_3, sz_4, sz_5, sz_6, sz_7, sz_8, sz_9, sz_10, sz_11, sz_12, sz_13, sz_14, sz_15, sz_16, Bool.true_eq_false, eq_self, it_tuplelist_int, it_tuplelist_str, it_tuplelist_tuple, it_tuplelist_list, it_tuplelist_bool, it_tuplelist_NoneType, it_list_int, it_list_str, it_list_tuple, it_list_list, it_list_bool, it_list_NoneType, it_tuple_int, it_tuple_str, it_tuple_tuple, it_tuple_list, it_tuple_bool, it_tuple_NoneType, it_bool_int, it_bool_str, it_bool_tuple, it_bool_list, it_bool_bool, it_bool_NoneType, it_int_int, it_int_str, it_int_tuple, it_int_list, it_int_bool, it_int_NoneType, it_str_int, it_str_str, it_str_tuple, it_str_list, it_str_bool, it_str_NoneType, ty_int, ty_str, ty_tuple, ty_list, ty_bool, ty_non, w_eqB, w_neB, w_isN, w_isNotN, nn_int, nn_str, nn_tuple, nn_list, nn_bool, wI, w_ite tyR]
    refine (wp_eq (kcount hc)).mpr ?_
    simp only [w_dVar, w_dC, w_dNil, w_dCons, w_dTup, w_dLst, w_d2, w_d2T, w_d3, w_d3T, w_tstB, w_tAndD, w_tOrD, w_tNotD, w_dAnd, w_dOr, w_dNot, w_dIf, w_dNeg, w_sNext, w_sSeq, w_sIf, w_sRet, w_sExpr, w_sAsg, w_gVar, w_sBrk, w_gsNil, w_gsCons, w_gTupD, w_sPar, w_iVal, w_iEnumD, w_iZipD, w_iRngD1, w_iRngD2, w_tYesD, w_gSubD, w_oNone, w_oSome, w_dSlice, w_dCall, w_dFld, w_sFldD, w_gFldD, w_dCallF, w_dMeth, w_dMake, w_sRaise, w_sRaiseT, w_dExFc, w_dBm, w_dIsi, w_dLstF, w_dSliceF, w_dKind, kB_ap, w_bind, w_ok, w_exc, w_stuck, w_dFn, kFn_nx, kFn_ret, w_sTry, w_sFor, z6, z5, w_addI, w_addFI, w_addFL2, w_addFT2, w_frzI, w_frzS, w_frzT, w_frzF, w_frzN, w_frzB, w_subI, w_ltI, w_leI, w_gtI, w_geI, w_eqI, w_neI, w_eqS, w_neS, w_lenT, w_lenF, w_ixT2, w_ixF2, atI_pos, ixN_nat, Int.reduceToNat, Int.reduceLE, Int.reduceLT, Int.reduceNeg, startD, List.map_cons, List.map_nil, List.length_cons, List.length_nil, List.replicate, List.cons_append, List.nil_append, List.getElem?_cons_zero, List.getElem?_cons_succ, List.set_cons_zero, List.set_cons_succ, Nat.reduceAdd, Nat.reduceSub, Nat.reduceEqDiff, if_true, if_false, Bool.false_eq_true, decide_true, decide_false, Int.reduceEq, Int.reduceAdd, Int.reduceSub, Int.reduceMul, Bool.not_true, Bool.not_false, c_0, c_1, c_2, c_3, c_4, c_5, c_6, c_7, c_8, c_9, c_10, c_11, c_12, sz_0, sz_1, sz_2, sz_3, sz_4, sz_5, sz_6, sz_7, sz_8, sz_9, sz_10, sz_11, sz_12, sz_13, sz_14, sz_15, sz_16, Bool.true_eq_false, eq_self, it_tuplelist_int, it_tuplelist_str, it_tuplelist_tuple, it_tuplelist_list, it_tuplelist_bool, it_tuplelist_NoneType, it_list_int, it_list_str, it_list_tuple, it_list_list, it_list_bool, it_list_NoneType, it_tuple_int, it_tuple_str, it_tuple_tuple, it_tuple_list, it_tuple_bool, it_tuple_NoneType, it_bool_int, it_bool_str, it_bool_tuple, it_bool_list, it_bool_bool, it_bool_NoneType, it_int_int, it_int_str, it_int_tuple, it_int_list, it_int_bool, it_int_NoneType, it_str_int, it_str_str, it_str_tuple, it_str_list, it_str_bool, it_str_NoneType, ty_int, ty_str, ty_tuple, ty_list, ty_bool, ty_non, w_eqB, w_neB, w_isN, w_isNotN, nn_int, nn_str, nn_tuple, nn_list, nn_bool, wI, w_ite tyR]
    refine (wp_eq (kindex hc)).mpr ?_
    simp only [kB_ap, w_ixF2]
    show Wp (match atI kwords ((q.c - 1 : Nat) : Int) with | some d => Res.ok d S | none => Res.stuck) _ _
    generalize hS2 : S = S2
    clear hS2
    clear hns
    obtain ⟨c, fs⟩ := q
    have : c = 1 ∨ c = 2 ∨ c = 3 ∨ c = 4 ∨ c = 5 ∨ c = 6 ∨ c = 7 ∨ c = 8 ∨ c = 9 ∨ c = 10 ∨ c = 11 ∨ c = 12 ∨ c = 13 ∨ c = 14 ∨ c = 15 ∨ c = 16 := by
      have h1 : 1 ≤ c := hc.1
      have h2 : c < 17 := hc.2
      omega
    rcases this with rfl | rfl | rfl | rfl | rfl | rfl | rfl | rfl | rfl | rfl | rfl | rfl | rfl | rfl | rfl | rfl
    · show Wp (match atI kwords ((0 : Nat) : Int) with | some d => Res.ok d S2 | none => Res.stuck) _ _
      have ea : atI kwords ((0 : Nat) : Int) = some (.str "BadMachine") := rfl
      rw [ea]
      cases fs with
      | none => cases hk
      | some fs =>
        cases h1 : lookF fs "why" with
        | none => simp [kdata, h1] at hk
        | some u =>
          cases h2 : lookF fs "spot" with
          | none => simp [kdata, h1, h2] at hk
          | some v =>
            simp [kdata, h1, h2] at hk
            subst hk
            simp only [w_dVar, w_dC, w_dNil, w_dCons, w_dTup, w_dLst, w_d2, w_d2T, w_d3, w_d3T, w_tstB, w_tAndD, w_tOrD, w_tNotD, w_dAnd, w_dOr, w_dNot, w_dIf, w_dNeg, w_sNext, w_sSeq, w_sIf, w_sRet, w_sExpr, w_sAsg, w_gVar, w_sBrk, w_gsNil, w_gsCons, w_gTupD, w_sPar, w_iVal, w_iEnumD, w_iZipD, w_iRngD1, w_iRngD2, w_tYesD, w_gSubD, w_oNone, w_oSome, w_dSlice, w_dCall, w_dFld, w_sFldD, w_gFldD, w_dCallF, w_dMeth, w_dMake, w_sRaise, w_sRaiseT, w_dExFc, w_dBm, w_dIsi, w_dLstF, w_dSliceF, w_dKind, kB_ap, w_bind, w_ok, w_exc, w_stuck, w_dFn, kFn_nx, kFn_ret, w_sTry, w_sFor, z6, z5, w_addI, w_addFI, w_addFL2, w_addFT2, w_frzI, w_frzS, w_frzT, w_frzF, w_frzN, w_frzB, w_subI, w_ltI, w_leI, w_gtI, w_geI, w_eqI, w_neI, w_eqS, w_neS, w_lenT, w_lenF, w_ixT2, w_ixF2, atI_pos, ixN_nat, Int.reduceToNat, Int.reduceLE, Int.reduceLT, Int.reduceNeg, startD, List.map_cons, List.map_nil, List.length_cons, List.length_nil, List.replicate, List.cons_append, List.nil_append, List.getElem?_cons_zero, List.getElem?_cons_succ, List.set_cons_zero, List.set_cons_succ, Nat.reduceAdd, Nat.reduceSub, Nat.reduceEqDiff, if_true, if_false, Bool.false_eq_true, decide_true, decide_false, Int.reduceEq, Int.reduceAdd, Int.reduceSub, Int.reduceMul, Bool.not_true, Bool.not_false, c_0, c_1, c_2, c_3, c_4, c_5, c_6, c_7, c_8, c_9, c_10, c_11, c_12, sz_0, sz_1, sz_2, sz_3, sz_4, sz_5, sz_6, sz_7, sz_8, sz_9, sz_10, sz_11, sz_12, sz_13, sz_14, sz_15, sz_16, Bool.true_eq_false, eq_self, it_tuplelist_int, it_tuplelist_str, it_tuplelist_tuple, it_tuplelist_list, it_tuplelist_bool, it_tuplelist_NoneType, it_list_int, it_list_str, it_list_tuple, it_list_list, it_list_bool, it_list_NoneType, it_tuple_int, it_tuple_str, it_tuple_tuple, it_tuple_list, it_tuple_bool, it_tuple_NoneType, it_bool_int, it_bool_str, it_bool_tuple, it_bool_list, it_bool_bool, it_bool_NoneType, it_int_int, it_int_str, it_int_tuple, it_int_list, it_int_bool, it_int_NoneType, it_str_int, it_str_str, it_str_tuple, it_str_list, it_str_bool, it_str_NoneType, ty_int, ty_str, ty_tuple, ty_list, ty_bool, ty_non, w_eqB, w_neB, w_isN, w_isNotN, nn_int, nn_str, nn_tuple, nn_list, nn_bool, dExFc, List.mem_cons, true_or, wF rfl h1, wF rfl h2]
            trivial
    · show Wp (match atI kwords ((1 : Nat) : Int) with | some d => Res.ok d S2 | none => Res.stuck) _ _
      have ea : atI kwords ((1 : Nat) : Int) = some (.str "NotSound") := rfl
      rw [ea]
      cases hk
      simp only [w_dVar, w_dC, w_dNil, w_dCons, w_dTup, w_dLst, w_d2, w_d2T, w_d3, w_d3T, w_tstB, w_tAndD, w_tOrD, w_tNotD, w_dAnd, w_dOr, w_dNot, w_dIf, w_dNeg, w_sNext, w_sSeq, w_sIf, w_sRet, w_sExpr, w_sAsg, w_gVar, w_sBrk, w_gsNil, w_gsCons, w_gTupD, w_sPar, w_iVal, w_iEnumD, w_iZipD, w_iRngD1, w_iRngD2, w_tYesD, w_gSubD, w_oNone, w_oSome, w_dSlice, w_dCall, w_dFld, w_sFldD, w_gFldD, w_dCallF, w_dMeth, w_dMake, w_sRaise, w_sRaiseT, w_dExFc, w_dBm, w_dIsi, w_dLstF, w_dSliceF, w_dKind, kB_ap, w_bind, w_ok, w_exc, w_stuck, w_dFn, kFn_nx, kFn_ret, w_sTry, w_sFor, z6, z5, w_addI, w_addFI, w_addFL2, w_addFT2, w_frzI, w_frzS, w_frzT, w_frzF, w_frzN, w_frzB, w_subI, w_ltI, w_leI, w_gtI, w_geI, w_eqI, w_neI, w_eqS, w_neS, w_lenT, w_lenF, w_ixT2, w_ixF2, atI_pos, ixN_nat, Int.reduceToNat, Int.reduceLE, Int.reduceLT, Int.reduceNeg, startD, List.map_cons, List.map_nil, List.length_cons, List.length_nil, List.replicate, List.cons_append, List.nil_append, List.getElem?_cons_zero, List.getElem?_cons_succ, List.set_cons_zero, List.set_cons_succ, Nat.reduceAdd, Nat.reduceSub, Nat.reduceEqDiff, if_true, if_false, Bool.false_eq_true, decide_true, decide_false, Int.reduceEq, Int.reduceAdd, Int.reduceSub, Int.reduceMul, Bool.not_true, Bool.not_false, c_0, c_1, c_2, c_3, c_4, c_5, c_6, c_7, c_8, c_9, c_10, c_11, c_12, sz_0, sz_1, sz_2, sz_3, sz_4, sz_5, sz_6, sz_7, sz_8, sz_9, sz_10, sz_11, sz_12, sz_13, sz_14, sz_15, sz_16, Bool.true_eq_false, eq_self, it_tuplelist_int, it_tuplelist_str, it_tuplelist_tuple, it_tuplelist_list, it_tuplelist_bool, it_tuplelist_NoneType, it_list_int, it_list_str, it_list_tuple, it_list_list, it_list_bool, it_list_NoneType, it_tuple_int, it_tuple_str, it_tuple_tuple, it_tuple_list, it_tuple_bool, it_tuple_NoneType, it_bool_int, it_bool_str, it_bool_tuple, it_bool_list, it_bool_bool, it_bool_NoneType, it_int_int, it_int_str, it_int_tuple, it_int_list, it_int_bool, it_int_NoneType, it_str_int, it_str_str, it_str_tuple, it_str_list, it_str_bool, it_str_NoneType, ty_int, ty_str, ty_tuple, ty_list, ty_bool, ty_non, w_eqB, w_neB, w_isN, w_isNotN, nn_int, nn_str, nn_tuple, nn_list, nn_bool, kn_BadMachine_BadText, kn_NotSound_BadMachine, kn_NotSound_BadText, kn_BadBeat_BadMachine, kn_BadBeat_BadText, kn_BadPlain_BadMachine, kn_BadPlain_BadText, kn_TooLarge_BadMachine, kn_TooLarge_BadText, kn_BadMatch_BadMachine, kn_BadMatch_BadText, kn_BadMarks_BadMachine, kn_BadMarks_BadText, kn_BadTree_BadMachine, kn_BadTree_BadText, kn_BadProgram_BadMachine, kn_BadProgram_BadText, kn_Stuck_BadMachine, kn_Stuck_BadText, kn_BadCircuit_BadMachine, kn_BadCircuit_BadText, kn_BadPattern_BadMachine, kn_BadPattern_BadText, kn_BadPairs_BadMachine, kn_BadPairs_BadText, kn_BadNumbers_BadMachine, kn_BadNumbers_BadText, kn_BadRows_BadMachine, kn_BadRows_BadText, kn_BadText_BadMachine, km_BadMachine, km_NotSound, km_BadBeat, km_BadPlain, km_TooLarge, km_BadMatch, km_BadMarks, km_BadTree, km_BadProgram, km_Stuck, km_BadCircuit, km_BadPattern, km_BadPairs, km_BadNumbers, km_BadRows, km_BadText, inD]
      trivial
    · show Wp (match atI kwords ((2 : Nat) : Int) with | some d => Res.ok d S2 | none => Res.stuck) _ _
      have ea : atI kwords ((2 : Nat) : Int) = some (.str "BadBeat") := rfl
      rw [ea]
      cases fs with
      | none => cases hk
      | some fs =>
        cases h1 : lookF fs "number" with
        | none => simp [kdata, h1] at hk
        | some u =>
          simp [kdata, h1] at hk
          subst hk
          simp only [w_dVar, w_dC, w_dNil, w_dCons, w_dTup, w_dLst, w_d2, w_d2T, w_d3, w_d3T, w_tstB, w_tAndD, w_tOrD, w_tNotD, w_dAnd, w_dOr, w_dNot, w_dIf, w_dNeg, w_sNext, w_sSeq, w_sIf, w_sRet, w_sExpr, w_sAsg, w_gVar, w_sBrk, w_gsNil, w_gsCons, w_gTupD, w_sPar, w_iVal, w_iEnumD, w_iZipD, w_iRngD1, w_iRngD2, w_tYesD, w_gSubD, w_oNone, w_oSome, w_dSlice, w_dCall, w_dFld, w_sFldD, w_gFldD, w_dCallF, w_dMeth, w_dMake, w_sRaise, w_sRaiseT, w_dExFc, w_dBm, w_dIsi, w_dLstF, w_dSliceF, w_dKind, kB_ap, w_bind, w_ok, w_exc, w_stuck, w_dFn, kFn_nx, kFn_ret, w_sTry, w_sFor, z6, z5, w_addI, w_addFI, w_addFL2, w_addFT2, w_frzI, w_frzS, w_frzT, w_frzF, w_frzN, w_frzB, w_subI, w_ltI, w_leI, w_gtI, w_geI, w_eqI, w_neI, w_eqS, w_neS, w_lenT, w_lenF, w_ixT2, w_ixF2, atI_pos, ixN_nat, Int.reduceToNat, Int.reduceLE, Int.reduceLT, Int.reduceNeg, startD, List.map_cons, List.map_nil, List.length_cons, List.length_nil, List.replicate, List.cons_append, List.nil_append, List.getElem?_cons_zero, List.getElem?_cons_succ, List.set_cons_zero, List.set_cons_succ, Nat.reduceAdd, Nat.reduceSub, Nat.reduceEqDiff, if_true, if_false, Bool.false_eq_true, decide_true, decide_false, Int.reduceEq, Int.reduceAdd, Int.reduceSub, Int.reduceMul, Bool.not_true, Bool.not_false, c_0, c_1, c_2, c_3, c_4, c_5, c_6, c_7, c_8, c_9, c_10, c_11, c_12, sz_0, sz_1, sz_2, sz_3, sz_4, sz_5, sz_6, sz_7, sz_8, sz_9, sz_10, sz_11, sz_12, sz_13, sz_14, sz_15, sz_16, Bool.true_eq_false, eq_self, it_tuplelist_int, it_tuplelist_str, it_tuplelist_tuple, it_tuplelist_list, it_tuplelist_bool, it_tuplelist_NoneType, it_list_int, it_list_str, it_list_tuple, it_list_list, it_list_bool, it_list_NoneType, it_tuple_int, it_tuple_str, it_tuple_tuple, it_tuple_list, it_tuple_bool, it_tuple_NoneType, it_bool_int, it_bool_str, it_bool_tuple, it_bool_list, it_bool_bool, it_bool_NoneType, it_int_int, it_int_str, it_int_tuple, it_int_list, it_int_bool, it_int_NoneType, it_str_int, it_str_str, it_str_tuple, it_str_list, it_str_bool, it_str_NoneType, ty_int, ty_str, ty_tuple, ty_list, ty_bool, ty_non, w_eqB, w_neB, w_isN, w_isNotN, nn_int, nn_str, nn_tuple, nn_list, nn_bool, kn_BadMachine_BadText, kn_NotSound_BadMachine, kn_NotSound_BadText, kn_BadBeat_BadMachine, kn_BadBeat_BadText, kn_BadPlain_BadMachine, kn_BadPlain_BadText, kn_TooLarge_BadMachine, kn_TooLarge_BadText, kn_BadMatch_BadMachine, kn_BadMatch_BadText, kn_BadMarks_BadMachine, kn_BadMarks_BadText, kn_BadTree_BadMachine, kn_BadTree_BadText, kn_BadProgram_BadMachine, kn_BadProgram_BadText, kn_Stuck_BadMachine, kn_Stuck_BadText, kn_BadCircuit_BadMachine, kn_BadCircuit_BadText, kn_BadPattern_BadMachine, kn_BadPattern_BadText, kn_BadPairs_BadMachine, kn_BadPairs_BadText, kn_BadNumbers_BadMachine, kn_BadNumbers_BadText, kn_BadRows_BadMachine, kn_BadRows_BadText, kn_BadText_BadMachine, km_BadMachine, km_NotSound, km_BadBeat, km_BadPlain, km_TooLarge, km_BadMatch, km_BadMarks, km_BadTree, km_BadProgram, km_Stuck, km_BadCircuit, km_BadPattern, km_BadPairs, km_BadNumbers, km_BadRows, km_BadText, inD, dExFc, List.mem_cons, true_or, or_true, Nat.reduceEqDiff, false_or, wF rfl h1]
          trivial
    · show Wp (match atI kwords ((3 : Nat) : Int) with | some d => Res.ok d S2 | none => Res.stuck) _ _
      have ea : atI kwords ((3 : Nat) : Int) = some (.str "BadPlain") := rfl
      rw [ea]
      cases fs with
      | none => cases hk
      | some fs =>
        cases h1 : lookF fs "number" with
        | none => simp [kdata, h1] at hk
        | some u =>
          simp [kdata, h1] at hk
          subst hk
          simp only [w_dVar, w_dC, w_dNil, w_dCons, w_dTup, w_dLst, w_d2, w_d2T, w_d3, w_d3T, w_tstB, w_tAndD, w_tOrD, w_tNotD, w_dAnd, w_dOr, w_dNot, w_dIf, w_dNeg, w_sNext, w_sSeq, w_sIf, w_sRet, w_sExpr, w_sAsg, w_gVar, w_sBrk, w_gsNil, w_gsCons, w_gTupD, w_sPar, w_iVal, w_iEnumD, w_iZipD, w_iRngD1, w_iRngD2, w_tYesD, w_gSubD, w_oNone, w_oSome, w_dSlice, w_dCall, w_dFld, w_sFldD, w_gFldD, w_dCallF, w_dMeth, w_dMake, w_sRaise, w_sRaiseT, w_dExFc, w_dBm, w_dIsi, w_dLstF, w_dSliceF, w_dKind, kB_ap, w_bind, w_ok, w_exc, w_stuck, w_dFn, kFn_nx, kFn_ret, w_sTry, w_sFor, z6, z5, w_addI, w_addFI, w_addFL2, w_addFT2, w_frzI, w_frzS, w_frzT, w_frzF, w_frzN, w_frzB, w_subI, w_ltI, w_leI, w_gtI, w_geI, w_eqI, w_neI, w_eqS, w_neS, w_lenT, w_lenF, w_ixT2, w_ixF2, atI_pos, ixN_nat, Int.reduceToNat, Int.reduceLE, Int.reduceLT, Int.reduceNeg, startD, List.map_cons, List.map_nil, List.length_cons, List.length_nil, List.replicate, List.cons_append, List.nil_append, List.getElem?_cons_zero, List.getElem?_cons_succ, List.set_cons_zero, List.set_cons_succ, Nat.reduceAdd, Nat.reduceSub, Nat.reduceEqDiff, if_true, if_false, Bool.false_eq_true, decide_true, decide_false, Int.reduceEq, Int.reduceAdd, Int.reduceSub, Int.reduceMul, Bool.not_true, Bool.not_false, c_0, c_1, c_2, c_3, c_4, c_5, c_6, c_7, c_8, c_9, c_10, c_11, c_12, sz_0, sz_1, sz_2, sz_3, sz_4, sz_5, sz_6, sz_7, sz_8, sz_9, sz_10, sz_11, sz_12, sz_13, sz_14, sz_15, sz_16, Bool.true_eq_false, eq_self, it_tuplelist_int, it_tuplelist_str, it_tuplelist_tuple, it_tuplelist_list, it_tuplelist_bool, it_tuplelist_NoneType, it_list_int, it_list_str, it_list_tuple, it_list_list, it_list_bool, it_list_NoneType, it_tuple_int, it_tuple_str, it_tuple_tuple, it_tuple_list, it_tuple_bool, it_tuple_NoneType, it_bool_int, it_bool_str, it_bool_tuple, it_bool_list, it_bool_bool, it_bool_NoneType, it_int_int, it_int_str, it_int_tuple, it_int_list, it_int_bool, it_int_NoneType, it_str_int, it_str_str, it_str_tuple, it_str_list, it_str_bool, it_str_NoneType, ty_int, ty_str, ty_tuple, ty_list, ty_bool, ty_non, w_eqB, w_neB, w_isN, w_isNotN, nn_int, nn_str, nn_tuple, nn_list, nn_bool, kn_BadMachine_BadText, kn_NotSound_BadMachine, kn_NotSound_BadText, kn_BadBeat_BadMachine, kn_BadBeat_BadText, kn_BadPlain_BadMachine, kn_BadPlain_BadText, kn_TooLarge_BadMachine, kn_TooLarge_BadText, kn_BadMatch_BadMachine, kn_BadMatch_BadText, kn_BadMarks_BadMachine, kn_BadMarks_BadText, kn_BadTree_BadMachine, kn_BadTree_BadText, kn_BadProgram_BadMachine, kn_BadProgram_BadText, kn_Stuck_BadMachine, kn_Stuck_BadText, kn_BadCircuit_BadMachine, kn_BadCircuit_BadText, kn_BadPattern_BadMachine, kn_BadPattern_BadText, kn_BadPairs_BadMachine, kn_BadPairs_BadText, kn_BadNumbers_BadMachine, kn_BadNumbers_BadText, kn_BadRows_BadMachine, kn_BadRows_BadText, kn_BadText_BadMachine, km_BadMachine, km_NotSound, km_BadBeat, km_BadPlain, km_TooLarge, km_BadMatch, km_BadMarks, km_BadTree, km_BadProgram, km_Stuck, km_BadCircuit, km_BadPattern, km_BadPairs, km_BadNumbers, km_BadRows, km_BadText, inD, dExFc, List.mem_cons, true_or, or_true, Nat.reduceEqDiff, false_or, wF rfl h1]
          trivial
    · show Wp (match atI kwords ((4 : Nat) : Int) with | some d => Res.ok d S2 | none => Res.stuck) _ _
      have ea : atI kwords ((4 : Nat) : Int) = some (.str "TooLarge") := rfl
      rw [ea]
      cases hk
      simp only [w_dVar, w_dC, w_dNil, w_dCons, w_dTup, w_dLst, w_d2, w_d2T, w_d3, w_d3T, w_tstB, w_tAndD, w_tOrD, w_tNotD, w_dAnd, w_dOr, w_dNot, w_dIf, w_dNeg, w_sNext, w_sSeq, w_sIf, w_sRet, w_sExpr, w_sAsg, w_gVar, w_sBrk, w_gsNil, w_gsCons, w_gTupD, w_sPar, w_iVal, w_iEnumD, w_iZipD, w_iRngD1, w_iRngD2, w_tYesD, w_gSubD, w_oNone, w_oSome, w_dSlice, w_dCall, w_dFld, w_sFldD, w_gFldD, w_dCallF, w_dMeth, w_dMake, w_sRaise, w_sRaiseT, w_dExFc, w_dBm, w_dIsi, w_dLstF, w_dSliceF, w_dKind, kB_ap, w_bind, w_ok, w_exc, w_stuck, w_dFn, kFn_nx, kFn_ret, w_sTry, w_sFor, z6, z5, w_addI, w_addFI, w_addFL2, w_addFT2, w_frzI, w_frzS, w_frzT, w_frzF, w_frzN, w_frzB, w_subI, w_ltI, w_leI, w_gtI, w_geI, w_eqI, w_neI, w_eqS, w_neS, w_lenT, w_lenF, w_ixT2, w_ixF2, atI_pos, ixN_nat, Int.reduceToNat, Int.reduceLE, Int.reduceLT, Int.reduceNeg, startD, List.map_cons, List.map_nil, List.length_cons, List.length_nil, List.replicate, List.cons_append, List.nil_append, List.getElem?_cons_zero, List.getElem?_cons_succ, List.set_cons_zero, List.set_cons_succ, Nat.reduceAdd, Nat.reduceSub, Nat.reduceEqDiff, if_true, if_false, Bool.false_eq_true, decide_true, decide_false, Int.reduceEq, Int.reduceAdd, Int.reduceSub, Int.reduceMul, Bool.not_true, Bool.not_false, c_0, c_1, c_2, c_3, c_4, c_5, c_6, c_7, c_8, c_9, c_10, c_11, c_12, sz_0, sz_1, sz_2, sz_3, sz_4, sz_5, sz_6, sz_7, sz_8, sz_9, sz_10, sz_11, sz_12, sz_13, sz_14, sz_15, sz_16, Bool.true_eq_false, eq_self, it_tuplelist_int, it_tuplelist_str, it_tuplelist_tuple, it_tuplelist_list, it_tuplelist_bool, it_tuplelist_NoneType, it_list_int, it_list_str, it_list_tuple, it_list_list, it_list_bool, it_list_NoneType, it_tuple_int, it_tuple_str, it_tuple_tuple, it_tuple_list, it_tuple_bool, it_tuple_NoneType, it_bool_int, it_bool_str, it_bool_tuple, it_bool_list, it_bool_bool, it_bool_NoneType, it_int_int, it_int_str, it_int_tuple, it_int_list, it_int_bool, it_int_NoneType, it_str_int, it_str_str, it_str_tuple, it_str_list, it_str_bool, it_str_NoneType, ty_int, ty_str, ty_tuple, ty_list, ty_bool, ty_non, w_eqB, w_neB, w_isN, w_isNotN, nn_int, nn_str, nn_tuple, nn_list, nn_bool, kn_BadMachine_BadText, kn_NotSound_BadMachine, kn_NotSound_BadText, kn_BadBeat_BadMachine, kn_BadBeat_BadText, kn_BadPlain_BadMachine, kn_BadPlain_BadText, kn_TooLarge_BadMachine, kn_TooLarge_BadText, kn_BadMatch_BadMachine, kn_BadMatch_BadText, kn_BadMarks_BadMachine, kn_BadMarks_BadText, kn_BadTree_BadMachine, kn_BadTree_BadText, kn_BadProgram_BadMachine, kn_BadProgram_BadText, kn_Stuck_BadMachine, kn_Stuck_BadText, kn_BadCircuit_BadMachine, kn_BadCircuit_BadText, kn_BadPattern_BadMachine, kn_BadPattern_BadText, kn_BadPairs_BadMachine, kn_BadPairs_BadText, kn_BadNumbers_BadMachine, kn_BadNumbers_BadText, kn_BadRows_BadMachine, kn_BadRows_BadText, kn_BadText_BadMachine, km_BadMachine, km_NotSound, km_BadBeat, km_BadPlain, km_TooLarge, km_BadMatch, km_BadMarks, km_BadTree, km_BadProgram, km_Stuck, km_BadCircuit, km_BadPattern, km_BadPairs, km_BadNumbers, km_BadRows, km_BadText, inD]
      trivial
    · show Wp (match atI kwords ((5 : Nat) : Int) with | some d => Res.ok d S2 | none => Res.stuck) _ _
      have ea : atI kwords ((5 : Nat) : Int) = some (.str "BadMatch") := rfl
      rw [ea]
      cases hk
      simp only [w_dVar, w_dC, w_dNil, w_dCons, w_dTup, w_dLst, w_d2, w_d2T, w_d3, w_d3T, w_tstB, w_tAndD, w_tOrD, w_tNotD, w_dAnd, w_dOr, w_dNot, w_dIf, w_dNeg, w_sNext, w_sSeq, w_sIf, w_sRet, w_sExpr, w_sAsg, w_gVar, w_sBrk, w_gsNil, w_gsCons, w_gTupD, w_sPar, w_iVal, w_iEnumD, w_iZipD, w_iRngD1, w_iRngD2, w_tYesD, w_gSubD, w_oNone, w_oSome, w_dSlice, w_dCall, w_dFld, w_sFldD, w_gFldD, w_dCallF, w_dMeth, w_dMake, w_sRaise, w_sRaiseT, w_dExFc, w_dBm, w_dIsi, w_dLstF, w_dSliceF, w_dKind, kB_ap, w_bind, w_ok, w_exc, w_stuck, w_dFn, kFn_nx, kFn_ret, w_sTry, w_sFor, z6, z5, w_addI, w_addFI, w_addFL2, w_addFT2, w_frzI, w_frzS, w_frzT, w_frzF, w_frzN, w_frzB, w_subI, w_ltI, w_leI, w_gtI, w_geI, w_eqI, w_neI, w_eqS, w_neS, w_lenT, w_lenF, w_ixT2, w_ixF2, atI_pos, ixN_nat, Int.reduceToNat, Int.reduceLE, Int.reduceLT, Int.reduceNeg, startD, List.map_cons, List.map_nil, List.length_cons, List.length_nil, List.replicate, List.cons_append, List.nil_append, List.getElem?_cons_zero, List.getElem?_cons_succ, List.set_cons_zero, List.set_cons_succ, Nat.reduceAdd, Nat.reduceSub, Nat.reduceEqDiff, if_true, if_false, Bool.false_eq_true, decide_true, decide_false, Int.reduceEq, Int.reduceAdd, Int.reduceSub, Int.reduceMul, Bool.not_true, Bool.not_false, c_0, c_1, c_2, c_3, c_4, c_5, c_6, c_7, c_8, c_9, c_10, c_11, c_12, sz_0, sz_1, sz_2, sz_3, sz_4, sz_5, sz_6, sz_7, sz_8, sz_9, sz_10, sz_11, sz_12, sz_13, sz_14, sz_15, sz_16, Bool.true_eq_false, eq_self, it_tuplelist_int, it_tuplelist_str, it_tuplelist_tuple, it_tuplelist_list, it_tuplelist_bool, it_tuplelist_NoneType, it_list_int, it_list_str, it_list_tuple, it_list_list, it_list_bool, it_list_NoneType, it_tuple_int, it_tuple_str, it_tuple_tuple, it_tuple_list, it_tuple_bool, it_tuple_NoneType, it_bool_int, it_bool_str, it_bool_tuple, it_bool_list, it_bool_bool, it_bool_NoneType, it_int_int, it_int_str, it_int_tuple, it_int_list, it_int_bool, it_int_NoneType, it_str_int, it_str_str, it_str_tuple, it_str_list, it_str_bool, it_str_NoneType, ty_int, ty_str, ty_tuple, ty_list, ty_bool, ty_non, w_eqB, w_neB, w_isN, w_isNotN, nn_int, nn_str, nn_tuple, nn_list, nn_bool, kn_BadMachine_BadText, kn_NotSound_BadMachine, kn_NotSound_BadText, kn_BadBeat_BadMachine, kn_BadBeat_BadText, kn_BadPlain_BadMachine, kn_BadPlain_BadText, kn_TooLarge_BadMachine, kn_TooLarge_BadText, kn_BadMatch_BadMachine, kn_BadMatch_BadText, kn_BadMarks_BadMachine, kn_BadMarks_BadText, kn_BadTree_BadMachine, kn_BadTree_BadText, kn_BadProgram_BadMachine, kn_BadProgram_BadText, kn_Stuck_BadMachine, kn_Stuck_BadText, kn_BadCircuit_BadMachine, kn_BadCircuit_BadText, kn_BadPattern_BadMachine, kn_BadPattern_BadText, kn_BadPairs_BadMachine, kn_BadPairs_BadText, kn_BadNumbers_BadMachine, kn_BadNumbers_BadText, kn_BadRows_BadMachine, kn_BadRows_BadText, kn_BadText_BadMachine, km_BadMachine, km_NotSound, km_BadBeat, km_BadPlain, km_TooLarge, km_BadMatch, km_BadMarks, km_BadTree, km_BadProgram, km_Stuck, km_BadCircuit, km_BadPattern, km_BadPairs, km_BadNumbers, km_BadRows, km_BadText, inD]
      trivial
    · show Wp (match atI kwords ((6 : Nat) : Int) with | some d => Res.ok d S2 | none => Res.stuck) _ _
      have ea : atI kwords ((6 : Nat) : Int) = some (.str "BadMarks") := rfl
      rw [ea]
      cases hk
      simp only [w_dVar, w_dC, w_dNil, w_dCons, w_dTup, w_dLst, w_d2, w_d2T, w_d3, w_d3T, w_tstB, w_tAndD, w_tOrD, w_tNotD, w_dAnd, w_dOr, w_dNot, w_dIf, w_dNeg, w_sNext, w_sSeq, w_sIf, w_sRet, w_sExpr, w_sAsg, w_gVar, w_sBrk, w_gsNil, w_gsCons, w_gTupD, w_sPar, w_iVal, w_iEnumD, w_iZipD, w_iRngD1, w_iRngD2, w_tYesD, w_gSubD, w_oNone, w_oSome, w_dSlice, w_dCall, w_dFld, w_sFldD, w_gFldD, w_dCallF, w_dMeth, w_dMake, w_sRaise, w_sRaiseT, w_dExFc, w_dBm, w_dIsi, w_dLstF, w_dSliceF, w_dKind, kB_ap, w_bind, w_ok, w_exc, w_stuck, w_dFn, kFn_nx, kFn_ret, w_sTry, w_sFor, z6, z5, w_addI, w_addFI, w_addFL2, w_addFT2, w_frzI, w_frzS, w_frzT, w_frzF, w_frzN, w_frzB, w_subI, w_ltI, w_leI, w_gtI, w_geI, w_eqI, w_neI, w_eqS, w_neS, w_lenT, w_lenF, w_ixT2, w_ixF2, atI_pos, ixN_nat, Int.reduceToNat, Int.reduceLE, Int.reduceLT, Int.reduceNeg, startD, List.map_cons, List.map_nil, List.length_cons, List.length_nil, List.replicate, List.cons_append, List.nil_append, List.getElem?_cons_zero, List.getElem?_cons_succ, List.set_cons_zero, List.set_cons_succ, Nat.reduceAdd, Nat.reduceSub, Nat.reduceEqDiff, if_true, if_false, Bool.false_eq_true, decide_true, decide_false, Int.reduceEq, Int.reduceAdd, Int.reduceSub, Int.reduceMul, Bool.not_true, Bool.not_false, c_0, c_1, c_2, c_3, c_4, c_5, c_6, c_7, c_8, c_9, c_10, c_11, c_12, sz_0, sz_1, sz_2, sz_3, sz_4, sz_5, sz_6, sz_7, sz_8, sz_9, sz_10, sz_11, sz_12, sz_13, sz_14, sz_15, sz_16, Bool.true_eq_false, eq_self, it_tuplelist_int, it_tuplelist_str, it_tuplelist_tuple, it_tuplelist_list, it_tuplelist_bool, it_tuplelist_NoneType, it_list_int, it_list_str, it_list_tuple, it_list_list, it_list_bool, it_list_NoneType, it_tuple_int, it_tuple_str, it_tuple_tuple, it_tuple_list, it_tuple_bool, it_tuple_NoneType, it_bool_int, it_bool_str, it_bool_tuple, it_bool_list, it_bool_bool, it_bool_NoneType, it_int_int, it_int_str, it_int_tuple, it_int_list, it_int_bool, it_int_NoneType, it_str_int, it_str_str, it_str_tuple, it_str_list, it_str_bool, it_str_NoneType, ty_int, ty_str, ty_tuple, ty_list, ty_bool, ty_non, w_eqB, w_neB, w_isN, w_isNotN, nn_int, nn_str, nn_tuple, nn_list, nn_bool, kn_BadMachine_BadText, kn_NotSound_BadMachine, kn_NotSound_BadText, kn_BadBeat_BadMachine, kn_BadBeat_BadText, kn_BadPlain_BadMachine, kn_BadPlain_BadText, kn_TooLarge_BadMachine, kn_TooLarge_BadText, kn_BadMatch_BadMachine, kn_BadMatch_BadText, kn_BadMarks_BadMachine, kn_BadMarks_BadText, kn_BadTree_BadMachine, kn_BadTree_BadText, kn_BadProgram_BadMachine, kn_BadProgram_BadText, kn_Stuck_BadMachine, kn_Stuck_BadText, kn_BadCircuit_BadMachine, kn_BadCircuit_BadText, kn_BadPattern_BadMachine, kn_BadPattern_BadText, kn_BadPairs_BadMachine, kn_BadPairs_BadText, kn_BadNumbers_BadMachine, kn_BadNumbers_BadText, kn_BadRows_BadMachine, kn_BadRows_BadText, kn_BadText_BadMachine, km_BadMachine, km_NotSound, km_BadBeat, km_BadPlain, km_TooLarge, km_BadMatch, km_BadMarks, km_BadTree, km_BadProgram, km_Stuck, km_BadCircuit, km_BadPattern, km_BadPairs, km_BadNumbers, km_BadRows, km_BadText, inD]
      trivial
    · show Wp (match atI kwords ((7 : Nat) : Int) with | some d => Res.ok d S2 | none => Res.stuck) _ _
      have ea : atI kwords ((7 : Nat) : Int) = some (.str "BadTree") := rfl
      rw [ea]
      cases hk
      simp only [w_dVar, w_dC, w_dNil, w_dCons, w_dTup, w_dLst, w_d2, w_d2T, w_d3, w_d3T, w_tstB, w_tAndD, w_tOrD, w_tNotD, w_dAnd, w_dOr, w_dNot, w_dIf, w_dNeg, w_sNext, w_sSeq, w_sIf, w_sRet, w_sExpr, w_sAsg, w_gVar, w_sBrk, w_gsNil, w_gsCons, w_gTupD, w_sPar, w_iVal, w_iEnumD, w_iZipD, w_iRngD1, w_iRngD2, w_tYesD, w_gSubD, w_oNone, w_oSome, w_dSlice, w_dCall, w_dFld, w_sFldD, w_gFldD, w_dCallF, w_dMeth, w_dMake, w_sRaise, w_sRaiseT, w_dExFc, w_dBm, w_dIsi, w_dLstF, w_dSliceF, w_dKind, kB_ap, w_bind, w_ok, w_exc, w_stuck, w_dFn, kFn_nx, kFn_ret, w_sTry, w_sFor, z6, z5, w_addI, w_addFI, w_addFL2, w_addFT2, w_frzI, w_frzS, w_frzT, w_frzF, w_frzN, w_frzB, w_subI, w_ltI, w_leI, w_gtI, w_geI, w_eqI, w_neI, w_eqS, w_neS, w_lenT, w_lenF, w_ixT2, w_ixF2, atI_pos, ixN_nat, Int.reduceToNat, Int.reduceLE, Int.reduceLT, Int.reduceNeg, startD, List.map_cons, List.map_nil, List.length_cons, List.length_nil, List.replicate, List.cons_append, List.nil_append, List.getElem?_cons_zero, List.getElem?_cons_succ, List.set_cons_zero, List.set_cons_succ, Nat.reduceAdd, Nat.reduceSub, Nat.reduceEqDiff, if_true, if_false, Bool.false_eq_true, decide_true, decide_false, Int.reduceEq, Int.reduceAdd, Int.reduceSub, Int.reduceMul, Bool.not_true, Bool.not_false, c_0, c_1, c_2, c_3, c_4, c_5, c_6, c_7, c_8, c_9, c_10, c_11, c_12, sz_0, sz_1, sz_2, sz_3, sz_4, sz_5, sz_6, sz_7, sz_8, sz_9, sz_10, sz_11, sz_12, sz_13, sz_14, sz_15, sz_16, Bool.true_eq_false, eq_self, it_tuplelist_int, it_tuplelist_str, it_tuplelist_tuple, it_tuplelist_list, it_tuplelist_bool, it_tuplelist_NoneType, it_list_int, it_list_str, it_list_tuple, it_list_list, it_list_bool, it_list_NoneType, it_tuple_int, it_tuple_str, it_tuple_tuple, it_tuple_list, it_tuple_bool, it_tuple_NoneType, it_bool_int, it_bool_str, it_bool_tuple, it_bool_list, it_bool_bool, it_bool_NoneType, it_int_int, it_int_str, it_int_tuple, it_int_list, it_int_bool, it_int_NoneType, it_str_int, it_str_str, it_str_tuple, it_str_list, it_str_bool, it_str_NoneType, ty_int, ty_str, ty_tuple, ty_list, ty_bool, ty_non, w_eqB, w_neB, w_isN, w_isNotN, nn_int, nn_str, nn_tuple, nn_list, nn_bool, kn_BadMachine_BadText, kn_NotSound_BadMachine, kn_NotSound_BadText, kn_BadBeat_BadMachine, kn_BadBeat_BadText, kn_BadPlain_BadMachine, kn_BadPlain_BadText, kn_TooLarge_BadMachine, kn_TooLarge_BadText, kn_BadMatch_BadMachine, kn_BadMatch_BadText, kn_BadMarks_BadMachine, kn_BadMarks_BadText, kn_BadTree_BadMachine, kn_BadTree_BadText, kn_BadProgram_BadMachine, kn_BadProgram_BadText, kn_Stuck_BadMachine, kn_Stuck_BadText, kn_BadCircuit_BadMachine, kn_BadCircuit_BadText, kn_BadPattern_BadMachine, kn_BadPattern_BadText, kn_BadPairs_BadMachine, kn_BadPairs_BadText, kn_BadNumbers_BadMachine, kn_BadNumbers_BadText, kn_BadRows_BadMachine, kn_BadRows_BadText, kn_BadText_BadMachine, km_BadMachine, km_NotSound, km_BadBeat, km_BadPlain, km_TooLarge, km_BadMatch, km_BadMarks, km_BadTree, km_BadProgram, km_Stuck, km_BadCircuit, km_BadPattern, km_BadPairs, km_BadNumbers, km_BadRows, km_BadText, inD]
      trivial
    · show Wp (match atI kwords ((8 : Nat) : Int) with | some d => Res.ok d S2 | none => Res.stuck) _ _
      have ea : atI kwords ((8 : Nat) : Int) = some (.str "BadProgram") := rfl
      rw [ea]
      cases fs with
      | none => cases hk
      | some fs =>
        cases h1 : lookF fs "number" with
        | none => simp [kdata, h1] at hk
        | some u =>
          simp [kdata, h1] at hk
          subst hk
          simp only [w_dVar, w_dC, w_dNil, w_dCons, w_dTup, w_dLst, w_d2, w_d2T, w_d3, w_d3T, w_tstB, w_tAndD, w_tOrD, w_tNotD, w_dAnd, w_dOr, w_dNot, w_dIf, w_dNeg, w_sNext, w_sSeq, w_sIf, w_sRet, w_sExpr, w_sAsg, w_gVar, w_sBrk, w_gsNil, w_gsCons, w_gTupD, w_sPar, w_iVal, w_iEnumD, w_iZipD, w_iRngD1, w_iRngD2, w_tYesD, w_gSubD, w_oNone, w_oSome, w_dSlice, w_dCall, w_dFld, w_sFldD, w_gFldD, w_dCallF, w_dMeth, w_dMake, w_sRaise, w_sRaiseT, w_dExFc, w_dBm, w_dIsi, w_dLstF, w_dSliceF, w_dKind, kB_ap, w_bind, w_ok, w_exc, w_stuck, w_dFn, kFn_nx, kFn_ret, w_sTry, w_sFor, z6, z5, w_addI, w_addFI, w_addFL2, w_addFT2, w_frzI, w_frzS, w_frzT, w_frzF, w_frzN, w_frzB, w_subI, w_ltI, w_leI, w_gtI, w_geI, w_eqI, w_neI, w_eqS, w_neS, w_lenT, w_lenF, w_ixT2, w_ixF2, atI_pos, ixN_nat, Int.reduceToNat, Int.reduceLE, Int.reduceLT, Int.reduceNeg, startD, List.map_cons, List.map_nil, List.length_cons, List.length_nil, List.replicate, List.cons_append, List.nil_append, List.getElem?_cons_zero, List.getElem?_cons_succ, List.set_cons_zero, List.set_cons_succ, Nat.reduceAdd, Nat.reduceSub, Nat.reduceEqDiff, if_true, if_false, Bool.false_eq_true, decide_true, decide_false, Int.reduceEq, Int.reduceAdd, Int.reduceSub, Int.reduceMul, Bool.not_true, Bool.not_false, c_0, c_1, c_2, c_3, c_4, c_5, c_6, c_7, c_8, c_9, c_10, c_11, c_12, sz_0, sz_1, sz_2, sz_3, sz_4, sz_5, sz_6, sz_7, sz_8, sz_9, sz_10, sz_11, sz_12, sz_13, sz_14, sz_15, sz_16, Bool.true_eq_false, eq_self, it_tuplelist_int, it_tuplelist_str, it_tuplelist_tuple, it_tuplelist_list, it_tuplelist_bool, it_tuplelist_NoneType, it_list_int, it_list_str, it_list_tuple, it_list_list, it_list_bool, it_list_NoneType, it_tuple_int, it_tuple_str, it_tuple_tuple, it_tuple_list, it_tuple_bool, it_tuple_NoneType, it_bool_int, it_bool_str, it_bool_tuple, it_bool_list, it_bool_bool, it_bool_NoneType, it_int_int, it_int_str, it_int_tuple, it_int_list, it_int_bool, it_int_NoneType, it_str_int, it_str_str, it_str_tuple, it_str_list, it_str_bool, it_str_NoneType, ty_int, ty_str, ty_tuple, ty_list, ty_bool, ty_non, w_eqB, w_neB, w_isN, w_isNotN, nn_int, nn_str, nn_tuple, nn_list, nn_bool, kn_BadMachine_BadText, kn_NotSound_BadMachine, kn_NotSound_BadText, kn_BadBeat_BadMachine, kn_BadBeat_BadText, kn_BadPlain_BadMachine, kn_BadPlain_BadText, kn_TooLarge_BadMachine, kn_TooLarge_BadText, kn_BadMatch_BadMachine, kn_BadMatch_BadText, kn_BadMarks_BadMachine, kn_BadMarks_BadText, kn_BadTree_BadMachine, kn_BadTree_BadText, kn_BadProgram_BadMachine, kn_BadProgram_BadText, kn_Stuck_BadMachine, kn_Stuck_BadText, kn_BadCircuit_BadMachine, kn_BadCircuit_BadText, kn_BadPattern_BadMachine, kn_BadPattern_BadText, kn_BadPairs_BadMachine, kn_BadPairs_BadText, kn_BadNumbers_BadMachine, kn_BadNumbers_BadText, kn_BadRows_BadMachine, kn_BadRows_BadText, kn_BadText_BadMachine, km_BadMachine, km_NotSound, km_BadBeat, km_BadPlain, km_TooLarge, km_BadMatch, km_BadMarks, km_BadTree, km_BadProgram, km_Stuck, km_BadCircuit, km_BadPattern, km_BadPairs, km_BadNumbers, km_BadRows, km_BadText, inD, dExFc, List.mem_cons, true_or, or_true, Nat.reduceEqDiff, false_or, wF rfl h1]
          trivial
    · show Wp (match atI kwords ((9 : Nat) : Int) with | some d => Res.ok d S2 | none => Res.stuck) _ _
      have ea : atI kwords ((9 : Nat) : Int) = some (.str "Stuck") := rfl
      rw [ea]
      cases hk
      simp only [w_dVar, w_dC, w_dNil, w_dCons, w_dTup, w_dLst, w_d2, w_d2T, w_d3, w_d3T, w_tstB, w_tAndD, w_tOrD, w_tNotD, w_dAnd, w_dOr, w_dNot, w_dIf, w_dNeg, w_sNext, w_sSeq, w_sIf, w_sRet, w_sExpr, w_sAsg, w_gVar, w_sBrk, w_gsNil, w_gsCons, w_gTupD, w_sPar, w_iVal, w_iEnumD, w_iZipD, w_iRngD1, w_iRngD2, w_tYesD, w_gSubD, w_oNone, w_oSome, w_dSlice, w_dCall, w_dFld, w_sFldD, w_gFldD, w_dCallF, w_dMeth, w_dMake, w_sRaise, w_sRaiseT, w_dExFc, w_dBm, w_dIsi, w_dLstF, w_dSliceF, w_dKind, kB_ap, w_bind, w_ok, w_exc, w_stuck, w_dFn, kFn_nx, kFn_ret, w_sTry, w_sFor, z6, z5, w_addI, w_addFI, w_addFL2, w_addFT2, w_frzI, w_frzS, w_frzT, w_frzF, w_frzN, w_frzB, w_subI, w_ltI, w_leI, w_gtI, w_geI, w_eqI, w_neI, w_eqS, w_neS, w_lenT, w_lenF, w_ixT2, w_ixF2, atI_pos, ixN_nat, Int.reduceToNat, Int.reduceLE, Int.reduceLT, Int.reduceNeg, startD, List.map_cons, List.map_nil, List.length_cons, List.length_nil, List.replicate, List.cons_append, List.nil_append, List.getElem?_cons_zero, List.getElem?_cons_succ, List.set_cons_zero, List.set_cons_succ, Nat.reduceAdd, Nat.reduceSub, Nat.reduceEqDiff, if_true, if_false, Bool.false_eq_true, decide_true, decide_false, Int.reduceEq, Int.reduceAdd, Int.reduceSub, Int.reduceMul, Bool.not_true, Bool.not_false, c_0, c_1, c_2, c_3, c_4, c_5, c_6, c_7, c_8, c_9, c_10, c_11, c_12, sz_0, sz_1, sz_2, sz_3, sz_4, sz_5, sz_6, sz_7, sz_8, sz_9, sz_10, sz_11, sz_12, sz_13, sz_14, sz_15, sz_16, Bool.true_eq_false, eq_self, it_tuplelist_int, it_tuplelist_str, it_tuplelist_tuple, it_tuplelist_list, it_tuplelist_bool, it_tuplelist_NoneType, it_list_int, it_list_str, it_list_tuple, it_list_list, it_list_bool, it_list_NoneType, it_tuple_int, it_tuple_str, it_tuple_tuple, it_tuple_list, it_tuple_bool, it_tuple_NoneType, it_bool_int, it_bool_str, it_bool_tuple, it_bool_list, it_bool_bool, it_bool_NoneType, it_int_int, it_int_str, it_int_tuple, it_int_list, it_int_bool, it_int_NoneType, it_str_int, it_str_str, it_str_tuple, it_str_list, it_str_bool, it_str_NoneType, ty_int, ty_str, ty_tuple, ty_list, ty_bool, ty_non, w_eqB, w_neB, w_isN, w_isNotN, nn_int, nn_str, nn_tuple, nn_list, nn_bool, kn_BadMachine_BadText, kn_NotSound_BadMachine, kn_NotSound_BadText, kn_BadBeat_BadMachine, kn_BadBeat_BadText, kn_BadPlain_BadMachine, kn_BadPlain_BadText, kn_TooLarge_BadMachine, kn_TooLarge_BadText, kn_BadMatch_BadMachine, kn_BadMatch_BadText, kn_BadMarks_BadMachine, kn_BadMarks_BadText, kn_BadTree_BadMachine, kn_BadTree_BadText, kn_BadProgram_BadMachine, kn_BadProgram_BadText, kn_Stuck_BadMachine, kn_Stuck_BadText, kn_BadCircuit_BadMachine, kn_BadCircuit_BadText, kn_BadPattern_BadMachine, kn_BadPattern_BadText, kn_BadPairs_BadMachine, kn_BadPairs_BadText, kn_BadNumbers_BadMachine, kn_BadNumbers_BadText, kn_BadRows_BadMachine, kn_BadRows_BadText, kn_BadText_BadMachine, km_BadMachine, km_NotSound, km_BadBeat, km_BadPlain, km_TooLarge, km_BadMatch, km_BadMarks, km_BadTree, km_BadProgram, km_Stuck, km_BadCircuit, km_BadPattern, km_BadPairs, km_BadNumbers, km_BadRows, km_BadText, inD]
      trivial
    · show Wp (match atI kwords ((10 : Nat) : Int) with | some d => Res.ok d S2 | none => Res.stuck) _ _
      have ea : atI kwords ((10 : Nat) : Int) = some (.str "BadCircuit") := rfl
      rw [ea]
      cases fs with
      | none => cases hk
      | some fs =>
        cases h1 : lookF fs "number" with
        | none => simp [kdata, h1] at hk
        | some u =>
          simp [kdata, h1] at hk
          subst hk
          simp only [w_dVar, w_dC, w_dNil, w_dCons, w_dTup, w_dLst, w_d2, w_d2T, w_d3, w_d3T, w_tstB, w_tAndD, w_tOrD, w_tNotD, w_dAnd, w_dOr, w_dNot, w_dIf, w_dNeg, w_sNext, w_sSeq, w_sIf, w_sRet, w_sExpr, w_sAsg, w_gVar, w_sBrk, w_gsNil, w_gsCons, w_gTupD, w_sPar, w_iVal, w_iEnumD, w_iZipD, w_iRngD1, w_iRngD2, w_tYesD, w_gSubD, w_oNone, w_oSome, w_dSlice, w_dCall, w_dFld, w_sFldD, w_gFldD, w_dCallF, w_dMeth, w_dMake, w_sRaise, w_sRaiseT, w_dExFc, w_dBm, w_dIsi, w_dLstF, w_dSliceF, w_dKind, kB_ap, w_bind, w_ok, w_exc, w_stuck, w_dFn, kFn_nx, kFn_ret, w_sTry, w_sFor, z6, z5, w_addI, w_addFI, w_addFL2, w_addFT2, w_frzI, w_frzS, w_frzT, w_frzF, w_frzN, w_frzB, w_subI, w_ltI, w_leI, w_gtI, w_geI, w_eqI, w_neI, w_eqS, w_neS, w_lenT, w_lenF, w_ixT2, w_ixF2, atI_pos, ixN_nat, Int.reduceToNat, Int.reduceLE, Int.reduceLT, Int.reduceNeg, startD, List.map_cons, List.map_nil, List.length_cons, List.length_nil, List.replicate, List.cons_append, List.nil_append, List.getElem?_cons_zero, List.getElem?_cons_succ, List.set_cons_zero, List.set_cons_succ, Nat.reduceAdd, Nat.reduceSub, Nat.reduceEqDiff, if_true, if_false, Bool.false_eq_true, decide_true, decide_false, Int.reduceEq, Int.reduceAdd, Int.reduceSub, Int.reduceMul, Bool.not_true, Bool.not_false, c_0, c_1, c_2, c_3, c_4, c_5, c_6, c_7, c_8, c_9, c_10, c_11, c_12, sz_0, sz_1, sz_2, sz_3, sz_4, sz_5, sz_6, sz_7, sz_8, sz_9, sz_10, sz_11, sz_12, sz_13, sz_14, sz_15, sz_16, Bool.true_eq_false, eq_self, it_tuplelist_int, it_tuplelist_str, it_tuplelist_tuple, it_tuplelist_list, it_tuplelist_bool, it_tuplelist_NoneType, it_list_int, it_list_str, it_list_tuple, it_list_list, it_list_bool, it_list_NoneType, it_tuple_int, it_tuple_str, it_tuple_tuple, it_tuple_list, it_tuple_bool, it_tuple_NoneType, it_bool_int, it_bool_str, it_bool_tuple, it_bool_list, it_bool_bool, it_bool_NoneType, it_int_int, it_int_str, it_int_tuple, it_int_list, it_int_bool, it_int_NoneType, it_str_int, it_str_str, it_str_tuple, it_str_list, it_str_bool, it_str_NoneType, ty_int, ty_str, ty_tuple, ty_list, ty_bool, ty_non, w_eqB, w_neB, w_isN, w_isNotN, nn_int, nn_str, nn_tuple, nn_list, nn_bool, kn_BadMachine_BadText, kn_NotSound_BadMachine, kn_NotSound_BadText, kn_BadBeat_BadMachine, kn_BadBeat_BadText, kn_BadPlain_BadMachine, kn_BadPlain_BadText, kn_TooLarge_BadMachine, kn_TooLarge_BadText, kn_BadMatch_BadMachine, kn_BadMatch_BadText, kn_BadMarks_BadMachine, kn_BadMarks_BadText, kn_BadTree_BadMachine, kn_BadTree_BadText, kn_BadProgram_BadMachine, kn_BadProgram_BadText, kn_Stuck_BadMachine, kn_Stuck_BadText, kn_BadCircuit_BadMachine, kn_BadCircuit_BadText, kn_BadPattern_BadMachine, kn_BadPattern_BadText, kn_BadPairs_BadMachine, kn_BadPairs_BadText, kn_BadNumbers_BadMachine, kn_BadNumbers_BadText, kn_BadRows_BadMachine, kn_BadRows_BadText, kn_BadText_BadMachine, km_BadMachine, km_NotSound, km_BadBeat, km_BadPlain, km_TooLarge, km_BadMatch, km_BadMarks, km_BadTree, km_BadProgram, km_Stuck, km_BadCircuit, km_BadPattern, km_BadPairs, km_BadNumbers, km_BadRows, km_BadText, inD, dExFc, List.mem_cons, true_or, or_true, Nat.reduceEqDiff, false_or, wF rfl h1]
          trivial
    · show Wp (match atI kwords ((11 : Nat) : Int) with | some d => Res.ok d S2 | none => Res.stuck) _ _
      have ea : atI kwords ((11 : Nat) : Int) = some (.str "BadPattern") := rfl
      rw [ea]
      cases hk
      simp only [w_dVar, w_dC, w_dNil, w_dCons, w_dTup, w_dLst, w_d2, w_d2T, w_d3, w_d3T, w_tstB, w_tAndD, w_tOrD, w_tNotD, w_dAnd, w_dOr, w_dNot, w_dIf, w_dNeg, w_sNext, w_sSeq, w_sIf, w_sRet, w_sExpr, w_sAsg, w_gVar, w_sBrk, w_gsNil, w_gsCons, w_gTupD, w_sPar, w_iVal, w_iEnumD, w_iZipD, w_iRngD1, w_iRngD2, w_tYesD, w_gSubD, w_oNone, w_oSome, w_dSlice, w_dCall, w_dFld, w_sFldD, w_gFldD, w_dCallF, w_dMeth, w_dMake, w_sRaise, w_sRaiseT, w_dExFc, w_dBm, w_dIsi, w_dLstF, w_dSliceF, w_dKind, kB_ap, w_bind, w_ok, w_exc, w_stuck, w_dFn, kFn_nx, kFn_ret, w_sTry, w_sFor, z6, z5, w_addI, w_addFI, w_addFL2, w_addFT2, w_frzI, w_frzS, w_frzT, w_frzF, w_frzN, w_frzB, w_subI, w_ltI, w_leI, w_gtI, w_geI, w_eqI, w_neI, w_eqS, w_neS, w_lenT, w_lenF, w_ixT2, w_ixF2, atI_pos, ixN_nat, Int.reduceToNat, Int.reduceLE, Int.reduceLT, Int.reduceNeg, startD, List.map_cons, List.map_nil, List.length_cons, List.length_nil, List.replicate, List.cons_append, List.nil_append, List.getElem?_cons_zero, List.getElem?_cons_succ, List.set_cons_zero, List.set_cons_succ, Nat.reduceAdd, Nat.reduceSub, Nat.reduceEqDiff, if_true, if_false, Bool.false_eq_true, decide_true, decide_false, Int.reduceEq, Int.reduceAdd, Int.reduceSub, Int.reduceMul, Bool.not_true, Bool.not_false, c_0, c_1, c_2, c_3, c_4, c_5, c_6, c_7, c_8, c_9, c_10, c_11, c_12, sz_0, sz_1, sz_2, sz_3, sz_4, sz_5, sz_6, sz_7, sz_8, sz_9, sz_10, sz_11, sz_12, sz_13, sz_14, sz_15, sz_16, Bool.true_eq_false, eq_self, it_tuplelist_int, it_tuplelist_str, it_tuplelist_tuple, it_tuplelist_list, it_tuplelist_bool, it_tuplelist_NoneType, it_list_int, it_list_str, it_list_tuple, it_list_list, it_list_bool, it_list_NoneType, it_tuple_int, it_tuple_str, it_tuple_tuple, it_tuple_list, it_tuple_bool, it_tuple_NoneType, it_bool_int, it_bool_str, it_bool_tuple, it_bool_list, it_bool_bool, it_bool_NoneType, it_int_int, it_int_str, it_int_tuple, it_int_list, it_int_bool, it_int_NoneType, it_str_int, it_str_str, it_str_tuple, it_str_list, it_str_bool, it_str_NoneType, ty_int, ty_str, ty_tuple, ty_list, ty_bool, ty_non, w_eqB, w_neB, w_isN, w_isNotN, nn_int, nn_str, nn_tuple, nn_list, nn_bool, kn_BadMachine_BadText, kn_NotSound_BadMachine, kn_NotSound_BadText, kn_BadBeat_BadMachine, kn_BadBeat_BadText, kn_BadPlain_BadMachine, kn_BadPlain_BadText, kn_TooLarge_BadMachine, kn_TooLarge_BadText, kn_BadMatch_BadMachine, kn_BadMatch_BadText, kn_BadMarks_BadMachine, kn_BadMarks_BadText, kn_BadTree_BadMachine, kn_BadTree_BadText, kn_BadProgram_BadMachine, kn_BadProgram_BadText, kn_Stuck_BadMachine, kn_Stuck_BadText, kn_BadCircuit_BadMachine, kn_BadCircuit_BadText, kn_BadPattern_BadMachine, kn_BadPattern_BadText, kn_BadPairs_BadMachine, kn_BadPairs_BadText, kn_BadNumbers_BadMachine, kn_BadNumbers_BadText, kn_BadRows_BadMachine, kn_BadRows_BadText, kn_BadText_BadMachine, km_BadMachine, km_NotSound, km_BadBeat, km_BadPlain, km_TooLarge, km_BadMatch, km_BadMarks, km_BadTree, km_BadProgram, km_Stuck, km_BadCircuit, km_BadPattern, km_BadPairs, km_BadNumbers, km_BadRows, km_BadText, inD]
      trivial
    · show Wp (match atI kwords ((12 : Nat) : Int) with | some d => Res.ok d S2 | none => Res.stuck) _ _
      have ea : atI kwords ((12 : Nat) : Int) = some (.str "BadPairs") := rfl
      rw [ea]
      cases hk
      simp only [w_dVar, w_dC, w_dNil, w_dCons, w_dTup, w_dLst, w_d2, w_d2T, w_d3, w_d3T, w_tstB, w_tAndD, w_tOrD, w_tNotD, w_dAnd, w_dOr, w_dNot, w_dIf, w_dNeg, w_sNext, w_sSeq, w_sIf, w_sRet, w_sExpr, w_sAsg, w_gVar, w_sBrk, w_gsNil, w_gsCons, w_gTupD, w_sPar, w_iVal, w_iEnumD, w_iZipD, w_iRngD1, w_iRngD2, w_tYesD, w_gSubD, w_oNone, w_oSome, w_dSlice, w_dCall, w_dFld, w_sFldD, w_gFldD, w_dCallF, w_dMeth, w_dMake, w_sRaise, w_sRaiseT, w_dExFc, w_dBm, w_dIsi, w_dLstF, w_dSliceF, w_dKind, kB_ap, w_bind, w_ok, w_exc, w_stuck, w_dFn, kFn_nx, kFn_ret, w_sTry, w_sFor, z6, z5, w_addI, w_addFI, w_addFL2, w_addFT2, w_frzI, w_frzS, w_frzT, w_frzF, w_frzN, w_frzB, w_subI, w_ltI, w_leI, w_gtI, w_geI, w_eqI, w_neI, w_eqS, w_neS, w_lenT, w_lenF, w_ixT2, w_ixF2, atI_pos, ixN_nat, Int.reduceToNat, Int.reduceLE, Int.reduceLT, Int.reduceNeg, startD, List.map_cons, List.map_nil, List.length_cons, List.length_nil, List.replicate, List.cons_append, List.nil_append, List.getElem?_cons_zero, List.getElem?_cons_succ, List.set_cons_zero, List.set_cons_succ, Nat.reduceAdd, Nat.reduceSub, Nat.reduceEqDiff, if_true, if_false, Bool.false_eq_true, decide_true, decide_false, Int.reduceEq, Int.reduceAdd, Int.reduceSub, Int.reduceMul, Bool.not_true, Bool.not_false, c_0, c_1, c_2, c_3, c_4, c_5, c_6, c_7, c_8, c_9, c_10, c_11, c_12, sz_0, sz_1, sz_2, sz_3, sz_4, sz_5, sz_6, sz_7, sz_8, sz_9, sz_10, sz_11, sz_12, sz_13, sz_14, sz_15, sz_16, Bool.true_eq_false, eq_self, it_tuplelist_int, it_tuplelist_str, it_tuplelist_tuple, it_tuplelist_list, it_tuplelist_bool, it_tuplelist_NoneType, it_list_int, it_list_str, it_list_tuple, it_list_list, it_list_bool, it_list_NoneType, it_tuple_int, it_tuple_str, it_tuple_tuple, it_tuple_list, it_tuple_bool, it_tuple_NoneType, it_bool_int, it_bool_str, it_bool_tuple, it_bool_list, it_bool_bool, it_bool_NoneType, it_int_int, it_int_str, it_int_tuple, it_int_list, it_int_bool, it_int_NoneType, it_str_int, it_str_str, it_str_tuple, it_str_list, it_str_bool, it_str_NoneType, ty_int, ty_str, ty_tuple, ty_list, ty_bool, ty_non, w_eqB, w_neB, w_isN, w_isNotN, nn_int, nn_str, nn_tuple, nn_list, nn_bool, kn_BadMachine_BadText, kn_NotSound_BadMachine, kn_NotSound_BadText, kn_BadBeat_BadMachine, kn_BadBeat_BadText, kn_BadPlain_BadMachine, kn_BadPlain_BadText, kn_TooLarge_BadMachine, kn_TooLarge_BadText, kn_BadMatch_BadMachine, kn_BadMatch_BadText, kn_BadMarks_BadMachine, kn_BadMarks_BadText, kn_BadTree_BadMachine, kn_BadTree_BadText, kn_BadProgram_BadMachine, kn_BadProgram_BadText, kn_Stuck_BadMachine, kn_Stuck_BadText, kn_BadCircuit_BadMachine, kn_BadCircuit_BadText, kn_BadPattern_BadMachine, kn_BadPattern_BadText, kn_BadPairs_BadMachine, kn_BadPairs_BadText, kn_BadNumbers_BadMachine, kn_BadNumbers_BadText, kn_BadRows_BadMachine, kn_BadRows_BadText, kn_BadText_BadMachine, km_BadMachine, km_NotSound, km_BadBeat, km_BadPlain, km_TooLarge, km_BadMatch, km_BadMarks, km_BadTree, km_BadProgram, km_Stuck, km_BadCircuit, km_BadPattern, km_BadPairs, km_BadNumbers, km_BadRows, km_BadText, inD]
      trivial
    · show Wp (match atI kwords ((13 : Nat) : Int) with | some d => Res.ok d S2 | none => Res.stuck) _ _
      have ea : atI kwords ((13 : Nat) : Int) = some (.str "BadNumbers") := rfl
      rw [ea]
      cases hk
      simp only [w_dVar, w_dC, w_dNil, w_dCons, w_dTup, w_dLst, w_d2, w_d2T, w_d3, w_d3T, w_tstB, w_tAndD, w_tOrD, w_tNotD, w_dAnd, w_dOr, w_dNot, w_dIf, w_dNeg, w_sNext, w_sSeq, w_sIf, w_sRet, w_sExpr, w_sAsg, w_gVar, w_sBrk, w_gsNil, w_gsCons, w_gTupD, w_sPar, w_iVal, w_iEnumD, w_iZipD, w_iRngD1, w_iRngD2, w_tYesD, w_gSubD, w_oNone, w_oSome, w_dSlice, w_dCall, w_dFld, w_sFldD, w_gFldD, w_dCallF, w_dMeth, w_dMake, w_sRaise, w_sRaiseT, w_dExFc, w_dBm, w_dIsi, w_dLstF, w_dSliceF, w_dKind, kB_ap, w_bind, w_ok, w_exc, w_stuck, w_dFn, kFn_nx, kFn_ret, w_sTry, w_sFor, z6, z5, w_addI, w_addFI, w_addFL2, w_addFT2, w_frzI, w_frzS, w_frzT, w_frzF, w_frzN, w_frzB, w_subI, w_ltI, w_leI, w_gtI, w_geI, w_eqI, w_neI, w_eqS, w_neS, w_lenT, w_lenF, w_ixT2, w_ixF2, atI_pos, ixN_nat, Int.reduceToNat, Int.reduceLE, Int.reduceLT, Int.reduceNeg, startD, List.map_cons, List.map_nil, List.length_cons, List.length_nil, List.replicate, List.cons_append, List.nil_append, List.getElem?_cons_zero, List.getElem?_cons_succ, List.set_cons_zero, List.set_cons_succ, Nat.reduceAdd, Nat.reduceSub, Nat.reduceEqDiff, if_true, if_false, Bool.false_eq_true, decide_true, decide_false, Int.reduceEq, Int.reduceAdd, Int.reduceSub, Int.reduceMul, Bool.not_true, Bool.not_false, c_0, c_1, c_2, c_3, c_4, c_5, c_6, c_7, c_8, c_9, c_10, c_11, c_12, sz_0, sz_1, sz_2, sz_3, sz_4, sz_5, sz_6, sz_7, sz_8, sz_9, sz_10, sz_11, sz_12, sz_13, sz_14, sz_15, sz_16, Bool.true_eq_false, eq_self, it_tuplelist_int, it_tuplelist_str, it_tuplelist_tuple, it_tuplelist_list, it_tuplelist_bool, it_tuplelist_NoneType, it_list_int, it_list_str, it_list_tuple, it_list_list, it_list_bool, it_list_NoneType, it_tuple_int, it_tuple_str, it_tuple_tuple, it_tuple_list, it_tuple_bool, it_tuple_NoneType, it_bool_int, it_bool_str, it_bool_tuple, it_bool_list, it_bool_bool, it_bool_NoneType, it_int_int, it_int_str, it_int_tuple, it_int_list, it_int_bool, it_int_NoneType, it_str_int, it_str_str, it_str_tuple, it_str_list, it_str_bool, it_str_NoneType, ty_int, ty_str, ty_tuple, ty_list, ty_bool, ty_non, w_eqB, w_neB, w_isN, w_isNotN, nn_int, nn_str, nn_tuple, nn_list, nn_bool, kn_BadMachine_BadText, kn_NotSound_BadMachine, kn_NotSound_BadText, kn_BadBeat_BadMachine, kn_BadBeat_BadText, kn_BadPlain_BadMachine, kn_BadPlain_BadText, kn_TooLarge_BadMachine, kn_TooLarge_BadText, kn_BadMatch_BadMachine, kn_BadMatch_BadText, kn_BadMarks_BadMachine, kn_BadMarks_BadText, kn_BadTree_BadMachine, kn_BadTree_BadText, kn_BadProgram_BadMachine, kn_BadProgram_BadText, kn_Stuck_BadMachine, kn_Stuck_BadText, kn_BadCircuit_BadMachine, kn_BadCircuit_BadText, kn_BadPattern_BadMachine, kn_BadPattern_BadText, kn_BadPairs_BadMachine, kn_BadPairs_BadText, kn_BadNumbers_BadMachine, kn_BadNumbers_BadText, kn_BadRows_BadMachine, kn_BadRows_BadText, kn_BadText_BadMachine, km_BadMachine, km_NotSound, km_BadBeat, km_BadPlain, km_TooLarge, km_BadMatch, km_BadMarks, km_BadTree, km_BadProgram, km_Stuck, km_BadCircuit, km_BadPattern, km_BadPairs, km_BadNumbers, km_BadRows, km_BadText, inD]
      trivial
    · show Wp (match atI kwords ((14 : Nat) : Int) with | some d => Res.ok d S2 | none => Res.stuck) _ _
      have ea : atI kwords ((14 : Nat) : Int) = some (.str "BadRows") := rfl
      rw [ea]
      cases fs with
      | none => cases hk
      | some fs =>
        cases h1 : lookF fs "number" with
        | none => simp [kdata, h1] at hk
        | some u =>
          simp [kdata, h1] at hk
          subst hk
          simp only [w_dVar, w_dC, w_dNil, w_dCons, w_dTup, w_dLst, w_d2, w_d2T, w_d3, w_d3T, w_tstB, w_tAndD, w_tOrD, w_tNotD, w_dAnd, w_dOr, w_dNot, w_dIf, w_dNeg, w_sNext, w_sSeq, w_sIf, w_sRet, w_sExpr, w_sAsg, w_gVar, w_sBrk, w_gsNil, w_gsCons, w_gTupD, w_sPar, w_iVal, w_iEnumD, w_iZipD, w_iRngD1, w_iRngD2, w_tYesD, w_gSubD, w_oNone, w_oSome, w_dSlice, w_dCall, w_dFld, w_sFldD, w_gFldD, w_dCallF, w_dMeth, w_dMake, w_sRaise, w_sRaiseT, w_dExFc, w_dBm, w_dIsi, w_dLstF, w_dSliceF, w_dKind, kB_ap, w_bind, w_ok, w_exc, w_stuck, w_dFn, kFn_nx, kFn_ret, w_sTry, w_sFor, z6, z5, w_addI, w_addFI, w_addFL2, w_addFT2, w_frzI, w_frzS, w_frzT, w_frzF, w_frzN, w_frzB, w_subI, w_ltI, w_leI, w_gtI, w_geI, w_eqI, w_neI, w_eqS, w_neS, w_lenT, w_lenF, w_ixT2, w_ixF2, atI_pos, ixN_nat, Int.reduceToNat, Int.reduceLE, Int.reduceLT, Int.reduceNeg, startD, List.map_cons, List.map_nil, List.length_cons, List.length_nil, List.replicate, List.cons_append, List.nil_append, List.getElem?_cons_zero, List.getElem?_cons_succ, List.set_cons_zero, List.set_cons_succ, Nat.reduceAdd, Nat.reduceSub, Nat.reduceEqDiff, if_true, if_false, Bool.false_eq_true, decide_true, decide_false, Int.reduceEq, Int.reduceAdd, Int.reduceSub, Int.reduceMul, Bool.not_true, Bool.not_false, c_0, c_1, c_2, c_3, c_4, c_5, c_6, c_7, c_8, c_9, c_10, c_11, c_12, sz_0, sz_1, sz_2, sz_3, sz_4, sz_5, sz_6, sz_7, sz_8, sz_9, sz_10, sz_11, sz_12, sz_13, sz_14, sz_15, sz_16, Bool.true_eq_false, eq_self, it_tuplelist_int, it_tuplelist_str, it_tuplelist_tuple, it_tuplelist_list, it_tuplelist_bool, it_tuplelist_NoneType, it_list_int, it_list_str, it_list_tuple, it_list_list, it_list_bool, it_list_NoneType, it_tuple_int, it_tuple_str, it_tuple_tuple, it_tuple_list, it_tuple_bool, it_tuple_NoneType, it_bool_int, it_bool_str, it_bool_tuple, it_bool_list, it_bool_bool, it_bool_NoneType, it_int_int, it_int_str, it_int_tuple, it_int_list, it_int_bool, it_int_NoneType, it_str_int, it_str_str, it_str_tuple, it_str_list, it_str_bool, it_str_NoneType, ty_int, ty_str, ty_tuple, ty_list, ty_bool, ty_non, w_eqB, w_neB, w_isN, w_isNotN, nn_int, nn_str, nn_tuple, nn_list, nn_bool, kn_BadMachine_BadText, kn_NotSound_BadMachine, kn_NotSound_BadText, kn_BadBeat_BadMachine, kn_BadBeat_BadText, kn_BadPlain_BadMachine, kn_BadPlain_BadText, kn_TooLarge_BadMachine, kn_TooLarge_BadText, kn_BadMatch_BadMachine, kn_BadMatch_BadText, kn_BadMarks_BadMachine, kn_BadMarks_BadText, kn_BadTree_BadMachine, kn_BadTree_BadText, kn_BadProgram_BadMachine, kn_BadProgram_BadText, kn_Stuck_BadMachine, kn_Stuck_BadText, kn_BadCircuit_BadMachine, kn_BadCircuit_BadText, kn_BadPattern_BadMachine, kn_BadPattern_BadText, kn_BadPairs_BadMachine, kn_BadPairs_BadText, kn_BadNumbers_BadMachine, kn_BadNumbers_BadText, kn_BadRows_BadMachine, kn_BadRows_BadText, kn_BadText_BadMachine, km_BadMachine, km_NotSound, km_BadBeat, km_BadPlain, km_TooLarge, km_BadMatch, km_BadMarks, km_BadTree, km_BadProgram, km_Stuck, km_BadCircuit, km_BadPattern, km_BadPairs, km_BadNumbers, km_BadRows, km_BadText, inD, dExFc, List.mem_cons, true_or, or_true, Nat.reduceEqDiff, false_or, wF rfl h1]
          trivial
    · show Wp (match atI kwords ((15 : Nat) : Int) with | some d => Res.ok d S2 | none => Res.stuck) _ _
      have ea : atI kwords ((15 : Nat) : Int) = some (.str "BadText") := rfl
      rw [ea]
      cases fs with
      | none => cases hk
      | some fs =>
        cases h1 : lookF fs "row" with
        | none => simp [kdata, h1] at hk
        | some u =>
          simp [kdata, h1] at hk
          subst hk
          simp only [w_dVar, w_dC, w_dNil, w_dCons, w_dTup, w_dLst, w_d2, w_d2T, w_d3, w_d3T, w_tstB, w_tAndD, w_tOrD, w_tNotD, w_dAnd, w_dOr, w_dNot, w_dIf, w_dNeg, w_sNext, w_sSeq, w_sIf, w_sRet, w_sExpr, w_sAsg, w_gVar, w_sBrk, w_gsNil, w_gsCons, w_gTupD, w_sPar, w_iVal, w_iEnumD, w_iZipD, w_iRngD1, w_iRngD2, w_tYesD, w_gSubD, w_oNone, w_oSome, w_dSlice, w_dCall, w_dFld, w_sFldD, w_gFldD, w_dCallF, w_dMeth, w_dMake, w_sRaise, w_sRaiseT, w_dExFc, w_dBm, w_dIsi, w_dLstF, w_dSliceF, w_dKind, kB_ap, w_bind, w_ok, w_exc, w_stuck, w_dFn, kFn_nx, kFn_ret, w_sTry, w_sFor, z6, z5, w_addI, w_addFI, w_addFL2, w_addFT2, w_frzI, w_frzS, w_frzT, w_frzF, w_frzN, w_frzB, w_subI, w_ltI, w_leI, w_gtI, w_geI, w_eqI, w_neI, w_eqS, w_neS, w_lenT, w_lenF, w_ixT2, w_ixF2, atI_pos, ixN_nat, Int.reduceToNat, Int.reduceLE, Int.reduceLT, Int.reduceNeg, startD, List.map_cons, List.map_nil, List.length_cons, List.length_nil, List.replicate, List.cons_append, List.nil_append, List.getElem?_cons_zero, List.getElem?_cons_succ, List.set_cons_zero, List.set_cons_succ, Nat.reduceAdd, Nat.reduceSub, Nat.reduceEqDiff, if_true, if_false, Bool.false_eq_true, decide_true, decide_false, Int.reduceEq, Int.reduceAdd, Int.reduceSub, Int.reduceMul, Bool.not_true, Bool.not_false, c_0, c_1, c_2, c_3, c_4, c_5, c_6, c_7, c_8, c_9, c_10, c_11, c_12, sz_0, sz_1, sz_2, sz_3, sz_4, sz_5, sz_6, sz_7, sz_8, sz_9, sz_10, sz_11, sz_12, sz_13, sz_14, sz_15, sz_16, Bool.true_eq_false, eq_self, it_tuplelist_int, it_tuplelist_str, it_tuplelist_tuple, it_tuplelist_list, it_tuplelist_bool, it_tuplelist_NoneType, it_list_int, it_list_str, it_list_tuple, it_list_list, it_list_bool, it_list_NoneType, it_tuple_int, it_tuple_str, it_tuple_tuple, it_tuple_list, it_tuple_bool, it_tuple_NoneType, it_bool_int, it_bool_str, it_bool_tuple, it_bool_list, it_bool_bool, it_bool_NoneType, it_int_int, it_int_str, it_int_tuple, it_int_list, it_int_bool, it_int_NoneType, it_str_int, it_str_str, it_str_tuple, it_str_list, it_str_bool, it_str_NoneType, ty_int, ty_str, ty_tuple, ty_list, ty_bool, ty_non, w_eqB, w_neB, w_isN, w_isNotN, nn_int, nn_str, nn_tuple, nn_list, nn_bool, kn_BadMachine_BadText, kn_NotSound_BadMachine, kn_NotSound_BadText, kn_BadBeat_BadMachine, kn_BadBeat_BadText, kn_BadPlain_BadMachine, kn_BadPlain_BadText, kn_TooLarge_BadMachine, kn_TooLarge_BadText, kn_BadMatch_BadMachine, kn_BadMatch_BadText, kn_BadMarks_BadMachine, kn_BadMarks_BadText, kn_BadTree_BadMachine, kn_BadTree_BadText, kn_BadProgram_BadMachine, kn_BadProgram_BadText, kn_Stuck_BadMachine, kn_Stuck_BadText, kn_BadCircuit_BadMachine, kn_BadCircuit_BadText, kn_BadPattern_BadMachine, kn_BadPattern_BadText, kn_BadPairs_BadMachine, kn_BadPairs_BadText, kn_BadNumbers_BadMachine, kn_BadNumbers_BadText, kn_BadRows_BadMachine, kn_BadRows_BadText, kn_BadText_BadMachine, km_BadMachine, km_NotSound, km_BadBeat, km_BadPlain, km_TooLarge, km_BadMatch, km_BadMarks, km_BadTree, km_BadProgram, km_Stuck, km_BadCircuit, km_BadPattern, km_BadPairs, km_BadNumbers, km_BadRows, km_BadText, inD, dExFc, List.mem_cons, true_or, or_true, Nat.reduceEqDiff, false_or, wF rfl h1]
          trivial
end DL

namespace DL
open PySem PySem.Spec PyProof.Rows L2
theorem Wp.noExc {α : Type} {r : Res α} {Q : α → Sto → Prop} {X : Exc → Sto → Prop} (h : Wp r Q (fun _ _ => False)) : Wp r.noExc Q X := by
  cases r with
  | ok a S => exact h
  | exc x S => exact h.elim
  | stuck => exact h.elim
theorem w_while {fc : Sl → Sto → Res Bool} {fb : Sl → Sto → Res Fl} {Q : Fl → Sto → Prop} {X : Exc → Sto → Prop} (I : Nat → Sl → Sto → Prop)
    (h : ∀ n sd S, I n sd S → Wp (fc sd S) (fun b S1 => if b = true then Wp (fb sd S1) (fun fl S2 => match fl with
      | .nx sd2 => ∃ k, k < n ∧ I k sd2 S2
      | .cnt sd2 => ∃ k, k < n ∧ I k sd2 S2
      | .brk sd2 => Q (.nx sd2) S2
      | .ret d => Q (.ret d) S2) X else Q (.nx sd) S1) X) :
    ∀ (f n : Nat) (sd : Sl) (S : Sto), n < f → I n sd S → Wp (whileD fc fb f sd S) Q X := by
  intro f
  induction f with
  | zero => intro n sd S hn _; omega
  | succ f ih =>
    intro n sd S hn hi
    unfold whileD
    rw [w_bind]
    refine Wp.mono (h n sd S hi) (fun b S1 h1 => ?_) fun _ _ z => z
    show Wp (if b then _ else _) Q X
    cases b with
    | false => rw [if_neg (by simp)] at h1; exact h1
    | true =>
      rw [if_pos rfl] at h1
      show Wp ((fb sd S1).bind _) Q X
      rw [w_bind]
      refine Wp.mono h1 (fun fl S2 h2 => ?_) fun _ _ z => z
      show Wp (match fl with
        | .nx sd2 => whileD fc fb f sd2 S2
        | .cnt sd2 => whileD fc fb f sd2 S2
        | .brk sd2 => .ok (.nx sd2) S2
        | .ret d => .ok (.ret d) S2) Q X
      cases fl with
      | nx sd2 => obtain ⟨k, hk, hi2⟩ := h2; exact ih k sd2 S2 (by omega) hi2
      | cnt sd2 => obtain ⟨k, hk, hi2⟩ := h2; exact ih k sd2 S2 (by omega) hi2
      | brk sd2 => exact h2
      | ret d => exact h2
def TD : Nat → D → Prop
  | _, .str w => PyData.strOk w = true
  | _, .int _ => True
  | n + 1, .tup ds => ∀ d ∈ ds, TD n d
  | _, _ => False
theorem TD.up : ∀ {n : Nat} {d : D}, TD n d → TD (n + 1) d
  | _, .str w, h => by cases ‹Nat› <;> exact h
  | _, .int _, _ => by cases ‹Nat› <;> trivial
  | n + 1, .tup ds, h => fun d hd => TD.up (h d hd)
  | 0, .tup _, h => h.elim
  | 0, .non, h => h.elim
  | 0, .bl _, h => h.elim
  | 0, .frl _, h => h.elim
  | 0, .ref _, h => h.elim
  | 0, .exn _ _ _ _, h => h.elim
  | _ + 1, .non, h => h.elim
  | _ + 1, .bl _, h => h.elim
  | _ + 1, .frl _, h => h.elim
  | _ + 1, .ref _, h => h.elim
  | _ + 1, .exn _ _ _ _, h => h.elim
theorem TD.le {n m : Nat} {d : D} (h : n ≤ m) (t : TD n d) : TD m d := by
  induction h with
  | refl => exact t
  | step _ ih => exact ih.up
theorem mapO_all {f : D → Option PyData} {P : PyData → Prop} : ∀ (ds : List D), (∀ d ∈ ds, ∃ p, f d = some p ∧ P p) → ∃ ps, mapO f ds = some ps ∧ (∀ p ∈ ps, P p) ∧ ps.length = ds.length
  | [], _ => ⟨[], rfl, (fun _ h => nomatch h), rfl⟩
  | d :: ds, h => by
    obtain ⟨p, e, hp⟩ := h d (by simp)
    obtain ⟨ps, e2, h2, h3⟩ := mapO_all ds fun x hx => h x (by simp [hx])
    refine ⟨p :: ps, ?_, ?_, by simp [h3]⟩
    · unfold mapO; rw [e, e2]
    · intro x hx
      rcases List.mem_cons.mp hx with rfl | hx
      · exact hp
      · exact h2 x hx
theorem lay_all : ∀ {ps : List PyData}, (∀ p ∈ ps, p.canLay0 = true) → PyData.canLayAll0 ps = true
  | [], _ => by simp [PyData.canLayAll0]
  | p :: ps, h => by
    simp only [PyData.canLayAll0, Bool.and_eq_true]
    exact ⟨h p (by simp), lay_all fun x hx => h x (by simp [hx])⟩
theorem depth_all {n : Nat} : ∀ {ps : List PyData}, (∀ p ∈ ps, p.depth ≤ n) → PyData.depthAll ps ≤ n
  | [], _ => by simp [PyData.depthAll]
  | p :: ps, h => by
    simp only [PyData.depthAll]
    exact Nat.max_le.mpr ⟨h p (by simp), depth_all fun x hx => h x (by simp [hx])⟩
theorem TD.toP {S : Sto} : ∀ {n m : Nat} {d : D}, TD n d → n ≤ m → ∃ p, DL.toP S m d = some p ∧ (p.canLay0 = true ∧ p.depth ≤ n)
  | n, m, .str w, h, _ => by
    have h' : PyData.strOk w = true := by cases n <;> exact h
    exact ⟨.str w, by cases m <;> rfl, by simp [PyData.canLay0, h'], by simp [PyData.depth]⟩
  | n, m, .int i, _, _ => ⟨.int i, by cases m <;> rfl, by simp [PyData.canLay0], by simp [PyData.depth]⟩
  | n + 1, 0, .tup ds, _, hm => by omega
  | n + 1, m + 1, .tup ds, h, hm => by
    obtain ⟨ps, e, hp, _⟩ := mapO_all (f := DL.toP S m) (P := fun p => p.canLay0 = true ∧ p.depth ≤ n) ds fun d hd => TD.toP (h d hd) (by omega)
    refine ⟨.tuple ps, ?_, ?_, ?_⟩
    · show (mapO (DL.toP S m) ds).map PyData.tuple = _
      rw [e]; rfl
    · simp only [PyData.canLay0]; exact lay_all fun p h => (hp p h).1
    · simp only [PyData.depth]; exact Nat.succ_le_succ (depth_all fun p h => (hp p h).2)
  | 0, _, .tup _, h, _ => h.elim
  | 0, _, .non, h, _ => h.elim
  | 0, _, .bl _, h, _ => h.elim
  | 0, _, .frl _, h, _ => h.elim
  | 0, _, .ref _, h, _ => h.elim
  | 0, _, .exn _ _ _ _, h, _ => h.elim
  | _ + 1, _, .non, h, _ => h.elim
  | _ + 1, _, .bl _, h, _ => h.elim
  | _ + 1, _, .frl _, h, _ => h.elim
  | _ + 1, _, .ref _, h, _ => h.elim
  | _ + 1, _, .exn _ _ _ _, h, _ => h.elim
end DL

namespace DL
open PySem PySem.Spec PyProof.Rows L2
def W (l : List Nat) : Str := ⟨l.toArray⟩
theorem W_cps (l : List Nat) : (W l).cps.toList = l := by simp [W]
theorem W_inj {a b : List Nat} : W a = W b ↔ a = b := ⟨fun h => by have := congrArg (fun s : Str => s.cps.toList) h; simpa [W_cps] using this, fun h => by rw [h]⟩
theorem W_app (a b : List Nat) : W a ++ W b = W (a ++ b) := by
  show (⟨(W a).cps ++ (W b).cps⟩ : Str) = _
  simp [W]
theorem W_len (l : List Nat) : (W l).length = l.length := by simp [W, Str.length]
theorem W_empty : Str.ofString "" = W [] := by decide +kernel
theorem W_01 : Str.ofString "01" = W [48, 49] := by decide +kernel
theorem W_0 : Str.ofString "0" = W [48] := by decide +kernel
theorem W_1 : Str.ofString "1" = W [49] := by decide +kernel
theorem W_dash : Str.ofString "-" = W [45] := by decide +kernel
def Wok (l : List Nat) : Prop := ∀ c ∈ l, c < 1114112
theorem strOk_W {l : List Nat} (h : Wok l) : PyData.strOk (W l) = true := by
  unfold PyData.strOk
  rw [Array.all_eq_true_iff_forall_mem]
  intro c hc
  exact decide_eq_true (h c (by simpa [W] using hc))
def GD : Nat → D → Prop
  | _, .str w => PyData.strOk w = true
  | _, .int _ => True
  | _, .non => True
  | n + 1, .tup ds => ∀ d ∈ ds, GD n d
  | n + 1, .frl ds => ∀ d ∈ ds, GD n d
  | _, _ => False
theorem gd_int {n : Nat} {i : Int} : GD n (.int i) := by cases n <;> trivial
theorem gd_non {n : Nat} : GD n .non := by cases n <;> trivial
theorem gd_str {n : Nat} {w : Str} (h : PyData.strOk w = true) : GD n (.str w) := by cases n <;> exact h
theorem gd_W {n : Nat} {l : List Nat} (h : Wok l) : GD n (.str (W l)) := gd_str (strOk_W h)
theorem gd_tup {n : Nat} {ds : List D} (h : ∀ d ∈ ds, GD n d) : GD (n + 1) (.tup ds) := h
theorem gd_frl {n : Nat} {ds : List D} (h : ∀ d ∈ ds, GD n d) : GD (n + 1) (.frl ds) := h
theorem GD.up : ∀ {n : Nat} {d : D}, GD n d → GD (n + 1) d
  | _, .str w, h => by cases ‹Nat› <;> exact h
  | _, .int _, _ => gd_int
  | _, .non, _ => gd_non
  | n + 1, .tup ds, h => fun d hd => GD.up (h d hd)
  | n + 1, .frl ds, h => fun d hd => GD.up (h d hd)
  | 0, .tup _, h => h.elim
  | 0, .frl _, h => h.elim
  | 0, .bl _, h => h.elim
  | 0, .ref _, h => h.elim
  | 0, .exn _ _ _ _, h => h.elim
  | _ + 1, .bl _, h => h.elim
  | _ + 1, .ref _, h => h.elim
  | _ + 1, .exn _ _ _ _, h => h.elim
theorem GD.le {n m : Nat} {d : D} (t : GD n d) (h : n ≤ m) : GD m d := by
  induction h with
  | refl => exact t
  | step _ ih => exact ih.up
mutual
def pd : D → PyData
  | .non => .none
  | .bl b => .bool b
  | .int i => .int i
  | .str x => .str x
  | .tup ds => .tuple (pds ds)
  | .frl ds => .list (pds ds)
  | .ref _ => .none
  | .exn _ _ _ _ => .none
def pds : List D → List PyData
  | [] => []
  | d :: ds => pd d :: pds ds
end
theorem mapO_pd {f : D → Option PyData} : ∀ (ds : List D), (∀ d ∈ ds, f d = some (pd d)) → mapO f ds = some (pds ds)
  | [], _ => rfl
  | d :: ds, h => by
    unfold mapO
    rw [h d (by simp), mapO_pd ds fun x hx => h x (by simp [hx])]
    rfl
theorem gd_toP {S : Sto} : ∀ {n k : Nat} {d : D}, GD n d → n ≤ k → toP S k d = some (pd d)
  | n, k, .str w, _, _ => by cases k <;> rfl
  | n, k, .int _, _, _ => by cases k <;> rfl
  | n, k, .non, _, _ => by cases k <;> rfl
  | n + 1, 0, .tup ds, _, hk => by omega
  | n + 1, 0, .frl ds, _, hk => by omega
  | n + 1, k + 1, .tup ds, h, hk => by
    show (mapO (toP S k) ds).map PyData.tuple = _
    rw [mapO_pd ds fun d hd => gd_toP (h d hd) (by omega)]; rfl
  | n + 1, k + 1, .frl ds, h, hk => by
    show (mapO (toP S k) ds).map PyData.list = _
    rw [mapO_pd ds fun d hd => gd_toP (h d hd) (by omega)]; rfl
  | 0, _, .tup _, h, _ => h.elim
  | 0, _, .frl _, h, _ => h.elim
  | 0, _, .bl _, h, _ => h.elim
  | 0, _, .ref _, h, _ => h.elim
  | 0, _, .exn _ _ _ _, h, _ => h.elim
  | _ + 1, _, .bl _, h, _ => h.elim
  | _ + 1, _, .ref _, h, _ => h.elim
  | _ + 1, _, .exn _ _ _ _, h, _ => h.elim
theorem pds_mem : ∀ {ds : List D} {p : PyData}, p ∈ pds ds → ∃ d ∈ ds, p = pd d
  | [], _, h => by cases h
  | d :: ds, p, h => by
    have h' : p ∈ pd d :: pds ds := h
    rcases List.mem_cons.mp h' with rfl | h'
    · exact ⟨d, by simp, rfl⟩
    · obtain ⟨e, he, rfl⟩ := pds_mem h'
      exact ⟨e, by simp [he], rfl⟩
theorem gd_lay : ∀ {n : Nat} {d : D}, GD n d → (pd d).canLay0 = true ∧ (pd d).depth ≤ n
  | n, .str w, h => by
    have h' : PyData.strOk w = true := by cases n <;> exact h
    exact ⟨by simp [pd, PyData.canLay0, h'], by simp [pd, PyData.depth]⟩
  | n, .int _, _ => ⟨by simp [pd, PyData.canLay0], by simp [pd, PyData.depth]⟩
  | n, .non, _ => ⟨by simp [pd, PyData.canLay0], by simp [pd, PyData.depth]⟩
  | n + 1, .tup ds, h => by
    have key : ∀ p ∈ pds ds, p.canLay0 = true ∧ p.depth ≤ n := fun p hp => by
      obtain ⟨d, hd, rfl⟩ := pds_mem hp
      exact gd_lay (h d hd)
    refine ⟨?_, ?_⟩
    · simp only [pd, PyData.canLay0]; exact lay_all fun p h => (key p h).1
    · simp only [pd, PyData.depth]; exact Nat.succ_le_succ (depth_all fun p h => (key p h).2)
  | n + 1, .frl ds, h => by
    have key : ∀ p ∈ pds ds, p.canLay0 = true ∧ p.depth ≤ n := fun p hp => by
      obtain ⟨d, hd, rfl⟩ := pds_mem hp
      exact gd_lay (h d hd)
    refine ⟨?_, ?_⟩
    · simp only [pd, PyData.canLay0]; exact lay_all fun p h => (key p h).1
    · simp only [pd, PyData.depth]; exact Nat.succ_le_succ (depth_all fun p h => (key p h).2)
  | 0, .tup _, h => h.elim
  | 0, .frl _, h => h.elim
  | 0, .bl _, h => h.elim
  | 0, .ref _, h => h.elim
  | 0, .exn _ _ _ _, h => h.elim
  | _ + 1, .bl _, h => h.elim
  | _ + 1, .ref _, h => h.elim
  | _ + 1, .exn _ _ _ _, h => h.elim
theorem gd_shaped {n : Nat} {d : D} (h : GD n d) (hn : n ≤ 64) : SeqAt.shaped (pd d) = true := by
  unfold SeqAt.shaped
  obtain ⟨a, b⟩ := gd_lay h
  rw [a, decide_eq_true (Nat.le_trans b hn)]; rfl
mutual
theorem eqv_pd : ∀ (x y : D) {n m : Nat}, GD n x → GD m y → PyData.eqv (pd x) (pd y) = decide (x = y)
  | .non, .non, _, _, _, _ => by simp [pd, PyData.eqv]
  | .int a, .int b, _, _, _, _ => by by_cases h : a = b <;> simp [pd, PyData.eqv, h]
  | .str a, .str b, _, _, _, _ => by by_cases h : a = b <;> simp [pd, PyData.eqv, h]
  | .tup a, .tup b, 0, _, h, _ => h.elim
  | .tup a, .tup b, _ + 1, 0, _, h => h.elim
  | .tup a, .tup b, n + 1, m + 1, h, h2 => by
    simp only [pd, PyData.eqv]
    rw [eqv_pds a b h h2]
    by_cases e : a = b <;> simp [e]
  | .frl a, .frl b, 0, _, h, _ => h.elim
  | .frl a, .frl b, _ + 1, 0, _, h => h.elim
  | .frl a, .frl b, n + 1, m + 1, h, h2 => by
    simp only [pd, PyData.eqv]
    rw [eqv_pds a b h h2]
    by_cases e : a = b <;> simp [e]
  | .non, .int _, _, _, _, _ => by simp [pd, PyData.eqv]
  | .non, .str _, _, _, _, _ => by simp [pd, PyData.eqv]
  | .non, .tup _, _, _, _, _ => by simp [pd, PyData.eqv]
  | .non, .frl _, _, _, _, _ => by simp [pd, PyData.eqv]
  | .int _, .non, _, _, _, _ => by simp [pd, PyData.eqv]
  | .int _, .str _, _, _, _, _ => by simp [pd, PyData.eqv]
  | .int _, .tup _, _, _, _, _ => by simp [pd, PyData.eqv]
  | .int _, .frl _, _, _, _, _ => by simp [pd, PyData.eqv]
  | .str _, .non, _, _, _, _ => by simp [pd, PyData.eqv]
  | .str _, .int _, _, _, _, _ => by simp [pd, PyData.eqv]
  | .str _, .tup _, _, _, _, _ => by simp [pd, PyData.eqv]
  | .str _, .frl _, _, _, _, _ => by simp [pd, PyData.eqv]
  | .tup _, .non, _, _, _, _ => by simp [pd, PyData.eqv]
  | .tup _, .int _, _, _, _, _ => by simp [pd, PyData.eqv]
  | .tup _, .str _, _, _, _, _ => by simp [pd, PyData.eqv]
  | .tup _, .frl _, _, _, _, _ => by simp [pd, PyData.eqv]
  | .frl _, .non, _, _, _, _ => by simp [pd, PyData.eqv]
  | .frl _, .int _, _, _, _, _ => by simp [pd, PyData.eqv]
  | .frl _, .str _, _, _, _, _ => by simp [pd, PyData.eqv]
  | .frl _, .tup _, _, _, _, _ => by simp [pd, PyData.eqv]
  | .bl _, _, n, _, h, _ => by cases n <;> exact h.elim
  | .ref _, _, n, _, h, _ => by cases n <;> exact h.elim
  | .exn _ _ _ _, _, n, _, h, _ => by cases n <;> exact h.elim
  | _, .bl _, _, n, _, h => by cases n <;> exact h.elim
  | _, .ref _, _, n, _, h => by cases n <;> exact h.elim
  | _, .exn _ _ _ _, _, n, _, h => by cases n <;> exact h.elim
theorem eqv_pds : ∀ (xs ys : List D) {n m : Nat}, (∀ d ∈ xs, GD n d) → (∀ d ∈ ys, GD m d) → PyData.eqvAll (pds xs) (pds ys) = decide (xs = ys)
  | [], [], _, _, _, _ => by simp [pds, PyData.eqvAll]
  | [], _ :: _, _, _, _, _ => by simp [pds, PyData.eqvAll]
  | _ :: _, [], _, _, _, _ => by simp [pds, PyData.eqvAll]
  | x :: xs, y :: ys, n, m, hx, hy => by
    simp only [pds, PyData.eqvAll]
    rw [eqv_pd x y (hx x (by simp)) (hy y (by simp)), eqv_pds xs ys (fun d hd => hx d (by simp [hd])) (fun d hd => hy d (by simp [hd]))]
    by_cases e : x = y <;> by_cases e2 : xs = ys <;> simp [e, e2]
end
theorem same_gd {x y : D} {S : Sto} {n m : Nat} (hx : GD n x) (hy : GD m y) (hn : n ≤ 60 := by decide) (hm : m ≤ 60 := by decide) : sameD x y S = some (decide (x = y)) := by
  have e1 := gd_toP (S := S) hx hn
  have e2 := gd_toP (S := S) hy hm
  have s1 := gd_shaped hx (by omega)
  have s2 := gd_shaped hy (by omega)
  have key : (match toP S 60 x, toP S 60 y with
    | some a, some b => if SeqAt.shaped a && SeqAt.shaped b then some (PyData.eqv a b) else none
    | _, _ => none) = some (decide (x = y)) := by
    rw [e1, e2]
    simp only [s1, s2, Bool.and_self, if_true]
    rw [eqv_pd x y hx hy]
  unfold sameD
  split
  · simp
  · simp
  · simp
  · exact key
theorem w_eqG {x y : D} {S : Sto} {Q : D → Sto → Prop} {X : Exc → Sto → Prop} {n m : Nat} (hx : GD n x) (hy : GD m y) (hn : n ≤ 60 := by decide) (hm : m ≤ 60 := by decide) : Wp (eqD x y S) Q X = Q (.bl (decide (x = y))) S := by
  simp only [eqD, same_gd hx hy hn hm]; rfl
theorem w_neG {x y : D} {S : Sto} {Q : D → Sto → Prop} {X : Exc → Sto → Prop} {n m : Nat} (hx : GD n x) (hy : GD m y) (hn : n ≤ 60 := by decide) (hm : m ≤ 60 := by decide) : Wp (neD x y S) Q X = Q (.bl (!decide (x = y))) S := by
  simp only [neD, same_gd hx hy hn hm]; rfl
mutual
theorem gd_blw {k : Nat} : ∀ {n : Nat} (d : D), GD n d → d.blw k = true
  | _, .str _, _ => rfl
  | _, .int _, _ => rfl
  | _, .non, _ => rfl
  | n + 1, .tup ds, h => gd_blws ds h
  | n + 1, .frl ds, h => gd_blws ds h
  | 0, .tup _, h => h.elim
  | 0, .frl _, h => h.elim
  | 0, .bl _, h => h.elim
  | 0, .ref _, h => h.elim
  | 0, .exn _ _ _ _, h => h.elim
  | _ + 1, .bl _, h => h.elim
  | _ + 1, .ref _, h => h.elim
  | _ + 1, .exn _ _ _ _, h => h.elim
theorem gd_blws {k : Nat} : ∀ {n : Nat} (ds : List D), (∀ d ∈ ds, GD n d) → D.blws k ds = true
  | _, [], _ => rfl
  | n, d :: ds, h => by
    show (D.blw k d && D.blws k ds) = true
    rw [gd_blw d (h d (by simp)), gd_blws ds fun x hx => h x (by simp [hx])]; rfl
end
theorem blws_all {k : Nat} : ∀ {ds : List D}, (∀ d ∈ ds, d.blw k = true) → D.blws k ds = true
  | [], _ => rfl
  | d :: ds, h => by
    show (D.blw k d && D.blws k ds) = true
    rw [h d (by simp), blws_all fun x hx => h x (by simp [hx])]; rfl
theorem any_eqv {x : D} {n : Nat} (hx : GD n x) : ∀ (ds : List D) {m : Nat}, (∀ d ∈ ds, GD m d) → ((pds ds).any fun z => PyData.eqv z (pd x)) = decide (x ∈ ds)
  | [], _, _ => by simp [pds]
  | d :: ds, m, h => by
    show (PyData.eqv (pd d) (pd x) || (pds ds).any fun z => PyData.eqv z (pd x)) = _
    rw [eqv_pd d x (h d (by simp)) hx, any_eqv hx ds fun y hy => h y (by simp [hy])]
    by_cases e : d = x
    · simp [e]
    · have e' : ¬ x = d := fun z => e z.symm
      simp [e, e']
theorem has_frl {x : D} {ds : List D} {S : Sto} {n m : Nat} (hx : GD n x) (hd : ∀ d ∈ ds, GD m d) (hn : n ≤ 60 := by decide) (hm : m ≤ 59 := by decide) : hasD x (.frl ds) S = some (decide (x ∈ ds)) := by
  have e1 := gd_toP (S := S) hx hn
  have e2 : mapO (toP S 60) ds = some (pds ds) := mapO_pd ds fun d h => gd_toP (hd d h) (by omega)
  have s1 := gd_shaped hx (by omega)
  have s2 : SeqAt.shaped (.list (pds ds)) = true := gd_shaped (d := .frl ds) (n := m + 1) hd (by omega)
  unfold hasD
  split
  · cases ‹D.frl ds = _›
  · cases ‹D.frl ds = _›
  · simp only [lsD, e1, e2, s1, s2, Bool.and_self, if_true]
    rw [any_eqv hx ds hd]
theorem has_sign {c : Nat} {l : List Nat} {S : Sto} : hasD (.str (W [c])) (.str (W l)) S = some (decide (c ∈ l)) := by
  simp only [hasD, W_cps]
theorem flat_strs {x : List Nat} : ∀ ys : List (List Nat), ((ys.map fun y => D.str (W y)).all flatD = true) ∧ ((ys.map fun y => D.str (W y)).any fun d => eqF d (.str (W x))) = decide (x ∈ ys)
  | [] => by simp
  | y :: ys => by
    obtain ⟨h1, h2⟩ := flat_strs (x := x) ys
    refine ⟨by rw [List.map_cons, List.all_cons, h1]; rfl, ?_⟩
    rw [List.map_cons, List.any_cons, h2]
    show ((W y == W x) || _) = _
    by_cases e : y = x
    · simp [e]
    · have e1 : (W y == W x) = false := by rw [beq_eq_false_iff_ne]; exact fun z => e (W_inj.mp z)
      have e' : ¬ x = y := fun z => e z.symm
      simp [e1, e']
theorem has_strs {x : List Nat} {ys : List (List Nat)} {S : Sto} : hasD (.str (W x)) (.tup (ys.map fun y => .str (W y))) S = some (decide (x ∈ ys)) := by
  obtain ⟨h1, h2⟩ := flat_strs (x := x) ys
  simp only [hasD]
  rw [h1, h2]
  rfl
theorem has_two {x a b : List Nat} {S : Sto} : hasD (.str (W x)) (.tup [.str (W a), .str (W b)]) S = some (decide (x = a ∨ x = b)) := by
  have := has_strs (x := x) (ys := [a, b]) (S := S)
  simpa using this
theorem cutOk_app (S T : Sto) : cutOk S (S ++ T) = true := by
  unfold cutOk
  rw [Bool.and_eq_true]
  refine ⟨decide_eq_true (by simp), List.all_eq_true.mpr fun i hi => ?_⟩
  have hi' := List.mem_range.mp hi
  unfold sameO
  rw [List.getElem?_append_left hi', decide_eq_true rfl, Bool.true_or]
theorem cutOk_set (S T : Sto) (l : Nat) (o : DO) (ho : o.blw S.length = true) : cutOk S (S.set l o ++ T) = true := by
  unfold cutOk
  rw [Bool.and_eq_true]
  refine ⟨decide_eq_true (by simp), List.all_eq_true.mpr fun i hi => ?_⟩
  have hi' := List.mem_range.mp hi
  unfold sameO
  rw [List.getElem?_append_left (by simpa using hi')]
  by_cases e : l = i
  · subst e
    rw [List.getElem?_set_self hi']
    simp [ho]
  · rw [List.getElem?_set_ne e, decide_eq_true rfl, Bool.true_or]
theorem cut_app {d : D} {S T : Sto} (h : d.blw S.length = true) : cutR S (.ok d (S ++ T)) = .ok d S := by
  simp only [cutR]
  rw [if_pos (cutOk_app S T), if_pos h, List.take_left]
theorem cut_set {d : D} {S T : Sto} {l : Nat} {o : DO} (h : d.blw S.length = true) (ho : o.blw S.length = true) : cutR S (.ok d (S.set l o ++ T)) = .ok d (S.set l o) := by
  simp only [cutR]
  rw [if_pos (cutOk_set S T l o ho), if_pos h]
  congr 1
  rw [List.take_append_of_le_length (by simp)]
  exact List.take_of_length_le (by simp)
theorem cut_exc {x : Exc} {S T : Sto} (h : x.blw S.length = true) : cutR S (.exc x (S ++ T)) = .exc x S := by
  simp only [cutR]
  rw [if_pos ⟨cutOk_app S T, h⟩, List.take_left]
def NX : Exc → Sto → Prop := fun _ _ => False
theorem fn_ok {n : Nat} {b : Sl → Sto → Res Fl} {ds : List D} {S : Sto} {v : D} (hv : v.blw S.length = true) (h : Wp (b (startD n ds) S) (kFn fun d S' => d = v ∧ ∃ T, S' = S ++ T) NX) : cutF (dFn n b) ds S = .ok v S := by
  have h' : Wp (dFn n b ds S) (fun d S' => d = v ∧ ∃ T, S' = S ++ T) NX := by rw [w_dFn]; exact h
  obtain ⟨d, S', e, rfl, T, rfl⟩ := Wp.ok h'
  unfold cutF
  rw [e, cut_app hv]
theorem fn_exc {n : Nat} {b : Sl → Sto → Res Fl} {ds : List D} {S : Sto} {x : Exc} (hx : x.blw S.length = true) (h : Wp (b (startD n ds) S) (fun _ _ => False) (fun y S' => y = x ∧ ∃ T, S' = S ++ T)) : cutF (dFn n b) ds S = .exc x S := by
  unfold cutF dFn
  cases hr : b (startD n ds) S with
  | ok fl S1 => rw [hr] at h; exact h.elim
  | stuck => rw [hr] at h; exact h.elim
  | exc y S1 =>
    rw [hr] at h
    obtain ⟨rfl, T, rfl⟩ := h
    exact cut_exc hx
theorem app_nil (S : Sto) : ∃ T, S = S ++ T := ⟨[], by simp⟩
theorem frz_last {S : Sto} {xs : List D} (h : D.blws S.length xs = true) : frzD S (.ref S.length) (S ++ [.lst xs]) = .ok (.frl xs) S := by
  unfold frzD
  simp only [get_last]
  rw [if_pos ⟨Nat.le_refl _, cutOk_app S _, h⟩, List.take_left]
theorem ok_of_wp {α : Type} {r : Res α} {Q : α → Sto → Prop} (h : Wp r Q NX) : ∃ a S, r = .ok a S ∧ Q a S := Wp.ok h
theorem compF {α : Type} (xs : List α) (en : α → D) (P : α → Bool) (f : α → D) {vs : List Nat} {fi : Sl → Sto → Res ItD} {ga : D → Sl → Sto → Res Sl} {ft : Sl → Sto → Res Bool} {fe : Sl → Sto → Res D} {sd : Sl} {S : Sto}
    (hi : Wp (fi sd S) (fun it S1 => S1 = S ∧ it.items = xs.map en ∧ ∀ S', Grow S S' → it.chk S' = true) NX) (hl : (xs.filter P).length ≤ sizeLine)
    (hx : ∀ a ∈ xs, ∀ S', Grow S S' → Wp (ga (en a) (wipeD sd vs) S') (fun sd1 S1 => S1 = S' ∧ Wp (ft sd1 S') (fun b S2 => S2 = S' ∧ b = P a ∧ (P a = true → Wp (fe sd1 S') (fun y S3 => S3 = S' ∧ y = f a) NX)) NX) NX)
    (hb : ∀ a ∈ xs, P a = true → (f a).blw S.length = true) : dFrz (dComp vs fi ga ft fe) sd S = .ok (.frl ((xs.filter P).map f)) S := by
  obtain ⟨it, S1, e1, rfl, e2, e3⟩ := ok_of_wp hi
  have key : ∀ (ys : List α) (acc : List D), (∀ a ∈ ys, a ∈ xs) → acc.length + (ys.filter P).length ≤ sizeLine → compD it.chk ga ft fe S1.length (wipeD sd vs) (ys.map en) (S1 ++ [.lst acc]) = .ok () (S1 ++ [.lst (acc ++ (ys.filter P).map f)]) := by
    intro ys
    induction ys with
    | nil =>
      intro acc _ _
      show (if it.chk (S1 ++ [.lst acc]) = true then Res.ok () (S1 ++ [.lst acc]) else .stuck) = _
      rw [if_pos (e3 _ (Grow.one _ _))]
      simp
    | cons a ys ih =>
      intro acc hm hlen
      obtain ⟨sd1, S2, g1, rfl, h2⟩ := ok_of_wp (hx a (hm a (by simp)) (S1 ++ [.lst acc]) (Grow.one _ _))
      obtain ⟨b, S3, g2, rfl, rfl, h3⟩ := ok_of_wp h2
      rw [List.map_cons]
      unfold compD
      rw [if_pos (e3 _ (Grow.one _ _)), g1]
      simp only [Res.noExc, Res.bind, g2]
      cases hp : P a with
      | false =>
        rw [List.filter_cons_of_neg (by simp [hp])] at hlen ⊢
        rw [if_neg (by simp), ih acc (fun z hz => hm z (by simp [hz])) hlen]
      | true =>
        rw [List.filter_cons_of_pos hp] at hlen ⊢
        have hlen' : acc.length + 1 + (ys.filter P).length ≤ sizeLine := by simp at hlen; omega
        obtain ⟨y, S4, g3, rfl, rfl⟩ := ok_of_wp (h3 hp)
        rw [if_pos rfl, g3]
        simp only [Res.noExc, Res.bind]
        rw [List.getElem?_append_right (Nat.le_refl _)]
        simp only [Nat.sub_self, List.getElem?_cons_zero]
        rw [if_pos (by omega), set_last, ih (acc ++ [f a]) (fun z hz => hm z (by simp [hz])) (by simp; omega)]
        simp
  unfold dFrz dComp
  rw [e1]
  show ((compD it.chk ga ft fe S1.length (wipeD sd vs) it.items (S1 ++ [.lst []])).bind fun _ S2 => Res.ok (D.ref S1.length) S2).bind _ = _
  rw [e2, key xs [] (fun _ h => h) (by simpa using hl)]
  show frzD S1 (.ref S1.length) (S1 ++ [.lst ([] ++ (xs.filter P).map f)]) = _
  rw [List.nil_append, frz_last]
  refine blws_all fun d hd => ?_
  obtain ⟨a, ha, rfl⟩ := List.mem_map.mp hd
  exact hb a (List.mem_filter.mp ha).1 (List.mem_filter.mp ha).2
theorem filt_true {α : Type} : ∀ l : List α, l.filter (fun _ => true) = l
  | [] => rfl
  | a :: l => by rw [List.filter_cons_of_pos rfl, filt_true l]
theorem compM {α : Type} (xs : List α) (en : α → D) (f : α → D) {vs : List Nat} {fi : Sl → Sto → Res ItD} {ga : D → Sl → Sto → Res Sl} {fe : Sl → Sto → Res D} {sd : Sl} {S : Sto}
    (hi : Wp (fi sd S) (fun it S1 => S1 = S ∧ it.items = xs.map en ∧ ∀ S', Grow S S' → it.chk S' = true) NX) (hl : xs.length ≤ sizeLine)
    (hx : ∀ a ∈ xs, ∀ S', Grow S S' → Wp (ga (en a) (wipeD sd vs) S') (fun sd1 S1 => S1 = S' ∧ Wp (fe sd1 S') (fun y S3 => S3 = S' ∧ y = f a) NX) NX)
    (hb : ∀ a ∈ xs, (f a).blw S.length = true) : dFrz (dComp vs fi ga tYesD fe) sd S = .ok (.frl (xs.map f)) S := by
  have := compF (vs := vs) (ga := ga) (fe := fe) (ft := tYesD) xs en (fun _ => true) f hi (by rw [filt_true]; exact hl) (fun a ha S' g => ?_) (fun a ha _ => hb a ha)
  · rw [this, filt_true]
  · refine Wp.mono (hx a ha S' g) (fun sd1 S1 h => ⟨h.1, ?_⟩) fun _ _ z => z
    exact ⟨rfl, rfl, fun _ => h.2⟩
theorem w_loopP {α : Type} (en : α → D) (I : List α → Sl → Sto → Prop) (xs : List α) {chk : Sto → Bool} {ga : D → Sl → Sto → Res Sl} {fb : Sl → Sto → Res Fl} {Q : Fl → Sto → Prop} {X : Exc → Sto → Prop} {sd : Sl} {S : Sto}
    (hc : ∀ pre post sd S, xs = pre ++ post → I pre sd S → chk S = true) (hs : I [] sd S) (h0 : ∀ sd S, I xs sd S → Q (.nx sd) S)
    (h1 : ∀ pre a post sd S, xs = pre ++ a :: post → I pre sd S → Wp (ga (en a) sd S) (fun sd1 S1 => Wp (fb sd1 S1) (fun fl S2 => match fl with
      | .nx sd2 => I (pre ++ [a]) sd2 S2
      | .cnt sd2 => I (pre ++ [a]) sd2 S2
      | .brk sd2 => Q (.nx sd2) S2
      | .ret d => Q (.ret d) S2) X) X) : Wp (loopD chk ga fb (xs.map en) sd S) Q X := by
  refine w_loop (fun ds sd S => ∃ pre post, xs = pre ++ post ∧ ds = post.map en ∧ I pre sd S) ?_ ?_ ?_ _ _ _ ⟨[], xs, rfl, rfl, hs⟩
  · rintro ds sd S ⟨pre, post, e, _, h⟩
    exact hc pre post sd S e h
  · rintro sd S ⟨pre, post, e, e2, h⟩
    have : post = [] := by simpa using e2.symm
    subst this
    rw [List.append_nil] at e
    subst e
    exact h0 sd S h
  · rintro x ds sd S ⟨pre, post, e, e2, h⟩
    cases post with
    | nil => cases e2
    | cons a post =>
      rw [List.map_cons] at e2
      cases e2
      refine Wp.mono (h1 pre a post sd S e h) (fun sd1 S1 h2 => Wp.mono h2 (fun fl S2 h3 => ?_) fun _ _ z => z) fun _ _ z => z
      have ea : xs = (pre ++ [a]) ++ post := by rw [e]; simp
      cases fl with
      | nx sd2 => exact ⟨_, _, ea, rfl, h3⟩
      | cnt sd2 => exact ⟨_, _, ea, rfl, h3⟩
      | brk sd2 => exact h3
      | ret d => exact h3
inductive All2 {α β : Type} (P : α → β → Prop) : List α → List β → Prop where
  | nil : All2 P [] []
  | cons {a b as bs} : P a b → All2 P as bs → All2 P (a :: as) (b :: bs)
theorem All2.len {α β : Type} {P : α → β → Prop} {as : List α} {bs : List β} (h : All2 P as bs) : bs.length = as.length := by
  induction h with
  | nil => rfl
  | cons _ _ ih => simp [ih]
theorem All2.mem {α β : Type} {P : α → β → Prop} {as : List α} {bs : List β} (h : All2 P as bs) : ∀ b ∈ bs, ∃ a ∈ as, P a b := by
  induction h with
  | nil => intro b hb; cases hb
  | cons h _ ih =>
    intro b hb
    rcases List.mem_cons.mp hb with rfl | hb
    · exact ⟨_, by simp, h⟩
    · obtain ⟨a, ha, hp⟩ := ih b hb
      exact ⟨a, by simp [ha], hp⟩
theorem All2.ex {α β γ : Type} {P : α → β → Prop} {f : γ → β} {as : List α} {bs : List β} (h : All2 P as bs) (hp : ∀ a ∈ as, ∀ b, P a b → ∃ c, b = f c) : ∃ cs : List γ, bs = cs.map f := by
  induction h with
  | nil => exact ⟨[], rfl⟩
  | cons h1 _ ih =>
    obtain ⟨cs, rfl⟩ := ih fun a ha => hp a (by simp [ha])
    obtain ⟨c, rfl⟩ := hp _ (by simp) _ h1
    exact ⟨c :: cs, rfl⟩
theorem none_dec {α β : Type} [DecidableEq β] {p : α → Bool} {f : α → β} : ∀ l : List α, decide ((l.filter p).map f = []) = l.all fun a => !p a
  | [] => by simp
  | a :: l => by
    cases hp : p a with
    | true => rw [List.filter_cons_of_pos hp, List.all_cons, hp]; simp
    | false => rw [List.filter_cons_of_neg (by simp [hp]), none_dec l, List.all_cons, hp]; simp
theorem gd_nil : GD 1 (.frl []) := fun d hd => by cases hd
theorem gd_map {α : Type} {n : Nat} {f : α → D} {l : List α} (h : ∀ a ∈ l, GD n (f a)) : ∀ d ∈ l.map f, GD n d := fun d hd => by
  obtain ⟨a, ha, rfl⟩ := List.mem_map.mp hd
  exact h a ha
theorem w_eqNil {α : Type} {p : α → Bool} {f : α → D} {l : List α} {n : Nat} {S : Sto} {Q : D → Sto → Prop} {X : Exc → Sto → Prop} (h : ∀ a ∈ l, GD n (f a)) (hn : n ≤ 59 := by decide) : Wp (eqD (.frl ((l.filter p).map f)) (.frl []) S) Q X = Q (.bl (l.all fun a => !p a)) S := by
  rw [w_eqG (n := n + 1) (m := 1) (gd_frl (gd_map fun a ha => h a (List.mem_filter.mp ha).1)) gd_nil (by omega)]
  rw [show decide (D.frl ((l.filter p).map f) = D.frl []) = l.all (fun a => !p a) from by
    rw [← none_dec (p := p) (f := f) l]; simp]
theorem w_enumP {α : Type} (en : α → D) (I : List α → Sl → Sto → Prop) (xs : List α) {chk : Sto → Bool} {ga : D → Sl → Sto → Res Sl} {fb : Sl → Sto → Res Fl} {Q : Fl → Sto → Prop} {X : Exc → Sto → Prop} {sd : Sl} {S : Sto}
    (hc : ∀ pre post sd S, xs = pre ++ post → I pre sd S → chk S = true) (hs : I [] sd S) (h0 : ∀ sd S, I xs sd S → Q (.nx sd) S)
    (h1 : ∀ pre a post sd S, xs = pre ++ a :: post → I pre sd S → Wp (ga (.tup [.int (pre.length : Nat), en a]) sd S) (fun sd1 S1 => Wp (fb sd1 S1) (fun fl S2 => match fl with
      | .nx sd2 => I (pre ++ [a]) sd2 S2
      | .cnt sd2 => I (pre ++ [a]) sd2 S2
      | .brk sd2 => Q (.nx sd2) S2
      | .ret d => Q (.ret d) S2) X) X) : Wp (loopD chk ga fb (enumL 0 (xs.map en)) sd S) Q X := by
  refine w_loop (fun ds sd S => ∃ pre post, xs = pre ++ post ∧ ds = enumL pre.length (post.map en) ∧ I pre sd S) ?_ ?_ ?_ _ _ _ ⟨[], xs, rfl, rfl, hs⟩
  · rintro ds sd S ⟨pre, post, e, _, h⟩
    exact hc pre post sd S e h
  · rintro sd S ⟨pre, post, e, e2, h⟩
    have : post = [] := by
      cases post with
      | nil => rfl
      | cons a post => simp [enumL] at e2
    subst this
    rw [List.append_nil] at e
    subst e
    exact h0 sd S h
  · rintro x ds sd S ⟨pre, post, e, e2, h⟩
    cases post with
    | nil => cases e2
    | cons a post =>
      rw [List.map_cons] at e2
      cases e2
      refine Wp.mono (h1 pre a post sd S e h) (fun sd1 S1 h2 => Wp.mono h2 (fun fl S2 h3 => ?_) fun _ _ z => z) fun _ _ z => z
      have ea : xs = (pre ++ [a]) ++ post := by rw [e]; simp
      have el : enumL (pre.length + 1) (post.map en) = enumL (pre ++ [a]).length (post.map en) := by simp
      cases fl with
      | nx sd2 => exact ⟨_, _, ea, el, h3⟩
      | cnt sd2 => exact ⟨_, _, ea, el, h3⟩
      | brk sd2 => exact h3
      | ret d => exact h3
theorem w_rangeP (I : Nat → Sl → Sto → Prop) (lo : Int) (n : Nat) {chk : Sto → Bool} {ga : D → Sl → Sto → Res Sl} {fb : Sl → Sto → Res Fl} {Q : Fl → Sto → Prop} {X : Exc → Sto → Prop} {sd : Sl} {S : Sto}
    (hc : ∀ i sd S, i ≤ n → I i sd S → chk S = true) (hs : I 0 sd S) (h0 : ∀ sd S, I n sd S → Q (.nx sd) S)
    (h1 : ∀ i sd S, i < n → I i sd S → Wp (ga (.int (lo + (i : Nat))) sd S) (fun sd1 S1 => Wp (fb sd1 S1) (fun fl S2 => match fl with
      | .nx sd2 => I (i + 1) sd2 S2
      | .cnt sd2 => I (i + 1) sd2 S2
      | .brk sd2 => Q (.nx sd2) S2
      | .ret d => Q (.ret d) S2) X) X) : Wp (loopD chk ga fb (rangeL lo n) sd S) Q X := by
  unfold rangeL
  refine w_loopP (fun i : Nat => D.int (lo + (i : Nat))) (fun pre sd S => I pre.length sd S) (List.range n) ?_ hs ?_ ?_
  · intro pre post sd S e h
    exact hc pre.length sd S (by have := congrArg List.length e; simp at this; omega) h
  · intro sd S h
    rw [List.length_range] at h
    exact h0 sd S h
  · intro pre a post sd S e h
    have ha : a = pre.length := by
      have h1 : (List.range n)[pre.length]? = some a := by rw [e]; simp
      rw [List.getElem?_range (by have := congrArg List.length e; simp at this; omega)] at h1
      exact (Option.some.inj h1).symm
    have hn : pre.length < n := by have := congrArg List.length e; simp at this; omega
    subst ha
    have el : (pre ++ [pre.length]).length = pre.length + 1 := by simp
    refine Wp.mono (h1 pre.length sd S hn h) (fun sd1 S1 h2 => Wp.mono h2 (fun fl S2 h3 => ?_) fun _ _ z => z) fun _ _ z => z
    cases fl with
    | nx sd2 => show I _ sd2 S2; rw [el]; exact h3
    | cnt sd2 => show I _ sd2 S2; rw [el]; exact h3
    | brk sd2 => exact h3
    | ret d => exact h3
def SD : Nat → D → Prop
  | _, .str w => PyData.strOk w = true
  | _, .int _ => True
  | _, .non => True
  | n + 1, .tup ds => ds.length ≤ 1000000000 ∧ ∀ d ∈ ds, SD n d
  | n + 1, .frl ds => ds.length ≤ 1000000000 ∧ ∀ d ∈ ds, SD n d
  | _, _ => False
theorem sd_int {n : Nat} {i : Int} : SD n (.int i) := by cases n <;> trivial
theorem sd_non {n : Nat} : SD n .non := by cases n <;> trivial
theorem sd_str {n : Nat} {w : Str} (h : PyData.strOk w = true) : SD n (.str w) := by cases n <;> exact h
theorem SD.up : ∀ {n : Nat} {d : D}, SD n d → SD (n + 1) d
  | _, .str w, h => by cases ‹Nat› <;> exact h
  | _, .int _, _ => sd_int
  | _, .non, _ => sd_non
  | n + 1, .tup ds, h => ⟨h.1, fun d hd => SD.up (h.2 d hd)⟩
  | n + 1, .frl ds, h => ⟨h.1, fun d hd => SD.up (h.2 d hd)⟩
  | 0, .tup _, h => h.elim
  | 0, .frl _, h => h.elim
  | 0, .bl _, h => h.elim
  | 0, .ref _, h => h.elim
  | 0, .exn _ _ _ _, h => h.elim
  | _ + 1, .bl _, h => h.elim
  | _ + 1, .ref _, h => h.elim
  | _ + 1, .exn _ _ _ _, h => h.elim
theorem SD.le {n m : Nat} {d : D} (t : SD n d) (h : n ≤ m) : SD m d := by
  induction h with
  | refl => exact t
  | step _ ih => exact ih.up
theorem rng_ok {n : Nat} (h : n ≤ 1000000000) : bnd 62 ((n : Nat) : Int) = true := bnd_of ⟨by omega, by omega⟩
theorem rng_okI {n : Int} (h0 : -1000000000 ≤ n) (h : n ≤ 1000000000) : bnd 62 n = true := bnd_of ⟨by omega, by omega⟩
theorem mul_okI {n : Int} (h0 : -1000000000 ≤ n) (h : n ≤ 1000000000) : bnd 63 n = true := bnd_of ⟨by omega, by omega⟩
theorem mul_r {a b : Int} (h : bnd 63 b = true) : (bnd 63 a || bnd 63 b) = true := by rw [h, Bool.or_true]
theorem fd_ok {b : Int} (h0 : 0 < b) (h : b < 10 ^ 40) : fdOk b = true := by
  refine fdOk_of ⟨h0, ?_⟩
  have h1 : b.natAbs < 2 ^ 200 := by
    have : (10 : Int) ^ 40 < 2 ^ 200 := by decide +kernel
    omega
  have := (Nat.log2_lt (show b.natAbs ≠ 0 by omega)).mpr h1
  omega
theorem rng_map {n : Nat} : rangeL 0 ((n : Nat) : Int).toNat = (List.range n).map fun i => D.int (0 + (i : Nat)) := by simp [rangeL]
end DL

namespace DL
open PySem PySem.Spec PyProof.Rows L2
section
variable {α : Type} {fk fv fo fe ff : Sl → Sto → Res D} {g fp : Sl → Sto → Res (List (D × D))} {kvs : List (Str × D)} {sd : Sl} {S : Sto} {X : Exc → Sto → Prop}
theorem w_pNil {Q : List (D × D) → Sto → Prop} : Wp (pNil sd S) Q X = Q [] S := rfl
theorem w_pCons {Q : List (D × D) → Sto → Prop} : Wp (pCons fk fv g sd S) Q X = Wp ((fk sd S).bind fun k S1 => (fv sd S1).bind fun v S2 => (g sd S2).bind fun ds S3 => .ok ((k, v) :: ds) S3) Q X := rfl
variable {Q : D → Sto → Prop}
theorem w_dDispGet : Wp (dDispGet fp fe ff sd S) Q X = Wp ((fp sd S).bind fun ps S1 => match keysOk ps with
  | false => .stuck
  | true => (fe sd S1).bind fun y S2 => match (key0 y).isSome with
    | false => .stuck
    | true => (ff sd S2).bind fun z S3 => .ok ((dgl y ps none).getD z) S3) Q X := rfl
theorem w_dDisp : Wp (dDisp fp sd S) Q X = Wp ((fp sd S).bind fun ps S1 => match keysOk ps && decide (ps.length ≤ 15) with
  | false => .stuck
  | true => .ok (.ref S1.length) (S1 ++ [.dic 0 (mergeD [] ps)])) Q X := rfl
theorem w_dDisp0 : Wp (dDisp0 sd S) Q X = Q (.ref S.length) (S ++ [.dic 0 []]) := rfl
theorem w_dKget : Wp (dKget kvs fe ff sd S) Q X = Wp ((fe sd S).bind fun y S1 => match kdGet kvs y with
  | some r => (ff sd S1).bind fun x S2 => .ok (r.getD x) S2
  | none => .stuck) Q X := rfl
theorem w_dDget : Wp (dDget fo fe ff sd S) Q X = Wp ((fo sd S).bind fun x S1 => match dicD x (.int 0) S1 with
  | none => .stuck
  | some _ => (fe sd S1).bind fun y S2 => (ff sd S2).bind fun z S3 => match dicD x y S3 with
    | some r => .ok (r.getD z) S3
    | none => .stuck) Q X := rfl
theorem keysOk_nil : keysOk [] = true := rfl
theorem keysOk_s {x : Str} {d : D} {ps : List (D × D)} : keysOk ((.str x, d) :: ps) = keysOk ps := by simp [keysOk, key0]
theorem keysOk_i {x : Int} {d : D} {ps : List (D × D)} : keysOk ((.int x, d) :: ps) = keysOk ps := by simp [keysOk, key0]
theorem key0_s {x : Str} : (key0 (.str x)).isSome = true := rfl
theorem key0_i {x : Int} : (key0 (.int x)).isSome = true := rfl
theorem kdGet_s {x : Str} : kdGet kvs (.str x) = some (kvs.lookup x) := rfl
theorem kdGet_i {x : Int} : kdGet kvs (.int x) = some none := rfl
theorem dgl_nil {y : D} {o : Option D} : dgl y [] o = o := rfl
theorem dgl_cons {y k v : D} {r : List (D × D)} {o : Option D} : dgl y ((k, v) :: r) o = dgl y r (if k = y then some v else o) := rfl
end
theorem cut_take {ds : List D} {k : Nat} : cutL ds none (some ((k : Nat) : Int)) = ds.take k := by
  unfold cutL
  have e : HT.sIx ds.length 0 none = 0 := rfl
  have e2 : HT.sIx ds.length ds.length (some ((k : Nat) : Int)) = min k ds.length := by
    show (if ((k : Nat) : Int) < 0 then (((k : Nat) : Int) + (ds.length : Int)).toNat else min ((k : Nat) : Int).toNat ds.length) = _
    rw [if_neg (by omega)]
    simp
  rw [e, e2, List.drop_zero, Nat.sub_zero]
  by_cases h : k ≤ ds.length
  · rw [Nat.min_eq_left h]
  · rw [Nat.min_eq_right (by omega), List.take_of_length_le (by omega), List.take_of_length_le (by omega)]
theorem cut_drop {ds : List D} {k : Nat} : cutL ds (some ((k : Nat) : Int)) none = ds.drop k := by
  unfold cutL
  have e : HT.sIx ds.length ds.length none = ds.length := rfl
  have e2 : HT.sIx ds.length 0 (some ((k : Nat) : Int)) = min k ds.length := by
    show (if ((k : Nat) : Int) < 0 then (((k : Nat) : Int) + (ds.length : Int)).toNat else min ((k : Nat) : Int).toNat ds.length) = _
    rw [if_neg (by omega)]
    simp
  rw [e, e2]
  by_cases h : k ≤ ds.length
  · rw [Nat.min_eq_left h, List.take_of_length_le (by simp)]
  · rw [Nat.min_eq_right (by omega), List.drop_eq_nil_of_le (by omega), List.drop_eq_nil_of_le (by omega)]; simp
theorem cut_init {ds : List D} : cutL ds none (some (-1)) = ds.dropLast := by
  unfold cutL
  have e : HT.sIx ds.length 0 none = 0 := rfl
  have e2 : HT.sIx ds.length ds.length (some (-1)) = ds.length - 1 := by
    show (if (-1 : Int) < 0 then ((-1 : Int) + (ds.length : Int)).toNat else min (-1 : Int).toNat ds.length) = _
    rw [if_pos (by decide)]
    omega
  rw [e, e2, List.drop_zero, Nat.sub_zero, List.dropLast_eq_take]
theorem cut_last {ds : List D} : cutL ds (some (-1)) none = ds.drop (ds.length - 1) := by
  unfold cutL
  have e : HT.sIx ds.length ds.length none = ds.length := rfl
  have e2 : HT.sIx ds.length 0 (some (-1)) = ds.length - 1 := by
    show (if (-1 : Int) < 0 then ((-1 : Int) + (ds.length : Int)).toNat else min (-1 : Int).toNat ds.length) = _
    rw [if_pos (by decide)]
    omega
  rw [e, e2, List.take_of_length_le (by simp)]
theorem w_sliceT {ds : List D} {lo hi : Option Int} {S : Sto} {Q : D → Sto → Prop} {X : Exc → Sto → Prop} : Wp (sliceD (.tup ds) lo hi S) Q X = Q (.tup (cutL ds lo hi)) S := rfl
theorem w_addT2 {a b : List D} {S : Sto} {Q : D → Sto → Prop} {X : Exc → Sto → Prop} : Wp (addD (.tup a) (.tup b) S) Q X = Wp (if a.length + b.length ≤ sizeLine then .ok (.tup (a ++ b)) S else .stuck) Q X := rfl
theorem cut_drop1 {ds : List D} : cutL ds (some 1) none = ds.drop 1 := cut_drop (k := 1)
theorem w_appL {l : Nat} {xs : List D} {y : D} {S : Sto} {Q : D → Sto → Prop} {X : Exc → Sto → Prop} (hl : S[l]? = some (.lst xs)) (hz : xs.length < sizeLine) : Wp (appendD (.ref l) [y] S) Q X = Q .non (S.set l (.lst (xs ++ [y]))) := by
  simp only [appendD, hl]
  rw [if_pos hz]; rfl
end DL

namespace DL
open PySem PySem.Spec PyProof.Rows L2
theorem fn_new {n : Nat} {b : Sl → Sto → Res Fl} {ds : List D} {S : Sto} {xs : List D} (hb : D.blws S.length xs = true) (h : Wp (b (startD n ds) S) (kFn fun d S' => ∃ l T, d = .ref l ∧ S' = S ++ T ∧ S'[l]? = some (.lst xs) ∧ S.length ≤ l) NX) : cutF (dFn n b) ds S = .ok (.ref S.length) (S ++ [.lst xs]) := by
  have h' : Wp (dFn n b ds S) (fun d S' => ∃ l T, d = .ref l ∧ S' = S ++ T ∧ S'[l]? = some (.lst xs) ∧ S.length ≤ l) NX := by rw [w_dFn]; exact h
  obtain ⟨d, S', e, l, T, rfl, rfl, hl, hle⟩ := Wp.ok h'
  unfold cutF
  rw [e]
  simp only [cutR]
  rw [if_pos (cutOk_app S _), if_neg (by show ¬ decide (l < S.length) = true; simp; omega), hl]
  simp only
  rw [if_pos ⟨hb, hle⟩, List.take_left]
theorem flat_le {α β : Type} {f : α → List β} {n : Nat} : ∀ {l : List α}, (∀ x ∈ l, (f x).length ≤ n) → (l.flatMap f).length ≤ n * l.length
  | [], _ => by simp
  | x :: l, h => by
    rw [List.flatMap_cons, List.length_append, List.length_cons, Nat.mul_add, Nat.mul_one]
    have h1 := h x (by simp)
    have h2 := flat_le (l := l) fun y hy => h y (List.mem_cons_of_mem _ hy)
    omega
end DL

namespace DL
open PySem PySem.Spec PyProof.Rows L2
section
variable {α : Type} [DecidableEq α]
end
theorem has_ls {x y : D} {ds : List D} {S : Sto} {n m : Nat} (hl : lsD y S = some ds) (hx : GD n x) (hd : ∀ d ∈ ds, GD m d) (hn : n ≤ 60 := by decide) (hm : m ≤ 59 := by decide) : hasD x y S = some (decide (x ∈ ds)) := by
  have e1 := gd_toP (S := S) hx hn
  have e2 : mapO (toP S 60) ds = some (pds ds) := mapO_pd ds fun d h => gd_toP (hd d h) (by omega)
  have s1 := gd_shaped hx (by omega)
  have s2 : SeqAt.shaped (.list (pds ds)) = true := gd_shaped (d := .frl ds) (n := m + 1) hd (by omega)
  unfold hasD
  split
  · cases hl
  · cases hl
  · simp only [hl, e1, e2, s1, s2, Bool.and_self, if_true]
    rw [any_eqv hx ds hd]
theorem w_notInL {x y : D} {ds : List D} {S : Sto} {n m : Nat} {Q : D → Sto → Prop} {X : Exc → Sto → Prop} (hl : lsD y S = some ds) (hx : GD n x) (hd : ∀ d ∈ ds, GD m d) (hn : n ≤ 60 := by decide) (hm : m ≤ 59 := by decide) : Wp (notInD x y S) Q X = Q (.bl (!decide (x ∈ ds))) S := by
  simp only [notInD, has_ls hl hx hd hn hm]; rfl
theorem w_inL {x y : D} {ds : List D} {S : Sto} {n m : Nat} {Q : D → Sto → Prop} {X : Exc → Sto → Prop} (hl : lsD y S = some ds) (hx : GD n x) (hd : ∀ d ∈ ds, GD m d) (hn : n ≤ 60 := by decide) (hm : m ≤ 59 := by decide) : Wp (inD x y S) Q X = Q (.bl (decide (x ∈ ds))) S := by
  simp only [inD, has_ls hl hx hd hn hm]; rfl
theorem depth_allN {n : Nat} : ∀ {ks : List NestedKey}, (∀ k ∈ ks, k.depth ≤ n) → NestedKey.depthAll ks ≤ n
  | [], _ => by simp [NestedKey.depthAll]
  | k :: ks, h => by
    simp only [NestedKey.depthAll]
    exact Nat.max_le.mpr ⟨h k (by simp), depth_allN fun x hx => h x (by simp [hx])⟩
theorem td_nkey : ∀ {n : Nat} {d : D}, TD n d → ∃ k, nkey d = some k ∧ k.depth ≤ n
  | n, .str w, _ => ⟨.text w, by simp [nkey], by simp [NestedKey.depth]⟩
  | n, .int i, _ => ⟨.num i, by simp [nkey], by simp [NestedKey.depth]⟩
  | n + 1, .tup ds, h => by
    have key : ∀ ds : List D, (∀ d ∈ ds, TD n d) → ∃ ks, nkeys ds = some ks ∧ ∀ k ∈ ks, k.depth ≤ n := by
      intro ds
      induction ds with
      | nil => intro _; exact ⟨[], by simp [nkeys], fun _ h => by cases h⟩
      | cons d ds ih =>
        intro h
        obtain ⟨k, e, hk⟩ := td_nkey (h d (by simp))
        obtain ⟨ks, e2, h2⟩ := ih fun x hx => h x (by simp [hx])
        refine ⟨k :: ks, by simp [nkeys, e, e2], fun x hx => ?_⟩
        rcases List.mem_cons.mp hx with rfl | hx
        · exact hk
        · exact h2 x hx
    obtain ⟨ks, e, hk⟩ := key ds h
    refine ⟨.tup ks, by simp [nkey, e], ?_⟩
    simp only [NestedKey.depth]
    exact Nat.succ_le_succ (depth_allN hk)
  | 0, .tup _, h => h.elim
  | 0, .non, h => h.elim
  | 0, .bl _, h => h.elim
  | 0, .frl _, h => h.elim
  | 0, .ref _, h => h.elim
  | 0, .exn _ _ _ _, h => h.elim
  | _ + 1, .non, h => h.elim
  | _ + 1, .bl _, h => h.elim
  | _ + 1, .frl _, h => h.elim
  | _ + 1, .ref _, h => h.elim
  | _ + 1, .exn _ _ _ _, h => h.elim
theorem td_nok {n : Nat} {ds : List D} (h : TD n (.tup ds)) (hn : n ≤ 8 := by decide) : nokD (.tup ds) = true := by
  obtain ⟨k, e, hk⟩ := td_nkey h
  show (match nkey (D.tup ds) with
    | some k => decide (k.depth ≤ 8)
    | none => false) = true
  rw [e]
  exact decide_eq_true (by omega)
theorem td_str {n : Nat} {w : Str} (h : PyData.strOk w = true) : TD n (.str w) := by cases n <;> exact h
theorem td_W {n : Nat} {l : List Nat} (h : Wok l) : TD n (.str (W l)) := td_str (strOk_W h)
theorem td_map {α : Type} {n : Nat} {f : α → D} {l : List α} (h : ∀ a ∈ l, TD n (f a)) : ∀ d ∈ l.map f, TD n d := fun d hd => by
  obtain ⟨a, ha, rfl⟩ := List.mem_map.mp hd
  exact h a ha
theorem dicN_at {S : Sto} {kvs : List (D × D)} {k : D} {l : Nat} (hl : S[l]? = some (.dic 2 kvs)) (h : nokD k = true) : dicN (.ref l) k S = some (getK kvs k) := by
  simp only [dicN, hl, h]
theorem w_notInN {S : Sto} {k d : D} {r : Option D} {Q : D → Sto → Prop} {X : Exc → Sto → Prop} (h : dicN d k S = some r) : Wp (notInDicN k d S) Q X = Q (.bl (!r.isSome)) S := by
  simp only [notInDicN, h]; rfl
theorem w_ixN {S : Sto} {k d r : D} {Q : D → Sto → Prop} {X : Exc → Sto → Prop} (h : dicN d k S = some (some r)) : Wp (ixDicN d k S) Q X = Q r S := by
  simp only [ixDicN, h]; rfl
theorem w_setN {l : Nat} {kvs : List (D × D)} {k v : D} {S : Sto} {Q : Unit → Sto → Prop} {X : Exc → Sto → Prop} (hl : S[l]? = some (.dic 2 kvs)) (hk : nokD k = true) (hz : kvs.length ≤ sizeLine) : Wp (setDicN (.ref l) k v S) Q X = Q () (S.set l (.dic 2 (putD kvs k v))) := by
  simp only [setDicN, hl, hk, decide_eq_true hz, Bool.and_self]
  rfl
theorem w_dDispN {fk fv : Sl → Sto → Res D} {sd : Sl} {S : Sto} {Q : D → Sto → Prop} {X : Exc → Sto → Prop} : Wp (dDispN fk fv sd S) Q X = Wp ((fk sd S).bind fun k S1 => (fv sd S1).bind fun v S2 => match nokD k with
  | true => .ok (.ref S2.length) (S2 ++ [.dic 2 [(k, v)]])
  | false => .stuck) Q X := rfl
section
variable {α : Type} [DecidableEq α] {f : α → D}
def kvE (f : α → D) (kn : List (α × D)) : List (D × D) := kn.map fun p => (f p.1, p.2)
def getE (kn : List (α × D)) (x : α) : Option D := (kn.find? fun p => decide (p.1 = x)).map (·.2)
theorem getK_E (hf : ∀ a b, f a = f b → a = b) {x : α} : ∀ kn : List (α × D), getK (kvE f kn) (f x) = getE kn x
  | [] => rfl
  | q :: kn => by
    have ih := getK_E hf (x := x) kn
    unfold getK kvE getE at ih ⊢
    rw [List.map_cons, List.find?_cons, List.find?_cons]
    by_cases h : q.1 = x
    · simp [h]
    · have h' : ¬ f q.1 = f x := fun z => h (hf _ _ z)
      simp only [h', h, decide_false]
      exact ih
theorem getE_none {kn : List (α × D)} {x : α} (h : x ∉ kn.map (·.1)) : getE kn x = none := by
  unfold getE
  rw [List.find?_eq_none.mpr]
  · rfl
  · intro p hp
    rw [decide_eq_true_eq]
    exact fun e => h (List.mem_map.mpr ⟨p, hp, e⟩)
theorem putD_E (hf : ∀ a b, f a = f b → a = b) {x : α} {v : D} {kn : List (α × D)} (h : x ∉ kn.map (·.1)) : putD (kvE f kn) (f x) v = kvE f (kn ++ [(x, v)]) := by
  unfold putD
  have : (kvE f kn).any (fun q => decide (q.1 = f x)) = false := by
    rw [List.any_eq_false]
    intro q hq
    obtain ⟨a, ha, rfl⟩ := List.mem_map.mp hq
    show ¬ decide (f a.1 = f x) = true
    rw [decide_eq_true_eq]
    exact fun z => h (List.mem_map.mpr ⟨a, ha, hf _ _ z⟩)
  rw [this]
  simp [kvE]
end
end DL

namespace DL
open PySem PySem.Spec PyProof.Rows L2
section
variable {S : Sto} {sd : Sl} {Q : D → Sto → Prop} {X : Exc → Sto → Prop}
theorem w_ixDic3 {l : Nat} {k r : D} {kvs : List (D × D)} (h : S[l]? = some (.dic 3 kvs)) (hk : (key0 k).isSome = true) (hr : getK kvs k = some r) : Wp (ixDic3 (.ref l) k S) Q X = Q r S := by
  unfold ixDic3
  simp only [h, hk, hr]
  rfl
end
end DL

namespace DL
open PySem PySem.Spec PyProof.Rows L2
def wq_a := And.intro @w_dVar (And.intro @w_dC (And.intro @w_dNil (And.intro @w_dCons (And.intro @w_dTup (And.intro @w_dLst (And.intro @w_d2 (And.intro @w_d2T (And.intro @w_d3 (And.intro @w_d3T (And.intro @w_tstB (And.intro @w_tAndD (And.intro @w_tOrD (And.intro @w_tNotD (And.intro @w_dAnd (And.intro @w_dOr (And.intro @w_dNot (And.intro @w_dIf (And.intro @w_dNeg (And.intro @w_sNext (And.intro @w_sSeq (And.intro @w_sIf (And.intro @w_sRet (And.intro @w_sExpr (And.intro @w_sAsg (And.intro @w_gVar (And.intro @w_sBrk (And.intro @w_gsNil (And.intro @w_gsCons (@w_gTupD)))))))))))))))))))))))))))))
def wq_b := And.intro @w_sPar (And.intro @w_iVal (And.intro @w_iEnumD (And.intro @w_iZipD (And.intro @w_iRngD1 (And.intro @w_iRngD2 (And.intro @w_tYesD (And.intro @w_gSubD (And.intro @w_oNone (And.intro @w_oSome (And.intro @w_dSlice (And.intro @w_dCall (And.intro @w_dFld (And.intro @w_sFldD (And.intro @w_gFldD (And.intro @w_dCallF (And.intro @w_dMeth (And.intro @w_dMake (And.intro @w_sRaise (And.intro @w_sRaiseT (And.intro @w_dExFc (And.intro @w_dBm (And.intro @w_dIsi (And.intro @w_dLstF (And.intro @w_dSliceF (And.intro @w_dKind (And.intro @kB_ap (And.intro @w_bind (And.intro @w_ok (@w_exc)))))))))))))))))))))))))))))
def wq_c := And.intro @w_stuck (And.intro @w_dFn (And.intro @kFn_nx (And.intro @kFn_ret (And.intro @w_sTry (And.intro @w_sFor (And.intro @w_addI (And.intro @w_addFI (And.intro @w_addFL2 (And.intro @w_addFT2 (And.intro @w_frzI (And.intro @w_frzS (And.intro @w_frzT (And.intro @w_frzF (And.intro @w_frzN (And.intro @w_frzB (And.intro @w_subI (And.intro @w_ltI (And.intro @w_leI (And.intro @w_gtI (And.intro @w_geI (And.intro @w_eqI (And.intro @w_neI (And.intro @w_eqS (And.intro @w_neS (And.intro @w_lenT (And.intro @w_lenF (And.intro @w_ixT2 (And.intro @w_ixF2 (@atI_pos)))))))))))))))))))))))))))))
def wq_d := And.intro @ixN_nat (And.intro @List.map_cons.{0,0} (And.intro @List.map_nil.{0,0} (And.intro @List.length_cons.{0} (And.intro @List.length_nil.{0} (And.intro @List.cons_append.{0} (And.intro @List.nil_append.{0} (And.intro @List.getElem?_cons_zero.{0} (And.intro @List.getElem?_cons_succ.{0} (And.intro @List.set_cons_zero.{0} (And.intro @List.set_cons_succ.{0} (And.intro @Bool.false_eq_true (And.intro @decide_true (And.intro @decide_false (And.intro @Bool.not_true (And.intro @Bool.not_false (And.intro @c_0 (And.intro @c_1 (And.intro @c_2 (And.intro @c_3 (And.intro @c_4 (And.intro @c_5 (And.intro @c_6 (And.intro @c_7 (And.intro @c_8 (And.intro @c_9 (And.intro @c_10 (And.intro @c_11 (And.intro @c_12 (@sz_0)))))))))))))))))))))))))))))
def wq_e := And.intro @sz_1 (And.intro @sz_2 (And.intro @sz_3 (And.intro @sz_4 (And.intro @sz_5 (And.intro @sz_6 (And.intro @sz_7 (And.intro @sz_8 (And.intro @sz_9 (And.intro @sz_10 (And.intro @sz_11 (And.intro @sz_12 (And.intro @sz_13 (And.intro @sz_14 (And.intro @sz_15 (And.intro @sz_16 (And.intro @Bool.true_eq_false (And.intro @it_tuplelist_int (And.intro @it_tuplelist_str (And.intro @it_tuplelist_tuple (And.intro @it_tuplelist_list (And.intro @it_tuplelist_bool (And.intro @it_tuplelist_NoneType (And.intro @it_list_int (And.intro @it_list_str (And.intro @it_list_tuple (And.intro @it_list_list (And.intro @it_list_bool (And.intro @it_list_NoneType (@it_tuple_int)))))))))))))))))))))))))))))
def wq_f := And.intro @it_tuple_str (And.intro @it_tuple_tuple (And.intro @it_tuple_list (And.intro @it_tuple_bool (And.intro @it_tuple_NoneType (And.intro @it_bool_int (And.intro @it_bool_str (And.intro @it_bool_tuple (And.intro @it_bool_list (And.intro @it_bool_bool (And.intro @it_bool_NoneType (And.intro @it_int_int (And.intro @it_int_str (And.intro @it_int_tuple (And.intro @it_int_list (And.intro @it_int_bool (And.intro @it_int_NoneType (And.intro @it_str_int (And.intro @it_str_str (And.intro @it_str_tuple (And.intro @it_str_list (And.intro @it_str_bool (And.intro @it_str_NoneType (And.intro @ty_int (And.intro @ty_str (And.intro @ty_tuple (And.intro @ty_list (And.intro @ty_bool (And.intro @ty_non (@w_eqB)))))))))))))))))))))))))))))
def wq_g := And.intro @w_neB (And.intro @w_isN (And.intro @w_isNotN (And.intro @nn_int (And.intro @nn_str (And.intro @nn_tuple (And.intro @nn_list (And.intro @nn_bool (And.intro @w_pNil (And.intro @w_pCons (And.intro @w_dDispGet (And.intro @w_dDisp (And.intro @w_dDisp0 (And.intro @w_dKget (And.intro @w_dDget (And.intro @keysOk_nil (And.intro @keysOk_s (And.intro @keysOk_i (And.intro @key0_s (And.intro @key0_i (And.intro @kdGet_s (And.intro @kdGet_i (And.intro @dgl_nil (And.intro @dgl_cons (And.intro @w_sliceT (And.intro @w_addT2 (And.intro @cut_drop1 (And.intro @cut_init (@cut_last))))))))))))))))))))))))))))
end DL

namespace DL
open PySem PySem.Spec PyProof.Rows L2 PySem.W
section
variable {cl : Cl} {X : Cx} {E : XK}
abbrev VP := V × PyData
theorem each_vals : ∀ {ps : List VP} {us : List Value}, Vals (ps.map (·.1)) us → EachIs (fun v p => RelV p.1 v) us ps
  | [], _, .nil => .nil
  | p :: ps, _, .cons r t => .cons r (each_vals t)
theorem vals_each : ∀ {ps : List VP} {us : List Value}, EachIs (fun v p => RelV p.1 v) us ps → Vals (ps.map (·.1)) us
  | [], _, .nil => .nil
  | p :: ps, _, .cons r t => .cons r (vals_each t)
theorem each_reads {pins : List (Addr × Obj)} {σ : L2.St} {H : Hp} {s : Shared} (I : Inv X pins σ H s) : ∀ {ps : List VP} {us : List Value}, (∀ p ∈ ps, Dp X.K H p.1 p.2) → Vals (ps.map (·.1)) us → EachIs (fun v p => ∃ as, Reads s.heap v p.2 as) us ps
  | [], _, _, .nil => .nil
  | p :: ps, _, h, .cons r t => .cons (Dp.reads I p.2 p.1 _ (h p List.mem_cons_self) r) (each_reads I (fun q hq => h q (List.mem_cons_of_mem _ hq)) t)
open Classical in
open Classical in
open Classical in
end
end DL

namespace DL
open PySem PySem.Spec PyProof.Rows L2
section
variable {cl : Cl} {X : Cx} {E : XK}
end
end DL

namespace DL
open PySem PySem.Spec PyProof.Rows L2
section
variable {cl : Cl} {X : Cx} {E : XK}
end
end DL

namespace DL
open PySem PySem.Spec PyProof.Rows L2
structure LamD (N : List Str) (sc scope : Scope) : Prop where
  kd : scope.kind = .function
  nco : scope.isCoroutine = false
  nge : scope.isGenerator = false
  nc : ∀ y ∈ scope.names, y.2 ≠ .cell
  nl : ∀ y ∈ scope.names, y.2 = .local → y.1 ∉ N
  tk : ∀ y ∈ scope.names, y.2 = .free → sc.names.lookup y.1 = some .cell ∨ sc.names.lookup y.1 = some .free
def lamDB (N : List Str) (sc scope : Scope) : Bool :=
  (decide (scope.kind = .function) && (!scope.isCoroutine && !scope.isGenerator)) && scope.names.all fun y => (!decide (y.2 = .cell) && (!decide (y.2 = .local) || !decide (y.1 ∈ N))) && (!decide (y.2 = .free) || (decide (sc.names.lookup y.1 = some .cell) || decide (sc.names.lookup y.1 = some .free)))
theorem lamD_by {N : List Str} {sc scope : Scope} (e : lamDB N sc scope = true) : LamD N sc scope := by
  unfold lamDB at e
  simp only [Bool.and_eq_true, Bool.or_eq_true, Bool.not_eq_true', decide_eq_true_eq, List.all_eq_true, decide_eq_false_iff_not] at e
  obtain ⟨⟨e1, e2, e3⟩, e4⟩ := e
  refine ⟨e1, e2, e3, fun y hy => (e4 y hy).1.1, fun y hy hl => ((e4 y hy).1.2).resolve_left fun z => z hl, fun y hy hf => ((e4 y hy).2).resolve_left fun z => z hf⟩
section
variable {X : Cx} {pins : List (Addr × Obj)} {σ : L2.St} {H : Hp} {s : Shared}
theorem LamD.has {scope : Scope} (D : LamD X.N X.env.scope scope) (ok : X.Ok) : ∀ y ∈ scope.names, y.2 = .free → ∃ b, X.env.cells.lookup y.1 = some b :=
  fun y hy hf => (D.tk y hy hf).elim (fun z => ok.has _ (.inl z)) fun z => ok.has _ (.inr z)
structure LamO (X : Cx) (H1 : Hp) (s1 : Shared) (params : Arguments) (body : Expr) (scope : Scope) (f t b : Addr) (u doc pm ctv : Value) : Prop where
  fo : s1.heap.get? f = some (PySem.W.kdv_obj "<lambda>" (X.env.qual ++ "<lambda>") params (.expr body) scope (cloFrom X.env.cells scope.names []) (.ref t) doc pm b ctv)
  fn : H1 f = none
  ff : f ∉ frs X.stack
  to : s1.heap.get? t = some (PySem.W.kdv_tup [u])
  tn : H1 t = none
  tf : t ∉ frs X.stack
  co : H1 b = some (LamX.CodeO b (X.env.qual ++ "<lambda>"))
variable {HZ : Hp} {sE : Shared}
end
section
variable {cl : Cl} {X : Cx}
open Classical in
end
end DL

namespace DL
open PySem PySem.Spec PyProof.Rows L2
section
variable {cl : Cl} {X : Cx} {E : XK}
variable {o e : Expr} {es : List Expr} {to : TE} {t : TA} {name : Str} {apos cpos : Pos} {id : String} {r : V → List V → Hp → VK → Prop}
end
end DL

namespace DL
open PySem PySem.Spec PyProof.Rows L2
structure LamI where
  params : Arguments
  body : Expr
  scope : Scope
  qual : Str
  own : Option Str
def PinO (a : Addr) (o : Obj) : HO := .frz o (.ext fun h => h.get? a = some o)
theorem pin_ok {P : Program} {w : World} {H : Hp} {h : Heap} {a : Addr} {o : Obj} (e : h.get? a = some o) : ObjOk P w H h a (PinO a o) :=
  ⟨e, e, ⟨o, e⟩, fun _ _ g k => k _ g⟩
def LamIs (I : LamI) (clo : List (Str × Addr)) (H : Hp) (o : Obj) : Prop :=
  ∃ (dV doc pm ctv : Value) (b : Addr), o = PySem.W.kdv_obj "<lambda>" I.qual I.params (.expr I.body) I.scope clo dV doc pm b ctv ∧ H b = some (LamX.CodeO b I.qual) ∧
    match I.own with
    | none => dV = .none
    | some _ => ∃ t u g, dV = .ref t ∧ H t = some (.frz (PySem.W.kdv_tup [u]) g)
theorem LamIs.keep {I : LamI} {clo : List (Str × Addr)} {H H' : Hp} {o : Obj} (k : Keep H H') (h : LamIs I clo H o) : LamIs I clo H' o := by
  obtain ⟨dV, doc, pm, ctv, b, e, hb, hd⟩ := h
  refine ⟨dV, doc, pm, ctv, b, e, k _ _ hb imm_code, ?_⟩
  split at hd
  · exact hd
  · obtain ⟨t, u, g, e1, e2⟩ := hd
    exact ⟨t, u, g, e1, k _ _ e2 trivial⟩
section
variable {X : Cx} {pins : List (Addr × Obj)} {σ : L2.St} {H : Hp} {s : Shared}
theorem lamv_fn {T : List (Addr × Str)} {c P : Addr} {dV : Value} {own : Option Str} {params : Arguments} {body : Expr} {scope : Scope} {pos : Pos} {E : Value → Shared → Prop} {R : Value → Shared → Prop} (J : Inv X pins σ H s) (B : LamX.TabB X.base X.mg c P) (hcd : X.env.code = .ref c)
    (mT : (P, X.env.qual ++ "<lambda>") ∈ T) (uT : ∀ p ∈ T, p.1 = P → p.2 = X.env.qual ++ "<lambda>") (tT : LamX.Tabs T H) (cells : ∀ y ∈ scope.names, y.2 = .free → ∃ b, X.env.cells.lookup y.1 = some b)
    (dv : match own with | none => dV = .none | some _ => ∃ t u g, dV = .ref t ∧ H t = some (.frz (PySem.W.kdv_tup [u]) g))
    (h : ∀ (f : Addr) (o : Obj) (H1 : Hp) (s1 : Shared), Inv X pins σ (upd H1 f (PinO f o)) s1 → LamX.ExtN H H1 → LamX.Tabs T H1 → H1 f = none → LamIs ⟨params, body, scope, X.env.qual ++ "<lambda>", own⟩ (cloFrom X.env.cells scope.names []) H1 o → R (.ref f) s1) :
    wpAny (model X.prog X.w) X.A (makeTail "<lambda>" (X.env.qual ++ "<lambda>") params (.expr body) scope X.env dV .none none pos pos.line) R E s := by
  obtain ⟨ps, tb, tr, tc⟩ := tT _ mT
  have tb : H P = some (.tbl ps) := tb
  have tP : s.heap.get? P = some { cls := .none, data := .fields ps } := J.hok P _ tb
  have bP := B.bm.keeps J.bk
  have gl : s.heap.Ns mainGlobals X.mg := J.mod.glob.keeps J.bk
  cases hc : codeAmong pos ps.toList with
  | none =>
    refine PySem.W.kdv_makeTail (c := c) (P := P) (ps := ps) (mg := X.mg) (closure_ok cells) J.ok.glob gl hcd (B.code.keeps J.bk) tP tr hc B.gP bP fun b ctv doc h' tk hx hge hlt hrec htb => ?_
    obtain ⟨b2, oc, vs, tt, eb, hoc, hd, hv⟩ := hrec
    cases eb
    have nb : H b = none := J.hok.fresh hge
    have nPb : P ≠ b := ne_of_none tb nb
    have K1 := LamX.inv_table (t' := tk) (more := #[rawInt pos.line, rawInt pos.col, .ref b]) (h' := h') (c := b) (q := X.env.qual ++ "<lambda>") J tb (fun a o ha e => hx a o ha e) htb hge ⟨oc, vs, tt, hoc, hd, hv⟩
    have eN : LamX.ExtN H (upd (upd H P (.tbl (ps ++ #[rawInt pos.line, rawInt pos.col, .ref b]))) b (LamX.CodeO b (X.env.qual ++ "<lambda>"))) := fun a o e n => by
      rw [upd_ne (ne_of_none e nb), upd_ne (fun z => n ps (Option.some.inj (e.symm.trans (by rw [z]; exact tb))))]
      exact e
    have ap : (ps ++ #[rawInt pos.line, rawInt pos.col, .ref b]).toList = ps.toList ++ [rawInt pos.line, rawInt pos.col, .ref b] := by simp
    have T1 : LamX.Tabs T (upd (upd H P (.tbl (ps ++ #[rawInt pos.line, rawInt pos.col, .ref b]))) b (LamX.CodeO b (X.env.qual ++ "<lambda>"))) := fun p hp => by
      by_cases hq : p.1 = P
      · rw [uT p hp hq, hq]
        refine ⟨_, by rw [upd_ne nPb, upd_same], by rw [ap]; exact PySem.TriplesOk_snoc _ _ _ _ tr, fun p' cv hcv => ?_⟩
        rw [ap] at hcv
        rcases LamX.among_app _ tr hcv with z | z
        · obtain ⟨c0, e1, e2⟩ := tc p' cv z
          exact ⟨c0, e1, eN _ _ e2 LamX.codeO_ne⟩
        · exact ⟨b, z, upd_same⟩
      · obtain ⟨ps', a1, a2, a3⟩ := tT p hp
        refine ⟨ps', by rw [upd_ne (ne_of_none a1 nb), upd_ne hq]; exact a1, a2, fun p' cv hcv => ?_⟩
        obtain ⟨c0, e1, e2⟩ := a3 p' cv hcv
        exact ⟨c0, e1, eN _ _ e2 LamX.codeO_ne⟩
    have hg : ({ s with heap := h', toks := tk } : Shared).heap.objs.size ≤ h'.objs.size := Nat.le_refl _
    have K2 := K1.laid (t' := tk) (a := h'.objs.size) (h' := h'.push (PySem.W.kdv_obj "<lambda>" (X.env.qual ++ "<lambda>") params (.expr body) scope (cloFrom X.env.cells scope.names []) dV doc ((X.mg "__name__").getD .none) b ctv))
      (o := PinO h'.objs.size (PySem.W.kdv_obj "<lambda>" (X.env.qual ++ "<lambda>") params (.expr body) scope (cloFrom X.env.cells scope.names []) dV doc ((X.mg "__name__").getD .none) b ctv)) (fun a o e => Heap.get?_push_of_some _ e) hg (pin_ok (Heap.get?_push_size _ rfl))
    refine h h'.objs.size _ _ _ K2 eN T1 (K1.hok.fresh hg) ⟨dV, doc, _, ctv, b, rfl, upd_same, ?_⟩
    split at dv
    · exact dv
    · obtain ⟨t, u, g, e1, e2⟩ := dv
      exact ⟨t, u, g, e1, eN _ _ e2 fun _ z => by cases z⟩
  | some cv =>
    obtain ⟨b, rfl, hb⟩ := tc pos cv hc
    refine PySem.W.kdv_makeTailHit (c := c) (P := P) (ps := ps) (mg := X.mg) (closure_ok cells) J.ok.glob gl hcd (B.code.keeps J.bk) tP tr hc bP fun ctv doc h' tk hx hsz => ?_
    have K1 : Inv X pins σ H { s with heap := h', toks := tk } := J.kept fun a o e => hx a o e
    have K2 := K1.laid (t' := tk) (a := h'.objs.size) (h' := h'.push (PySem.W.kdv_obj "<lambda>" (X.env.qual ++ "<lambda>") params (.expr body) scope (cloFrom X.env.cells scope.names []) dV doc ((X.mg "__name__").getD .none) b ctv))
      (o := PinO h'.objs.size (PySem.W.kdv_obj "<lambda>" (X.env.qual ++ "<lambda>") params (.expr body) scope (cloFrom X.env.cells scope.names []) dV doc ((X.mg "__name__").getD .none) b ctv)) (fun a o e => Heap.get?_push_of_some _ e) (Nat.le_refl _) (pin_ok (Heap.get?_push_size _ rfl))
    exact h h'.objs.size _ _ _ K2 (LamX.ExtN.refl H) tT (K1.hok.fresh (Nat.le_refl _)) ⟨dV, doc, _, ctv, b, rfl, hb, dv⟩
theorem lamv_make0 {T : List (Addr × Str)} {c P : Addr} {params : Arguments} {body : Expr} {scope : Scope} {pos : Pos} {E : Value → Shared → Prop} {R : Value → Shared → Prop} (J : Inv X pins σ H s) (B : LamX.TabB X.base X.mg c P) (hcd : X.env.code = .ref c)
    (mT : (P, X.env.qual ++ "<lambda>") ∈ T) (uT : ∀ p ∈ T, p.1 = P → p.2 = X.env.qual ++ "<lambda>") (tT : LamX.Tabs T H) (none0 : defaultsOf params X.env = ([], [])) (cells : ∀ y ∈ scope.names, y.2 = .free → ∃ b, X.env.cells.lookup y.1 = some b)
    (h : ∀ (f : Addr) (o : Obj) (H1 : Hp) (s1 : Shared), Inv X pins σ (upd H1 f (PinO f o)) s1 → LamX.ExtN H H1 → LamX.Tabs T H1 → H1 f = none → LamIs ⟨params, body, scope, X.env.qual ++ "<lambda>", none⟩ (cloFrom X.env.cells scope.names []) H1 o → R (.ref f) s1) :
    wpAny (model X.prog X.w) X.A (eval (.Lambda params body scope pos) X.env) R E s := by
  refine PySem.W.kla_eval none0 ?_
  rw [makeFunction_eq]
  simp only [List.zip_nil_right, List.filterMap_nil, List.isEmpty_nil, if_true, pure_bind]
  exact lamv_fn J B hcd mT uT tT cells rfl h
theorem lamv_make1 {T : List (Addr × Str)} {c P : Addr} {params : Arguments} {body : Expr} {scope : Scope} {pos dp : Pos} {n : Int} {j : Nat} {z : Str} {E : Value → Shared → Prop} {R : Value → Shared → Prop} (J : Inv X pins σ H s) (B : LamX.TabB X.base X.mg c P) (hcd : X.env.code = .ref c)
    (mT : (P, X.env.qual ++ "<lambda>") ∈ T) (uT : ∀ p ∈ T, p.1 = P → p.2 = X.env.qual ++ "<lambda>") (tT : LamX.Tabs T H) (one : params.defaults = [.Constant (.int n) j dp]) (kw : params.kw_defaults = []) (cells : ∀ y ∈ scope.names, y.2 = .free → ∃ b, X.env.cells.lookup y.1 = some b)
    (h : ∀ (f : Addr) (o : Obj) (H1 : Hp) (s1 : Shared), Inv X pins σ (upd H1 f (PinO f o)) s1 → LamX.ExtN H H1 → LamX.Tabs T H1 → H1 f = none → LamIs ⟨params, body, scope, X.env.qual ++ "<lambda>", some z⟩ (cloFrom X.env.cells scope.names []) H1 o → R (.ref f) s1) :
    wpAny (model X.prog X.w) X.A (eval (.Lambda params body scope pos) X.env) R E s := by
  refine PySem.W.kdv_lam (by rw [one]; rfl) kw ?_
  rw [one]
  refine PySem.W.kdv_all1 (wpAny_Constant_int (PySem.W.kdv_all0 ?_))
  rw [makeFunction_eq]
  simp only [List.zip_nil_right, List.filterMap_nil, List.isEmpty_nil, if_true, pure_bind, List.isEmpty_cons, Bool.false_eq_true, if_false]
  refine wpAny_bind (wpAny_newTextTuple ?_)
  generalize hu : Value.int n s.toks = u
  have J2 : Inv X pins σ (upd H s.heap.objs.size (PinO s.heap.objs.size (PySem.W.kdv_tup [u]))) { s with heap := s.heap.push (PySem.W.kdv_tup [u]), toks := s.toks + 1 } :=
    J.laid (t' := s.toks + 1) (fun b o e => Heap.get?_push_of_some _ e) (Nat.le_refl _) (pin_ok (Heap.get?_push_size _ rfl))
  have ht : H s.heap.objs.size = none := J.hok.fresh (Nat.le_refl _)
  have e0 : ∀ b o, H b = some o → upd H s.heap.objs.size (PinO s.heap.objs.size (PySem.W.kdv_tup [u])) b = some o := fun b o e => by rw [upd_ne (ne_of_none e ht)]; exact e
  refine lamv_fn J2 B hcd mT uT (tT.ext e0) cells (own := some z) ⟨_, u, _, rfl, upd_same⟩ fun f o H1 s1 k1 k2 k3 k4 k5 => h f o H1 s1 k1 ((LamX.ExtN.of e0).trans k2) k3 k4 k5
end
def tLamV (T : List (Addr × Str)) (I : LamI) (clo : List (Str × Addr)) : TE := fun _ H Q => LamX.Tabs T H ∧ ∀ (f : Addr) (o : Obj) (H1 : Hp), LamX.ExtN H H1 → LamX.Tabs T H1 → H1 f = none → LamIs I clo H1 o → Q (.ref f) (upd H1 f (PinO f o))
section
variable {cl : Cl} {X : Cx} {E : XK}
def dLam (i : Nat) : Sl → Sto → Res D := fun _ S => .ok (.ref S.length) (S ++ [.dic 5 [(.int i, .non)]])
theorem lamv_de {e : Expr} {I : LamI} {i : Nat} {clo : List (Str × Addr)} (p : PE X e (tLamV cl.T I clo)) (hl : ∀ H o, LamIs I clo H o → cl.lam i H o) : DE cl X E e (dLam i) := by
  refine ⟨_, p, fun m S H sd σ Q rs rl h => ⟨rs.tb, fun f o H1 e1 t1 n1 li => ?_⟩⟩
  obtain ⟨rs1, kp⟩ := rs_extN rs e1 t1
  have k2 : Keep H1 (upd H1 f (PinO f o)) := Keep.new n1
  refine h (m ++ [f]) _ _ (Ext.snoc m f) (kp.trans k2) (rs1.new n1 ⟨(i : Int), o, _, rfl, upd_same, fun H' k3 => ?_⟩) ⟨f, by rw [← rs.len]; simp, rfl⟩
  exact hl _ _ (li.keep (k2.trans k3))
end
structure LamOk (N : List Str) (sc : Scope) (I : LamI) : Prop where
  D : LamD N sc I.scope
  loc : ∀ z, I.own = some z → I.scope.names.lookup z = some .local
  bd0 : I.own = none → ∀ (sb : Shared) (cs : List (Str × Addr)) (doc pm cv ctv : Value), BindsTo sb (PySem.W.kdv_fn "<lambda>" I.qual I.params (.expr I.body) I.scope cs .none doc pm cv ctv) ⟨[], []⟩ []
  bd1 : ∀ z, I.own = some z → ∀ (sb : Shared) (cs : List (Str × Addr)) (t : Addr) (doc pm cv ctv u : Value), sb.heap.get? t = some (PySem.W.kdv_tup [u]) → BindsTo sb (PySem.W.kdv_fn "<lambda>" I.qual I.params (.expr I.body) I.scope cs (.ref t) doc pm cv ctv) ⟨[], []⟩ [(z, u)]
section
variable {X : Cx} {pins : List (Addr × Obj)} {σ : L2.St} {H : Hp} {s : Shared}
end
section
variable {cl : Cl} {X : Cx} {E : XK}
structure LamSet (cl : Cl) (X : Cx) (k : Nat) (fs : Nat → Option (Sl → Sto → Res D)) : Prop where
  all : ∀ (i : Nat) (fb : Sl → Sto → Res D), fs i = some fb → ∃ I : LamI, (∀ H o, cl.lam i H o → LamIs I (cloFrom X.env.cells I.scope.names []) H o) ∧ LamOk X.N X.env.scope I ∧ I.qual = X.env.qual ++ "<lambda>" ∧
    ∀ (A : Around) (outer : List Env) (s : Shared) (H : Hp) (E : XK) (f c' : Addr), Cok (LamX.lamCx X A outer s H E I.scope f c') E k → DE cl (LamX.lamCx X A outer s H E I.scope f c') E I.body fb
end
end DL

namespace DL
open PySem PySem.Spec PyProof.Rows L2
abbrev Cl.wl (cl : Cl) (lm : Nat → Hp → Obj → Prop) : Cl := ⟨cl.f, cl.T, cl.hh, lm, cl.lmb⟩
section
variable {cl : Cl} {K : PySem.W.Frag} {m : List Addr} {H : Hp} {S : Sto} {lm : Nat → Hp → Obj → Prop}
theorem RO.lam (h : ∀ i H o, cl.lam i H o → lm i H o) {a : Addr} : ∀ {o : DO}, RO cl K m H o a → RO (cl.wl lm) K m H o a
  | .lst _, r => r
  | .dic 0 _, r => r
  | .dic 1 _, r => r
  | .dic 2 _, r => r
  | .dic 3 _, r => r
  | .dic 4 _, r => r
  | .dic 5 _, ⟨i, o, u, e0, e, r⟩ => ⟨i, o, u, e0, e, fun H' k => h _ _ _ (r H' k)⟩
  | .dic 6 _, r => r
  | .dic 7 _, r => r
  | .dic (_ + 8) _, r => r.elim
  | .ins _ _, r => r
  | .dead, r => r
theorem RS.lam (rs : RS cl K m S H) (h : ∀ i H o, cl.lam i H o → lm i H o) : RS (cl.wl lm) K m S H := ⟨rs.len, rs.nd, fun l o a h1 h2 => (rs.obj l o a h1 h2).lam h, rs.tb⟩
end
def spL (cl : Cl) (K : PySem.W.Frag) (n : Nat) (F : List D → Sto → Res D) : Sp := fun vs H Q E => ∃ m S ds, ds.length = n ∧ RS cl K m S H ∧ RVs K m H ds vs ∧ ∃ b S', F ds S = .ok (.bl b) S' ∧ ∀ H', Q (.bl b) H'
def lamT (tab : List LamI) (names : List (Str × NameKind)) (L : Nat) : Nat → Hp → Obj → Prop := fun i H o => ∃ I, tab[i]? = some I ∧ LamIs I (cloFrom (cellsFrom (L + 1) names []) I.scope.names []) H o
theorem fnD_lawL {P : Program} {w : World} {cl : Cl} {K : PySem.W.Frag} {mg : Str → Option Value} {fd : FuncData} {k : Nat} {x qual p : Str} {params : Arguments} {body : List Stmt} {scope : Scope} {N : List Str} {Fb : Sl → Sto → Res Fl} {pd : He.Defn} {TB : Heap → Prop} {lm : Nat → Nat → Hp → Obj → Prop}
    (Fu : FunD K x qual params body scope [] [] (He.fAd K pd) fd) (S : FnScope N [p] scope)
    (hb : ∀ (kV doc pm : Value) (an : Option Addr) (cdv ct : Value) (us : List Value), us.length = [p].length → bindArgs (PySem.W.fnOf x qual params body scope .none kV doc pm an cdv ct) ⟨us, []⟩ = pure ([p].zip us)) (h0 : ∀ i H o, ¬ cl.lam i H o)
    (hbody : ∀ (base : Heap), TB base → ∀ (A : Around) (outer : List Env) (s : Shared) (H : Hp) (E : XK), Cok (cxOf (L2.CX P w) P w K mg base N qual scope (He.fAd K pd) (.ref (He.cT K pd).1) A outer s H E) E k →
      DSs (cl.wl (lm s.heap.objs.size)) (cxOf (L2.CX P w) P w K mg base N qual scope (He.fAd K pd) (.ref (He.cT K pd).1) A outer s H E) E body Fb) :
    (∀ (s : Shared) (u : Value), BindsTo s fd ⟨[u], []⟩ [(p, u)]) ∧ ∀ base : Heap, TB base → FnOk P w K mg base (L2.CX P w) (k + 1) (He.fAd K pd) fd [p] (spL cl K 1 (dFn N.length Fb)) := by
  refine ⟨fun s u => Fu.bindsA hb s [u] rfl, fun base tb => ?_⟩
  refine FunD.okC Fu S (fun vs H Q E h => ?_) (fun A outer s H vs Q E hr h => body_run (cl := cl.wl (lm s.heap.objs.size)) (n := 1) (hbody base tb A outer s H E (cok_of S hr)) ?_)
  · obtain ⟨m, St, ds, hl, rs, rv, _⟩ := h
    rw [← rv.length, hl]
    rfl
  · obtain ⟨m, St, ds, hl, rs, rv, b, S', e, hq⟩ := h
    refine ⟨m, St, ds, hl, rs.lam fun i H o z => absurd z (h0 i H o), rv, ?_⟩
    rw [e]
    intro m' v H' _ _ _ rv'
    obtain rfl : v = .bl b := rv'
    exact hq H'
theorem walk_DL {l : PySem.W.OpenLaw} {k : Nat} {q : Program} {loose : List Str} {XP : (Str → Option Value) → Heap → Prop} {YP : World → Heap → Prop} {d : DefRec} {x : Str} {Fl : List D → Sto → Res D}
    (hn : l.most = some 63) (hdf : d.params.defaults = []) (hr : Room k callerA) (plain : ∀ ns : List Int, ns.length ≤ 63 → ∃ S', Fl [.frl (ns.map .int)] [] = .ok (.bl true) S') (plain2 : ∀ ns : List Int, ns.length ≤ 63 → ∃ S', Fl [.ref 0] [.lst (ns.map .int)] = .ok (.bl true) S')
    (F : ∀ (w : World) (mg : Str → Option Value) (fa : Addr) (h : Heap), YP w h → h.Ns mainGlobals mg → mg d.name = some (.ref fa) →
      ∃ (K : PySem.W.Frag) (cl : Cl) (fd : FuncData) (tf : List He.Defn), (∀ p ∈ cl.T, ∃ t ∈ tf, p.1 = (He.cT K t).2) ∧ K.In h ∧ TabF K h tf ∧ (∀ (s : Shared) (u : Value), BindsTo s fd ⟨[u], []⟩ [(x, u)]) ∧
        ∀ base : Heap, K.In base → base.Ns mainGlobals mg → (∀ t ∈ tf, LamX.TabB base mg (He.cT K t).1 (He.cT K t).2) → FnOk l.prog w K mg base (L2.CX l.prog w) k fa fd [x] (spL cl K 1 Fl)) :
    PySem.W.WalkO q loose XP YP l.row.toRowW d [] (fun f vs => PySem.call f vs) := by
  refine Att.attach_call hn hdf fun w s₀ s₁ mg mb fa o pm cd doc a vs ns G Y ho hd hcd hmg hobj hints hlen hg => ?_
  obtain ⟨K, cl, fd, tf, hcT, KX, TF, hb, hF⟩ := F w mg fa _ Y G.T.g hmg
  have h63 : ns.length ≤ 63 := hlen
  have pm : ∀ {Pr : Addr × Addr → Prop}, (∀ t ∈ tf, Pr (He.cT K t)) → ∀ p ∈ tf.map (He.cT K), Pr p := fun {Pr} hh p hp => by
    obtain ⟨t, ht, rfl⟩ := List.mem_map.mp hp
    exact hh t ht
  refine LamX.law_callTs (cs := tf.map (He.cT K)) KX G.T.g G.T.b G.T.builtins G.T.nolimit hg (pm fun t ht => TF.empty t ht) (pm fun t ht => TF.out t ht) (pm fun t ht => PySem.W.codeHd_of_K KX (TF.hd t ht)) G.T.bmain hobj hints (Nat.le_trans hlen (by decide)) hr
    (fun base kb nb tb => hF base kb nb fun t ht => tb _ (List.mem_map.mpr ⟨t, ht, rfl⟩)) hb (fun H hH hS => ?_) fun H e s' z => ?_
  · have htb : LamX.Tabs cl.T H := fun p hp => by
      obtain ⟨t, ht, e⟩ := hcT p hp
      refine LamX.TabS.nil ?_
      rw [e]
      exact hH _ (List.mem_map.mpr ⟨t, ht, rfl⟩)
    have frz : Fz K H a (ns.map V.int) → spL cl K 1 Fl [.ref a] H (fun v _ => v = .bl true) fun _ _ _ => False := fun hf => by
      obtain ⟨S', e⟩ := plain ns h63
      exact ⟨[], [], [.frl (ns.map .int)], rfl, ⟨rfl, fun i j b hi => by simp at hi, fun l o b hl => by simp at hl, htb⟩, ⟨_, _, rfl, ⟨a, _, rfl, hf, ints_rv ns⟩, rfl⟩, true, S', e, fun _ => rfl⟩
    rcases hS with (hS | hS) | hS
    · obtain ⟨S', e⟩ := plain2 ns h63
      refine ⟨[a], [.lst (ns.map .int)], [.ref 0], rfl, ⟨rfl, fun i j b hi hj => ?_, fun l o b hl hm => ?_, htb⟩, ⟨_, _, rfl, ⟨a, rfl, rfl⟩, rfl⟩, true, S', e, fun _ => rfl⟩
      · cases i <;> cases j <;> simp at hi hj <;> rfl
      · cases l with
        | zero => simp at hl hm; subst hl hm; exact ⟨_, hS, ints_rv ns⟩
        | succ l => simp at hl
    · exact frz (.inl hS)
    · exact frz (.inr hS)
  · obtain ⟨_, _, _, _, _, _, _, _, _, _, _, _, z⟩ := z
    exact z
def pBody : Stmt → List Stmt
  | .FunctionDef _ _ b _ _ _ _ _ _ _ => b
  | .For _ _ b _ _ => b
  | .While _ b _ _ => b
  | .If _ b _ _ => b
  | _ => []
def pS (l : List Stmt) (i : Nat) : Stmt := l.getD i (.Pass ⟨0, 0, 0, 0⟩)
def eNil : Expr := .List [] ⟨0, 0, 0, 0⟩
def pVal : Stmt → Expr
  | .Assign _ v _ => v
  | _ => eNil
def pElts : Expr → List Expr
  | .List l _ => l
  | _ => []
def pRight : Expr → Expr
  | .BinOp _ _ r _ => r
  | _ => eNil
def pE (l : List Expr) (i : Nat) : Expr := l.getD i eNil
def lamOf (q : Str) (own : Option Str) : Expr → LamI
  | .Lambda p b s _ => ⟨p, b, s, q, own⟩
  | e => ⟨defArgs (.Pass ⟨0, 0, 0, 0⟩), e, defScope (.Pass ⟨0, 0, 0, 0⟩), q, own⟩
theorem lamT_at {tab : List LamI} {names : List (Str × NameKind)} {L i : Nat} {H : Hp} {o : Obj} {I : LamI} (e : tab[i]? = some I) (h : lamT tab names L i H o) : LamIs I (cloFrom (cellsFrom (L + 1) names []) I.scope.names []) H o := by
  obtain ⟨I', e', h⟩ := h
  rw [e] at e'
  cases e'
  exact h
theorem lamOk0 {N : List Str} {sc : Scope} {I : LamI} (ow : I.own = none) (D : LamD N sc I.scope) (bd : ∀ (cs : List (Str × Addr)) (doc pm cv ctv : Value), bindArgs (PySem.W.kdv_fn "<lambda>" I.qual I.params (.expr I.body) I.scope cs .none doc pm cv ctv) ⟨[], []⟩ = pure []) : LamOk N sc I :=
  ⟨D, (fun z e => by rw [ow] at e; cases e), (fun _ sb cs doc pm cv ctv => BindsTo.of_eq (bd cs doc pm cv ctv)), (fun z e => by rw [ow] at e; cases e)⟩
theorem lamOk1 {N : List Str} {sc : Scope} {I : LamI} {z : Str} (ow : I.own = some z) (D : LamD N sc I.scope) (hz : I.scope.names.lookup z = some .local)
    (bd : ∀ (sb : Shared) (cs : List (Str × Addr)) (t : Addr) (doc pm cv ctv u : Value), sb.heap.get? t = some (PySem.W.kdv_tup [u]) → BindsTo sb (PySem.W.kdv_fn "<lambda>" I.qual I.params (.expr I.body) I.scope cs (.ref t) doc pm cv ctv) ⟨[], []⟩ [(z, u)]) : LamOk N sc I :=
  ⟨D, (fun y e => by rw [ow] at e; cases e; exact hz), (fun e => by rw [ow] at e; cases e), (fun y e => by rw [ow] at e; cases e; exact bd)⟩
section
variable {cl : Cl} {X : Cx} {k : Nat}
end
end DL

namespace DL
open PySem PySem.Spec PyProof.Rows L2
section
variable {prog : Program} {w : World} {A : Around} {E : Value → Shared → Prop} {s : Shared} {K : PySem.W.Frag} {x C dx : Addr} {od : Option Obj} {z : Str} {t : Tok}
end
structure NoEq (K : PySem.W.Frag) (C : Addr) : Prop where
  mro : PySem.W.mroIn K C (.type "object") = some true
  eq : PySem.W.findIn K (.ref C) "__eq__" = some (some (.builtin "object.__eq__"))
section
variable {cl : Cl} {X : Cx}
theorem de_opL {E : XK} {a b : Expr} {fa fb : Sl → Sto → Res D} {op : Operator} {g : D → D → Sto → Res D} {pos : Pos} (ho : OpD cl X (binaryOp op) g) (ha : DE cl X E a fa) (hb : DE cl X E b fb) : DE cl X E (.BinOp a op b pos) (d2 g fa fb) := zb ho ha hb
end
end DL

namespace DL
open PySem PySem.Spec PyProof.Rows L2
section
variable {cl : Cl} {X : Cx}
end
end DL

namespace DL
open PySem PySem.Spec PyProof.Rows L2
structure NoTup (K : PySem.W.Frag) (C : Addr) : Prop where
  ha : PySem.W.findIn K (.ref C) "__class__" = some (some (.builtin "object.__class__"))
  hn : PySem.W.specialIn K (.builtin "object.__class__") "__get__" = some (some (.builtin "getset_descriptor.__get__"))
  htk : PySem.W.takesIn K (.builtin "object.__class__") = some true
  hm : PySem.W.mroIn K C (.type "object") = some true
  tu : PySem.W.kitOne K (.ref C) (.type "tuple") = some false
section
variable {cl : Cl} {X : Cx} {E : XK} {e : Expr} {f : Sl → Sto → Res D} {p p1 p2 p3 p4 pos : Pos}
end
end DL

namespace DL
open PySem PySem.Spec PyProof.Rows L2
section
variable {cl : Cl} {X : Cx} {E : XK}
def lockD (d : D) (S : Sto) : Res D := match d with
  | .ref l => (match S[l]? with
    | some (.dic 0 kvs) => .ok (.ref l) (S.set l (.dic 3 kvs))
    | _ => .stuck)
  | _ => .stuck
def dLockD (f : Sl → Sto → Res D) : Sl → Sto → Res D := fun sd S => (f sd S).bind fun d S1 => lockD d S1
theorem de_lockD {e : Expr} {f : Sl → Sto → Res D} (h : DE cl X E e f) : DE cl X E e (dLockD f) := by
  obtain ⟨t, p, he⟩ := h
  refine ⟨_, pe_frz p, fun m S H sd σ Q rs rl h => ?_⟩
  refine he m S H sd σ _ rs rl (Post.bind h fun d S1 m1 v H1 x1 k1 rs1 rv h1 => ?_)
  unfold lockD at h1
  split at h1
  · rename_i l
    split at h1
    · rename_i kvs e1
      obtain ⟨a, hm, gs, hv, r1⟩ := rs1.adr e1
      obtain ⟨a', hm', rfl⟩ := rv
      rw [hm] at hm'; cases hm'
      refine .inr ⟨a, .dK gs, rfl, hv, trivial, fun od => ?_⟩
      have kp : Keep H1 (upd H1 a (.frz od (.dK gs))) := rs1.keepPut e1 hm
      have rs2 : RS cl X.K m1 (S1.set l (.dic 3 kvs)) (upd H1 a (.frz od (.dK gs))) := rs1.put e1 hm ⟨gs, od, upd_same, RD0.mono (Ext.refl m1) kp r1⟩
      exact h1 m1 _ _ (Ext.refl _) kp rs2 ⟨a, hm, rfl⟩
    · exact h1.elim
  · exact h1.elim
def minL : List Int → Int
  | [] => 0
  | [n] => n
  | n :: m :: r => if n ≤ minL (m :: r) then n else minL (m :: r)
theorem minL_low : ∀ {ns : List Int}, ∀ y ∈ ns, minL ns ≤ y
  | [n], y, h => by rw [List.mem_singleton.mp h]; exact Int.le_refl _
  | n :: m :: r, y, h => by
    have ih := @minL_low (m :: r)
    unfold minL
    rcases List.mem_cons.mp h with rfl | h
    · split
      · exact Int.le_refl _
      · omega
    · have := ih y h
      split
      · omega
      · exact this
theorem minL_mem : ∀ {ns : List Int}, ns ≠ [] → minL ns ∈ ns
  | [n], _ => by simp [minL]
  | n :: m :: r, _ => by
    have ih := @minL_mem (m :: r) (by simp)
    unfold minL
    split
    · simp
    · exact List.mem_cons_of_mem _ ih
def minIs : List D → Sto → Res D
  | [d], S => match lsD d S with
    | some ds => match intsD ds with
      | some ns => if ns = [] then .stuck else .ok (.int (minL ns)) S
      | none => .stuck
    | none => .stuck
  | _, _ => .stuck
theorem cd_minIs (hc : X.calm = true) : CallD cl X (.builtin "min") minIs := by
  refine ⟨_, cr_min hc, fun E m S H ds vs Q rs rv h => ?_⟩
  unfold minIs at h
  split at h
  · rename_i d
    obtain ⟨v, rfl, r⟩ := rvs1 rv
    split at h
    · rename_i xs e1
      obtain ⟨a, ws, rfl, hv, r1⟩ := ls_rv rs r e1
      split at h
      · rename_i ns e2
        have ew := intsD_rv e2 r1
        subst ew
        split at h
        · exact h.elim
        · rename_i hne
          refine ⟨a, ns, rfl, hv, List.length_pos_iff.mpr hne, fun q hq hl => ?_⟩
          have : q = minL ns := by
            have h1 := hl _ (minL_mem hne)
            have h2 := minL_low q hq
            omega
          rw [this]
          exact h.here rs rfl
      · exact h.elim
    · exact h.elim
  · exact h.elim
end
end DL

namespace DL
open PySem PySem.Spec PyProof.Rows L2
section
variable {P : Program} {w : World} {A : Around} {E : Value → Shared → Prop} {s : Shared} {a : Addr} {K : Type} [DecidableEq K] {knd : KeyKind P w K}
def SetL (w : World) (knd : KeyKind P w K) (h : Heap) (a : Addr) (L : List K) : Prop :=
  ∃ o es ep t, h.get? a = some o ∧ o.ExactSet ∧ o.data = .set es ep t ∧ ElemsOf knd es.toList ∧ (∀ k, k ∈ L ↔ ∃ e ∈ es.toList, knd.is k e.2 = true) ∧ es.size = L.length ∧ es.size < scanBound ∧ t.fits es.size = true ∧
    Ris t.place.toList ∧ (w.params.followText "set-order" = true ∨ t.led = true)
theorem SetL.at {h h' : Heap} {L : List K} (R : SetL w knd h a L) (k : ∀ o, h.get? a = some o → h'.get? a = some o) : SetL w knd h' a L := by
  obtain ⟨o, es, ep, t, ho, r⟩ := R
  exact ⟨o, es, ep, t, k o ho, r⟩
def addK (L : List K) (k : K) : List K := if k ∈ L then L else L ++ [k]
theorem SetL.put {h : Heap} {o : Obj} {es es1 : Array (Int × Value)} {ep : Nat} {t t1 : SetTable} {L : List K} (ho : h.get? a = some o) (hex : o.ExactSet) (hd : o.data = .set es ep t) (he : ElemsOf knd es1.toList) (hm : ∀ k, k ∈ L ↔ ∃ e ∈ es1.toList, knd.is k e.2 = true)
    (hz : es1.size = L.length) (hb : es1.size < scanBound) (hf : t1.fits es1.size = true) (hr : Ris t1.place.toList) (hl : w.params.followText "set-order" = true ∨ t1.led = true) : SetL w knd (h.update a (Obj.putSet es1 t1)) a L :=
  ⟨_, es1, ep + 1, t1, store_at ho hd, hex, rfl, he, hm, hz, hb, hf, hr, hl⟩
theorem setL_tail {g : Bool → Sem Unit} (hg : ∀ (b : Bool) (s₁ : Shared) (Q' : Unit → Shared → Prop), Q' () s₁ → wpAny (model P w) A (g b) Q' E s₁) {o : Obj} {es es1 : Array (Int × Value)} {ep : Nat} {t t2 : SetTable} {L : List K} (ho : s.heap.get? a = some o) (hex : o.ExactSet) (hd : o.data = .set es ep t)
    (he : ElemsOf knd es1.toList) (hm : ∀ k, k ∈ L ↔ ∃ e ∈ es1.toList, knd.is k e.2 = true) (hz : es1.size = L.length) (hb : es1.size < scanBound) (hf : t2.fits es1.size = true) (hr : Ris t2.place.toList) (hl : w.params.followText "set-order" = true ∨ t2.led = true) {wasDummy : Bool} {R : Option Bool → Shared → Prop}
    (hR : ∀ h', Heap.SameBut a s.heap h' → SetL w knd h' a L → R (some true) { s with heap := h' }) :
    wpAny (model P w) A (do
        storeSet a es1 t2
        if (!wasDummy && t2.tooFull) = true then do
            g (relayAll t2 es1 (SetTable.grown es1.size)).2.2
            storeSet a (relayAll t2 es1 (SetTable.grown es1.size)).1 (relayAll t2 es1 (SetTable.grown es1.size)).2.1
            pure (some true)
          else pure (some true)) R E s := by
  refine wpAny_bind (wpAny_storeSet_of ho hd ?_ (fits_of_scanBound hb))
  have first := SetL.put (P := P) (w := w) (knd := knd) (L := L) ho hex hd he hm hz hb hf hr hl
  have same := Heap.SameBut.update s.heap a (Obj.putSet es1 t2)
  split
  · have pm := relayAll_perm t2 es1 (SetTable.grown es1.size)
    have q1 := relayAll_fits t2 es1 (SetTable.grown es1.size)
    have q2 := relayAll_ris t2 es1 (SetTable.grown es1.size)
    have q3 := relayAll_led t2 es1 (SetTable.grown es1.size)
    have ho1 := store_at (es' := es1) (t' := t2) ho hd
    generalize relayAll t2 es1 (SetTable.grown es1.size) = Z at pm q1 q2 q3 ⊢
    obtain ⟨es2, t3, b⟩ := Z
    dsimp only at pm q1 q2 q3 ⊢
    have sz : es2.size = es1.size := by rw [← Array.length_toList, pm.length_eq, Array.length_toList]
    refine wpAny_bind (hg _ _ _ (wpAny_bind (wpAny_storeSet_of ho1 rfl ?_ (fits_of_scanBound (by rw [sz]; exact hb)))))
    refine wpAny_pure (hR _ (same.trans (Heap.SameBut.update _ a _)) ?_)
    exact SetL.put (P := P) (w := w) (knd := knd) (L := L) ho1 hex rfl (he.perm pm) (fun k => (hm k).trans ⟨fun ⟨e, h1, h2⟩ => ⟨e, pm.mem_iff.mpr h1, h2⟩, fun ⟨e, h1, h2⟩ => ⟨e, pm.mem_iff.mp h1, h2⟩⟩) (by rw [sz]; exact hz) (by rw [sz]; exact hb) q1 q2
      (hl.imp id fun z => by rw [q3]; exact z)
  · exact wpAny_pure (hR _ same first)
theorem setL_add {k : K} {x : Value} {L : List K} {Q : Bool → Shared → Prop} (hkey : knd.is k x = true) (hsc : x.scannable = true) (R : SetL w knd s.heap a L) (room : L.length + 1 < scanBound)
    (hQ : ∀ h' b, Heap.SameBut a s.heap h' → SetL w knd h' a (addK L k) → Q b { s with heap := h' }) : wpAny (model P w) A (setAddHashed a x (knd.hash k)) Q E s := by
  obtain ⟨o, es, ep, t, ho, hex, hd, he, hm, hz, hb, hf, hr, hl⟩ := R
  unfold setAddHashed setAddHashedIn
  refine wpAny_holding (wpAny_bind (wpAny_setState_of ho hd hf ?_))
  dsimp only
  rw [byScan_of hsc hb he]
  simp only [↓reduceIte]
  unfold setAddByScan
  refine wpAny_bind (wpAny_bind (wpAny_rule (wpAny_bind (wpAny_setScan_of hkey ho hd hf he ?_))))
  cases hfi : List.findIdx? (fun e => knd.is k e.2) es.toList with
  | some j =>
    dsimp only
    obtain ⟨hj, pj, _⟩ := List.findIdx?_eq_some_iff_getElem.mp hfi
    have hk : k ∈ L := (hm k).2 ⟨es.toList[j], List.getElem_mem hj, pj⟩
    refine wpAny_pure (wpAny_pure ?_)
    have ea : addK L k = L := by unfold addK; rw [if_pos hk]
    exact hQ s.heap _ (Heap.SameBut.refl a s.heap) (by rw [ea]; exact ⟨o, es, ep, t, ho, hex, hd, he, hm, hz, hb, hf, hr, hl⟩)
  | none =>
    dsimp only
    have hk : k ∉ L := fun z => by
      obtain ⟨e, h1, h2⟩ := (hm k).1 z
      have c := List.findIdx?_eq_none_iff.mp hfi e h1
      rw [h2] at c
      cases c
    have ea : addK L k = L ++ [k] := by unfold addK; rw [if_neg hk]
    have pm := layNew_perm t es (knd.hash k) x
    have q1 := layNew_fits t es (knd.hash k) x
    have q2 := layNew_ris t es (knd.hash k) x hr
    have q3 := layNew_led t es (knd.hash k) x
    generalize layNew t es (knd.hash k) x = Z at pm q1 q2 q3 ⊢
    obtain ⟨es1, t1, dm, gave⟩ := Z
    dsimp only at pm q1 q2 q3 ⊢
    rw [Array.toList_push] at pm
    have e1 : ElemsOf knd es1.toList := (he.push hkey hsc).perm pm
    have sz : es1.size = (addK L k).length := by rw [ea, ← Array.length_toList, pm.length_eq, List.length_append, List.length_append, Array.length_toList, hz]; rfl
    have b1 : es1.size < scanBound := by rw [sz, ea, List.length_append]; exact room
    have m1 : ∀ i, i ∈ addK L k ↔ ∃ e ∈ es1.toList, knd.is i e.2 = true := fun i => by
      rw [ea, List.mem_append, List.mem_singleton, hm i]
      constructor
      · rintro (⟨e, h1, h2⟩ | rfl)
        · exact ⟨e, pm.mem_iff.mpr (List.mem_append_left _ h1), h2⟩
        · exact ⟨_, pm.mem_iff.mpr (List.mem_append_right _ (List.mem_singleton.mpr rfl)), hkey⟩
      · rintro ⟨e, h1, h2⟩
        rcases List.mem_append.mp (pm.mem_iff.mp h1) with h | h
        · exact .inl ⟨e, h, h2⟩
        · rw [List.mem_singleton] at h
          subst h
          exact .inr (knd.inj x i k h2 hkey)
    have led : w.params.followText "set-order" = true ∨ t1.led = true := hl.imp id fun z => by rw [q3]; exact z
    have gw : ∀ (b : Bool) {s₁ : Shared} {Q' : Unit → Shared → Prop}, Q' () s₁ → wpAny (model P w) A (match b with | true => rule "set.scan.the-table-gave-way" | false => pure ()) Q' E s₁ := fun b s₁ Q' q => by
      cases b
      · exact wpAny_pure q
      · exact wpAny_rule q
    refine wpAny_bind (gw _ ?_)
    split
    · refine wpAny_bind ?_
      rw [hashByValue_scannable 8 hsc]
      refine wpAny_pure ?_
      refine setL_tail ?_ ho hex hd e1 m1 sz b1 ?_ ?_ ?_ ?_
      · intro b s₁ Q' q
        cases b <;> first | exact wpAny_pure q | exact wpAny_rule q
      · first | (split <;> first | exact q1 | exact SetTable.fits_plain_off q1) | exact q1
      · first | (split <;> exact q2) | exact q2
      · first | (split <;> exact led) | exact led
      · intro h' sb r
        dsimp only
        exact wpAny_pure (hQ h' _ sb r)
    · refine wpAny_bind (wpAny_pure ?_)
      simp only [↓reduceIte]
      refine setL_tail ?_ ho hex hd e1 m1 sz b1 q1 q2 led ?_
      · intro b s₁ Q' q
        cases b <;> first | exact wpAny_pure q | exact wpAny_rule q
      · intro h' sb r
        dsimp only
        exact wpAny_pure (hQ h' _ sb r)
theorem addK_mem {L : List K} {k x : K} : x ∈ addK L k ↔ x ∈ L ∨ x = k := by
  unfold addK
  split
  · rename_i h
    exact ⟨.inl, fun z => z.elim id fun e => by rw [e]; exact h⟩
  · rw [List.mem_append, List.mem_singleton]
theorem addK_nodup {L : List K} {k : K} (h : L.Nodup) : (addK L k).Nodup := by
  unfold addK
  split
  · exact h
  · rename_i hk
    rw [List.nodup_append]
    refine ⟨h, by simp, fun x hx y hy e => ?_⟩
    have : y = k := by simpa using hy
    exact hk (by rw [← this, ← e]; exact hx)
theorem addK_len {L : List K} {k : K} : (addK L k).length ≤ L.length + 1 := by
  unfold addK
  split
  · omega
  · simp
def ddK (l : List K) : List K := l.foldl addK []
theorem ddK_snoc {l : List K} {k : K} : ddK (l ++ [k]) = addK (ddK l) k := by
  unfold ddK
  rw [List.foldl_append]
  rfl
theorem ddK_all : ∀ l : List K, (ddK l).Nodup ∧ (ddK l).length ≤ l.length ∧ ∀ x, x ∈ ddK l ↔ x ∈ l := by
  have key : ∀ (l acc : List K), acc.Nodup → (l.foldl addK acc).Nodup ∧ (l.foldl addK acc).length ≤ acc.length + l.length ∧ ∀ x, x ∈ l.foldl addK acc ↔ x ∈ acc ∨ x ∈ l := by
    intro l
    induction l with
    | nil => exact fun acc h => ⟨h, by simp, fun x => by simp⟩
    | cons y l ih =>
      intro acc h
      obtain ⟨h1, h2, h3⟩ := ih (addK acc y) (addK_nodup h)
      have := addK_len (L := acc) (k := y)
      refine ⟨h1, by rw [List.foldl_cons, List.length_cons]; omega, fun x => ?_⟩
      rw [List.foldl_cons, h3 x, addK_mem, List.mem_cons]
      exact ⟨fun z => z.elim (fun z => z.elim .inl fun e => .inr (.inl e)) fun e => .inr (.inr e), fun z => z.elim (fun e => .inl (.inl e)) fun z => z.elim (fun e => .inl (.inr e)) .inr⟩
  intro l
  obtain ⟨h1, h2, h3⟩ := key l [] List.nodup_nil
  refine ⟨h1, ?_, fun x => ?_⟩
  · show (l.foldl addK []).length ≤ _
    simpa using h2
  · show x ∈ l.foldl addK [] ↔ _
    simpa using h3 x
theorem setL_update {I : Addr} {fp wr : List Addr} {G : Array GenState → Array GenState → Prop} {n : Nat} {Pv : Nat → Value → Prop} {St : Nat → Shared → Prop} {R : Result → Shared → Prop}
    (W : WalksS P w A.in1 I fp wr G n Pv St) (hSf : a ∉ fp) (ks : List K) (hn : n = ks.length) (hb : ks.length + 1 < scanBound) (hval : ∀ i v, Pv i v → ∃ k, ks[i]? = some k ∧ knd.is k v = true ∧ v.scannable = true) :
    ∀ (m i : Nat) (s : Shared), n - i = m → i ≤ n → St i s → SetL w knd s.heap a (ddK (ks.take i)) → (∀ s', Moved (a :: wr) G s s' → SetL w knd s'.heap a (ddK ks) → R (.ok (.ret .none)) s') → codeAny (model P w) A (.builtin "set.update.loop" ⟨[.ref a, .ref I], []⟩) R s := by
  have nw : a ∉ wr := fun h => hSf (W.sub _ h)
  have sub : ∀ b ∈ wr, b ∈ a :: wr := fun b hb => List.mem_cons_of_mem _ hb
  intro m
  induction m with
  | zero =>
    intro i s hm hi hst hS hR
    obtain rfl : i = n := by omega
    refine codeAny_builtin PyProof.Rows.F.entry_set_update_loop ?_
    rw [Around.under_plainId PyProof.Rows.F.plain_set_update_loop _]
    show wpAny _ A.in1 (pyNext (.ref I) >>= _) _ _ s
    refine wpAny_bind (W.done s _ _ hst fun s' hmv => ?_)
    rw [List.take_of_length_le (by omega)] at hS
    exact wpAny_pure (hR s' (hmv.mono sub) (hS.at fun o e => hmv.heap a o nw e))
  | succ m ih =>
    intro i s hm hi hst hS hR
    have lt : i < n := by omega
    refine codeAny_builtin PyProof.Rows.F.entry_set_update_loop ?_
    rw [Around.under_plainId PyProof.Rows.F.plain_set_update_loop _]
    show wpAny _ A.in1 (pyNext (.ref I) >>= _) _ _ s
    refine wpAny_bind (W.item i s _ _ lt hst fun v s' hP hst' hmv => ?_)
    obtain ⟨k, hk, hkv, hsc⟩ := hval i v hP
    have hS' : SetL w knd s'.heap a (ddK (ks.take i)) := hS.at fun o e => hmv.heap a o nw e
    show wpAny _ A.in1 (holding [v] (setAdd a v) >>= _) _ _ s'
    refine wpAny_bind (wpAny_holding ?_)
    unfold setAdd
    refine wpAny_holding (wpAny_bind (knd.pyHash (k := k) hkv ?_))
    have room : (ddK (ks.take i)).length + 1 < scanBound := by
      have h1 := (ddK_all (ks.take i)).2.1
      have h2 : (ks.take i).length ≤ ks.length := by rw [List.length_take]; omega
      omega
    refine setL_add (s := { s' with toks := s'.toks + 1 }) hkv hsc hS' room fun h' b sb hS2 => ?_
    have e : addK (ddK (ks.take i)) k = ddK (ks.take (i + 1)) := by
      rw [List.take_add_one, hk]
      exact ddK_snoc.symm
    rw [e] at hS2
    refine wpAny_pure ⟨plainId_quiet PyProof.Rows.F.plain_set_update_loop _, ih (i + 1) _ (by omega) lt (W.frame _ s' _ _ hst' (Nat.le_succ _) fun c hc o e => ?_) hS2 fun s'' hm2 hS3 => ?_⟩
    · rw [sb.2 c (fun h : c = a => hSf (by rw [← h]; exact hc))]
      exact e
    · refine hR s'' (Moved.trans W.gtrans ((hmv.mono sub).then_heap (Nat.le_succ _) fun c o hc e => ?_) hm2) hS3
      rw [sb.2 c (fun h : c = a => hc (by rw [h]; exact List.mem_cons_self))]
      exact e
abbrev newSetO (w : World) : Obj := { cls := .type "set", dict := none, data := .set #[] 0 (.fresh 0 0 (!w.params.followText "set-order")) }
theorem setL_fresh {h : Heap} (ho : h.get? a = some (newSetO w)) : SetL w knd h a ([] : List K) :=
  ⟨_, #[], 0, _, ho, ⟨rfl, rfl, rfl⟩, rfl, (fun e he => by simp at he), (fun k => by simp), rfl, by decide, by rfl, List.Pairwise.nil, by
    show _ ∨ (!w.params.followText "set-order") = true
    cases w.params.followText "set-order"
    · exact .inr rfl
    · exact .inl rfl⟩
set_option maxHeartbeats 8000000 in
theorem call_set_listL {l : Addr} {items : Array Value} (ks : List K) {Q : Value → Shared → Prop} (hh : A.handled = none) (hl : s.heap.IsList l items) (hsz : items.size = ks.length) (hit : ∀ (i : Nat) (v : Value), items[i]? = some v → ∃ k, ks[i]? = some k ∧ knd.is k v = true ∧ v.scannable = true) (hb : ks.length + 1 < scanBound)
    (h : ∀ (h' : Heap) (tk : Nat), SetL w knd h' s.heap.objs.size (ddK ks) → (∀ b o, s.heap.get? b = some o → h'.get? b = some o) → Q (.ref s.heap.objs.size) { s with heap := h', toks := tk }) :
    wpAny (model P w) A (call (.type "set") [.ref l]) Q E s := by
  obtain ⟨c, tl, hmro⟩ := PySem.F.called_set.mro
  have hmade := PySem.F.called_set.made
  have hsub := PySem.F.called_set.sub
  refine wpAny_call (codeAny_of_tree ?_)
  show wpAny _ _ (callAny (.type "set") _) _ _ _
  refine wpAny_pure ⟨Code.quiet_builtin _ (by decide +kernel), codeAny_builtin PySem.F.entry_type_call ?_⟩
  rw [Around.under_plain (weight_type_call_type "set" [.ref l] []) rfl]
  have h1 := PySem.F.called_set.notType
  have h2 := PySem.F.called_set.canCreate
  have hct := PySem.F.typeCall_set_1 (.ref l)
  repeat (any_goals (first | assumption | wp_step))
  refine codeAny_mono (code_set_led1 (.ref l) (E := E) (Q₁ := fun obj s₁ => obj = .ref s.heap.objs.size ∧ s₁ = { s with heap := s.heap.push (newSetO w) }) ⟨rfl, rfl⟩) fun r s₁ hr => ?_
  cases r with
  | error e => exact hr
  | ok fl =>
    cases fl with
    | ret obj =>
      obtain ⟨rfl, rfl⟩ := hr
      have hS : (s.heap.push (newSetO w)).get? s.heap.objs.size = some (newSetO w) := Heap.get?_push_size _ rfl
      have hT : Shared.TypeIs { s with heap := s.heap.push (newSetO w) } (.ref s.heap.objs.size) "set" := ⟨_, hS, rfl⟩
      have hli := PySem.F.called_set.init.lookup
      have hbi := PySem.F.called_set.init.bind (.ref s.heap.objs.size)
      repeat (any_goals (first | assumption | wp_step))
      refine codeAny_mono (codeAny_call_builtin (R := wants (fun r s₂ => r = .none ∧ ∃ h' tk, s₂ = { s with heap := h', toks := tk } ∧ SetL w knd h' s.heap.objs.size (ddK ks) ∧ (∀ b o, s.heap.get? b = some o → h'.get? b = some o)) E) PySem.F.called_set.init.plain PySem.F.entry_set_init (check_set_init_1 hT ?_)) fun r₂ s₂ hr₂ => ?_
      · obtain ⟨ol, hol, hcl, nl, hdl⟩ := hl
        obtain ⟨ocls, odict, odata, oslots⟩ := ol
        simp only at hcl hdl
        subst hcl; subst hdl
        have hol' : (s.heap.push (newSetO w)).get? l = some { cls := .type "list", dict := odict, data := .seq items nl, slots := oslots } := Heap.get?_push_of_some _ hol
        have hsls := PySem.F.sub_list_set
        have hslf := PySem.F.sub_list_frozenset
        have hne : (Value.type "list" == Value.type "dict") = false := by decide
        have hl1 : (s.heap.push (newSetO w)).IsList l items := ⟨_, hol', rfl, nl, rfl⟩
        unfold Builtin.«set.__init__» noKeywords Builtin.Frozenset.updateFrom
        generalize hPI : pyIter = PI
        wp_walk
        subst hPI
        refine wpAny_pyIter_list hl1 (wpAny_bind (wpAny_runValue ?_))
        have hlS : l < s.heap.objs.size := Heap.lt_size hol
        have hh3 : A.in1.in1.in1.handled = none := by simp [hh]
        have sz1 : (s.heap.push (newSetO w)).objs.size = s.heap.objs.size + 1 := Heap.size_push ..
        refine setL_update (knd := knd) ((Walks.list hh3 _ l (by rw [sz1]; exact Nat.ne_of_lt (Nat.lt_succ_of_lt hlS)) items).toS) (by
            rw [sz1]
            simp only [List.mem_cons, List.not_mem_nil, or_false, not_or]
            exact ⟨Nat.ne_of_lt (Nat.lt_succ_self _), Nat.ne_of_gt hlS⟩) ks hsz hb hit (items.size - 0) 0 _ (by omega) (Nat.zero_le _)
          ⟨⟨_, Heap.get?_push_size _ rfl, rfl, rfl⟩, (hl1.push _)⟩ (setL_fresh (Heap.get?_push_of_some _ hS)) ?_
        intro s' hm hS'
        obtain ⟨h', g2, d', tk', os'⟩ := s'
        have eg : g2 = s.gens := hm.gens
        have ed : d' = s.drawn := hm.drawn
        have eo : os' = s.os := hm.os
        subst eg; subst ed; subst eo
        show wpAny _ _ _ _ _ _
        refine wpAny_pure ?_
        show wpAny _ _ (ret Value.none) _ _ _
        refine wpAny_pure ⟨rfl, h', tk', rfl, hS', fun b o e => ?_⟩
        have hb0 : b < s.heap.objs.size := Heap.lt_size e
        refine hm.heap b o ?_ (Heap.get?_push_of_some _ (Heap.get?_push_of_some _ e))
        rw [sz1]
        simp only [List.mem_cons, List.not_mem_nil, or_false, not_or]
        exact ⟨Nat.ne_of_lt hb0, Nat.ne_of_lt (Nat.lt_succ_of_lt hb0)⟩
      · cases r₂ with
        | error e => exact hr₂
        | ok fl₂ =>
          cases fl₂ with
          | ret r =>
            obtain ⟨rfl, h', tk, rfl, hS', hk'⟩ := hr₂
            repeat (any_goals (first | assumption | wp_step))
            exact h _ _ hS' hk'
          | _ => exact hr₂.elim
    | _ => exact hr.elim
end
end DL

namespace DL
open PySem PySem.Spec PyProof.Rows L2 PySem.W
section
variable {cl : Cl} {X : Cx} {E : XK}
abbrev txP (x : Str) : VP := (V.str x, PyData.str x)
def tSortSetS (K : PySem.W.Frag) (ta : TE) : TE := fun σ H Q => ta σ H fun x H1 => ∃ (l : Addr) (xs : List Str), x = .ref l ∧ SqL K H1 l (xs.map V.str) ∧ xs.length ≤ 4000 ∧
  ∀ ys : List Str, ys.Perm (ddK xs) → AllAlike (ys.map PyData.str) ∧ Sortable (ys.map PyData.str) ∧
    ∀ q, H1 q = none → Q (.ref q) (upd H1 q (.lst (((ys.map txP).mergeSort (dataLe false (·.2))).map (·.1)))) ∨
      ∃ a u, V.ref q = .ref a ∧ (upd H1 q (.lst (((ys.map txP).mergeSort (dataLe false (·.2))).map (·.1)))) a = some u ∧ Mut (some u) ∧ ∀ od, Q (.ref q) (upd (upd H1 q (.lst (((ys.map txP).mergeSort (dataLe false (·.2))).map (·.1)))) a (.frz od u))
theorem texts_of : ∀ {us : List Value}, (∀ u ∈ us, ∃ (x : Str) (t : Tok), u = Value.str x t) → ∃ ys : List Str, Vals (ys.map V.str) us
  | [], _ => ⟨[], .nil⟩
  | u :: us, h => by
    obtain ⟨x, t, e⟩ := h u List.mem_cons_self
    obtain ⟨ys, v⟩ := texts_of (us := us) fun w hw => h w (List.mem_cons_of_mem _ hw)
    subst e
    exact ⟨x :: ys, .cons ⟨t, rfl⟩ v⟩
def txOf (v : Value) : Str := match v with
  | .str x _ => x
  | _ => Str.empty
theorem vals_tx : ∀ {ys : List Str} {us : List Value}, Vals (ys.map V.str) us → ys = us.map txOf
  | [], _, .nil => rfl
  | y :: ys, _, .cons r t => by
    obtain ⟨tk, rfl⟩ := r
    rw [List.map_cons, ← vals_tx t]
    rfl
theorem perm_few : ∀ {L ys : List Str}, L.Nodup → (∀ x ∈ L, x ∈ ys) → ys.length = L.length → ys.Perm L
  | [], ys, _, _, h => by rw [List.length_eq_zero_iff.mp h]
  | x :: L, ys, hn, hs, h => by
    obtain ⟨h1, h2⟩ := List.nodup_cons.mp hn
    have hx := hs x List.mem_cons_self
    have p1 := List.perm_cons_erase hx
    have hl := List.length_erase_of_mem hx
    have ih := perm_few (L := L) (ys := ys.erase x) h2 (fun y hy => (List.mem_erase_of_ne (fun z => h1 (by rw [← z]; exact hy))).mpr (hs y (List.mem_cons_of_mem _ hy))) (by rw [hl, h, List.length_cons]; omega)
    exact p1.trans (ih.cons x)
theorem sortSetS_run {pins : List (Addr × Obj)} {σ : L2.St} {H : Hp} {s : Shared} {a : Addr} {xs : List Str} {E : Value → Shared → Prop} {R : Value → Shared → Prop} (I : Inv X pins σ H s) (hc : X.calm = true) (hu : X.A.units + 65 < cLine) (hS : SetL X.w (strKind X.prog X.w) s.heap a (ddK xs)) (hl : xs.length ≤ 4000)
    (hal : ∀ ys : List Str, ys.Perm (ddK xs) → AllAlike (ys.map PyData.str) ∧ Sortable (ys.map PyData.str))
    (hR : ∀ (ys : List Str) (q : Addr) (s' : Shared), ys.Perm (ddK xs) → H q = none → Inv X pins σ (upd H q (.lst (((ys.map txP).mergeSort (dataLe false (·.2))).map (·.1)))) s' → R (.ref q) s') :
    wpAny (model X.prog X.w) X.A (call (.builtin "sorted") [.ref a]) R E s := by
  obtain ⟨o, es, ep, t, ho, hex, hd, he, hm, hz, hb, hf, hr, hled⟩ := hS
  refine Calls.call_function_entry PyProof.Rows.kind_sorted PyProof.Rows.plain_sorted PyProof.Rows.entry_sorted (PyProof.Rows.args_sorted1 _) ?_
  unfold Builtin.«sorted»
  refine wpAny_bind (m := checkCount "sorted" 1 1 _) (wpAny_pure ?_)
  refine wpAny_bind (collect_set (A := X.A.in1) (I.ok.hd hc) ⟨o, ho, hex.1, hd⟩ hf hb hr hled fun s1 vs k1 hz1 g1 o1 pm => ?_)
  have hv : ∀ v ∈ vs, ∃ (x : Str) (t : Tok), v = Value.str x t := fun v hv => by
    obtain ⟨e, h1, rfl⟩ := List.mem_map.mp (pm.mem_iff.mp hv)
    obtain ⟨⟨k, h2, _⟩, _⟩ := he e h1
    obtain ⟨tk, e1⟩ := Value.isStrOf_shape (x := k) (v := e.2) h2
    exact ⟨k, tk, e1⟩
  obtain ⟨ys, hys⟩ := texts_of hv
  have ety := vals_tx hys
  have hlen : ys.length = (ddK xs).length := by
    rw [ety, List.length_map, pm.length_eq, List.length_map, Array.length_toList, hz]
  have hperm : ys.Perm (ddK xs) := perm_few (ddK_all xs).1 (fun x hx => by
    obtain ⟨e, h1, h2⟩ := (hm x).1 hx
    obtain ⟨tk, e1⟩ := Value.isStrOf_shape (x := x) (v := e.2) h2
    rw [ety]
    exact List.mem_map.mpr ⟨e.2, pm.mem_iff.mpr (List.mem_map.mpr ⟨e, h1, rfl⟩), by rw [e1]; rfl⟩) hlen
  obtain ⟨al, so⟩ := hal ys hperm
  have hl4 : ys.length ≤ 4000 := by
    have := (ddK_all xs).2.1
    omega
  have hl5 : vs.length = ys.length := by rw [ety, List.length_map]
  have evp : (ys.map txP).map (·.1) = ys.map V.str := by rw [List.map_map]; rfl
  have evp2 : (ys.map txP).map (·.2) = ys.map PyData.str := by rw [List.map_map]; rfl
  have rv : Vals ((ys.map txP).map (·.1)) vs := by rw [evp]; exact hys
  refine wpAny_bind (wpAny_newList ?_ (by rw [hl5, sizeLine_eq]; omega))
  have hoL : (s1.heap.push (seqObj "list" vs.toArray 0)).get? s1.heap.objs.size = some (seqObj "list" vs.toArray 0) := Heap.get?_push_size _ rfl
  have er := each_reads I (ps := ys.map txP) (fun p hp => by
    obtain ⟨y, _, rfl⟩ := List.mem_map.mp hp
    exact .str y) rv
  have er' : EachIs (fun v (p : VP) => ∃ as, Reads (sortingHeap (s1.heap.push (seqObj "list" vs.toArray 0)) s1.heap.objs.size vs) v p.2 as) vs (ys.map txP) :=
    er.mono fun _ _ ⟨as, r⟩ => ⟨as, PyProof.Rows.Reads.keeps (fun b o hb => sortingHeap_old (Nat.ne_of_lt (Heap.lt_size (k1 b o hb))) (Heap.get?_push_of_some _ (k1 b o hb))) r⟩
  have SA := SortsAt.data (prog := X.prog) (w := X.w) (A := X.A.in1.in1) (s := { s1 with heap := sortingHeap (s1.heap.push (seqObj "list" vs.toArray 0)) s1.heap.objs.size vs }) (each_map (R := fun v d => ∃ as, Reads (sortingHeap (s1.heap.push (seqObj "list" vs.toArray 0)) s1.heap.objs.size vs) v d as) (fun p : VP => p.2) er') (by rw [evp2]; exact al) (by rw [evp2]; exact so)
    (fun d hdm => by
      rw [evp2] at hdm
      obtain ⟨y, _, rfl⟩ := List.mem_map.mp hdm
      show X.A.units + 1 + 1 + (PyData.str y).depth < cLine
      have : (PyData.str y).depth ≤ 1 := by simp [PyData.depth]
      omega)
  have hout := sortVals_data (R := fun v (p : VP) => RelV p.1 v) false (each_vals rv) er' (by rw [evp2]; exact al)
  obtain ⟨e', he'⟩ := PyProof.Rows.sortedHeap_at (vs := vs) (out := (sortVals (dataKind (sortingHeap (s1.heap.push (seqObj "list" vs.toArray 0)) s1.heap.objs.size vs) ((ys.map txP).map (·.2))) false vs vs).toArray) hoL
  refine wpAny_bind (wpAny_holding (wpAny_call_entry PyProof.Rows.slot_list_sort ⟨_, hoL, rfl⟩ PyProof.Rows.entry_list_sort
    (list_sort_vals (A := X.A.in1.in1) (s := { s1 with heap := s1.heap.push (seqObj "list" vs.toArray 0) }) hoL SA (by rw [hl5, sizeLine_eq]; omega) ⟨_, rfl, ?_⟩) (PyProof.Rows.args_list_sort _)))
  have hold : ∀ (out : Array Value) b u, s.heap.get? b = some u → (PyProof.Rows.sortedHeap (s1.heap.push (seqObj "list" vs.toArray 0)) s1.heap.objs.size vs out).get? b = some u := fun out b u e => by
    have e2 := k1 b u e
    have hb := Heap.lt_size e2
    rw [PyProof.Rows.sortedHeap_old (Nat.ne_of_lt hb) (by rw [size_push']; exact Nat.lt_succ_of_lt hb)]
    exact Heap.get?_push_of_some _ e2
  have hn : H s1.heap.objs.size = none := I.hok.fresh hz1
  have fin : ∀ (HH : Heap) (out : List Value) (c : Nat), (∀ b u, s.heap.get? b = some u → HH.get? b = some u) → HH.get? s1.heap.objs.size = some (seqObj "list" out.toArray c) → EachIs (fun v (p : VP) => RelV p.1 v) out ((ys.map txP).mergeSort (dataLe false (·.2))) → R (.ref s1.heap.objs.size) { s1 with heap := HH } := fun HH out c hk2 hat hvo => by
    have z := I.call (h' := HH) (g' := s1.gens) (t' := s1.toks) (d' := s1.drawn) (H' := upd H s1.heap.objs.size (.lst (((ys.map txP).mergeSort (dataLe false (·.2))).map (·.1)))) (ch := []) (Un.laid hk2 hz1 hn) (I.hok.laid hk2 hz1 ⟨by rw [List.length_map, List.length_mergeSort, List.length_map, sizeLine_eq]; omega, out, c, vals_each hvo, hat⟩) (by rw [g1]; exact I.bare) (fun _ z => nomatch z)
    refine hR ys s1.heap.objs.size _ hperm hn ?_
    have es : ({ s1 with heap := HH } : Shared) = { s with heap := HH, gens := s1.gens, drawn := s1.drawn, toks := s1.toks } := by
      obtain ⟨_, _, _, _, _⟩ := s1
      obtain ⟨_, _, _, _, _⟩ := s
      cases o1
      rfl
    rw [es]
    exact z
  exact wpAny_pure ⟨_, rfl, fin _ _ _ (hold _) he' hout⟩
theorem pe_sortSetS {a : Expr} {ta : TE} {p p2 q pos : Pos} (hg : Gl X "sorted") (hm : X.mg "sorted" = none) (hg2 : Gl X "set") (hm2 : X.mg "set" = none) (ha : PE X a ta) (hc : X.calm = true) (hu : X.A.units + 65 < cLine)
    (na : starEach [a] X.env = (false, eval a X.env) :: starEach [] X.env) : PE X (.Call (.Name "sorted" p) [.Call (.Name "set" p2) [a] [] q] [] pos) (tSortSetS X.K ta) := by
  refine ⟨fun pins s σ H Q I h => ?_⟩
  refine Call_ (ld_blt I hg hm boot_sorted ?_)
  refine PyProof.Rows.callWith_builtin1 (PyProof.Rows.args_cons ?_ rfl) rfl rfl
  refine Call_ (ld_blt I hg2 hm2 boot_set ?_)
  refine PyProof.Rows.callWith_type1 (PyProof.Rows.args_cons (thn (ha.run pins s σ H _ I h) fun v s1 ⟨x, H1, I1, r1, q1⟩ => PyProof.Rows.args_nil ?_) na) na rfl
  obtain ⟨l, xs, rfl, hq, hl, q1⟩ := q1
  cases r1
  obtain ⟨its, r, pl, hz⟩ := I1.list hq
  have hil : its.length = xs.length := by have := r.length; rw [List.length_map] at this; exact this.symm
  refine call_set_listL (knd := strKind X.prog X.w) xs (I1.ok.hd hc) pl.isList (by rw [List.size_toArray]; exact hil) (fun i v hv => ?_) (by unfold scanBound; omega) fun h' tk hS hk => ?_
  · have hv : its[i]? = some v := by simpa using hv
    have ety := vals_tx r
    have hi : i < its.length := (List.getElem?_eq_some_iff.mp hv).1
    have hx : xs[i]? = some (txOf v) := by rw [ety, List.getElem?_map, hv]; rfl
    obtain ⟨t, e⟩ : ∃ t, v = Value.str (txOf v) t := by
      have key : ∀ {xs : List Str} {us : List Value}, Vals (xs.map V.str) us → ∀ u ∈ us, ∃ t, u = Value.str (txOf u) t := fun {xs} => by
        induction xs with
        | nil => intro us h u hu; cases h; cases hu
        | cons y xs ih =>
          intro us h u hu
          cases h with
          | cons r t =>
            rcases List.mem_cons.mp hu with rfl | hu
            · obtain ⟨tk, rfl⟩ := r
              exact ⟨tk, rfl⟩
            · exact ih t u hu
      exact key r v (List.mem_of_getElem? hv)
    refine ⟨txOf v, hx, ?_, ?_⟩
    · rw [e]
      exact strKind_is _ _ _ _
    · rw [e]
      rfl
  refine PyProof.Rows.args_nil ?_
  have I2 : Inv X pins σ H1 { s1 with heap := h', toks := tk } := I1.kept hk
  refine sortSetS_run (s := { s1 with heap := h', toks := tk }) I2 hc hu hS hl (fun ys hp => ⟨(q1 ys hp).1, (q1 ys hp).2.1⟩) fun ys p s' hp hn J => ?_
  rcases (q1 ys hp).2.2 p hn with z | ⟨a', u, e1, ha', mu, z⟩
  · exact ⟨.ref p, _, J, rfl, z⟩
  · obtain ⟨od', J4⟩ := J.lock ha' mu
    exact ⟨.ref p, _, J4, rfl, z od'⟩
end
end DL

namespace DL
open PySem PySem.Spec PyProof.Rows L2 PySem.W
section
variable {cl : Cl} {X : Cx} {E : XK}
def sLe (a b : Str) : Bool := decide (a.cps.toList ≤ b.cps.toList)
def ssrt (xs : List Str) : List Str := (ddK xs).mergeSort sLe
theorem str_ext {a b : Str} (h : a.cps.toList = b.cps.toList) : a = b := by
  obtain ⟨x⟩ := a
  obtain ⟨y⟩ := b
  have : x = y := Array.toList_inj.mp h
  rw [this]
theorem sLe_iff {a b : Str} : sLe a b = true ↔ a.cps.toList ≤ b.cps.toList := by simp [sLe]
theorem sLe_trans (a b c : Str) (h1 : sLe a b = true) (h2 : sLe b c = true) : sLe a c = true := sLe_iff.mpr (List.le_trans (sLe_iff.mp h1) (sLe_iff.mp h2))
theorem sLe_total (a b : Str) : (sLe a b || sLe b a) = true := by
  rw [Bool.or_eq_true, sLe_iff, sLe_iff]
  exact List.le_total a.cps.toList b.cps.toList
theorem sLe_sorted (l : List Str) : (l.mergeSort sLe).Pairwise fun a b => sLe a b = true :=
  List.pairwise_mergeSort sLe_trans sLe_total l
theorem ssrt_perm {a b : List Str} (h : a.Perm b) : a.mergeSort sLe = b.mergeSort sLe := by
  have h1 : (a.mergeSort sLe).Perm (b.mergeSort sLe) := ((List.mergeSort_perm a _).trans h).trans (List.mergeSort_perm b _).symm
  refine List.Perm.eq_of_pairwise (le := fun a b => sLe a b = true) (fun x y _ _ h2 h3 => ?_) (sLe_sorted a) (sLe_sorted b) h1
  exact str_ext (List.le_antisymm (sLe_iff.mp h2) (sLe_iff.mp h3))
theorem txP_sort (ys : List Str) : ((ys.map txP).mergeSort (dataLe false (·.2))).map (·.1) = (ys.mergeSort sLe).map V.str := by
  have e : sLe = dataLe false (fun y : Str => PyData.str y) := by
    rw [dataLe_str (fun y : Str => y)]
    rfl
  rw [e, ← sort_maps (r := dataLe false fun y : Str => PyData.str y) (s := dataLe false (·.2)) (fun y : Str => txP y) (fun _ _ _ _ => rfl), List.map_map]
  rfl
def dSortSetS (f : Sl → Sto → Res D) : Sl → Sto → Res D := fun sd S => (f sd S).bind fun d S1 => match lsD d S1 with
  | some ds => match strsD ds with
    | some xs => if xs.length ≤ 4000 then .ok (.frl ((ssrt xs).map .str)) S1 else .stuck
    | none => .stuck
  | none => .stuck
theorem strs_rvs {K : PySem.W.Frag} {m : List Addr} {H : Hp} : ∀ {xs : List Str}, RVs K m H (xs.map D.str) (xs.map V.str)
  | [] => rfl
  | x :: xs => ⟨_, _, rfl, rfl, strs_rvs⟩
theorem de_sortSetS {a : Expr} {fa : Sl → Sto → Res D} {p p2 q pos : Pos} (hu : X.A.units + 65 < cLine) (hc : X.calm = true) (hg : Gl X "sorted") (hm : X.mg "sorted" = none) (hg2 : Gl X "set") (hm2 : X.mg "set" = none) (ha : DE cl X E a fa)
    (na : starEach [a] X.env = (false, eval a X.env) :: starEach [] X.env := by rfl) : DE cl X E (.Call (.Name "sorted" p) [.Call (.Name "set" p2) [a] [] q] [] pos) (dSortSetS fa) := by
  obtain ⟨t, pp, ha⟩ := ha
  refine ⟨_, pe_sortSetS hg hm hg2 hm2 pp hc hu na, fun m S H sd σ Q rs rl h => ?_⟩
  refine ha m S H sd σ _ rs rl (Post.bind h fun x S1 m1 vx H1 x1 k1 rs1 rx h1 => ?_)
  split at h1
  · rename_i ds e1
    obtain ⟨l, ws, rfl, hv, r1⟩ := ls_rv rs1 rx e1
    split at h1
    · rename_i xs e2
      have ew := strsD_rv r1 e2
      subst ew
      split at h1
      · rename_i hz
        refine ⟨l, xs, rfl, hv, hz, fun ys hp => ⟨PySem.W.AllAlike.of fun a b => rfl, .inr fun d hd => ?_, fun q' hq' => ?_⟩⟩
        · obtain ⟨y, _, rfl⟩ := List.mem_map.mp hd
          exact ⟨by simp, by simp⟩
        · rw [txP_sort, ssrt_perm hp]
          exact newFrl rs1 strs_rvs hq' h1
      · exact h1.elim
    · exact h1.elim
  · exact h1.elim
end
end DL

namespace DL
open PySem PySem.Spec PyProof.Rows L2 PySem.W
section
variable {cl : Cl} {X : Cx} {E : XK}
theorem list_mulW (l : Addr) (items : Array Value) (n : Nat) (dd : Option Addr) (sl : Array (Option Value)) (x : Int) (u : Tok) (hc0 : ¬(!Builtin.List.listFitsIndex x) = true) (hc1 : ¬items.size * x.toNat > (2 ^ 63 - 1) / 8) (hc2 : ¬Builtin.List.listTooLong (items.size * x.toNat) = true) :
    Meets (Builtin.«list.__mul__» ⟨[.ref l, .int x u], []⟩) (fun _ R s => s.heap.get? l = some { cls := .type "list", dict := dd, data := .seq items n, slots := sl } ∧ R (.ok (.ret (Value.ref s.heap.objs.size))) { s with heap := s.heap.push { cls := Value.type "list", data := Data.seq (List.foldl (fun x1 x2 => x1 ++ x2) #[] (List.replicate (if items.isEmpty = true then 0 else x.toNat) items)) }, toks := s.toks }) :=
  .of_wp fun prog w A R s h => by
    obtain ⟨hp, g, d, tk, os⟩ := s; obtain ⟨hl, h⟩ := h
    have hsz := AutoListH.joined_fits hc2
    wp_walk; refine wpAny_ite_false (decide_eq_false (Nat.not_lt.mpr hsz)) ?_; wp_walk; exact ⟨_, rfl, h⟩
theorem int_rmulW (a : Int) (t : Tok) (l : Addr) (items : Array Value) (n : Nat) (dd : Option Addr) (sl : Array (Option Value)) :
    Meets (Builtin.«int.__rmul__» ⟨[.int a t, .ref l], []⟩) (fun _ R s => s.heap.get? l = some { cls := .type "list", dict := dd, data := .seq items n, slots := sl } ∧ R (.ok (.ret Value.notImplemented)) s) :=
  .of_wp fun prog w A R s h => by obtain ⟨hp, g, d, tk, os⟩ := s; obtain ⟨hl, h⟩ := h; wp_walk; exact ⟨_, rfl, h⟩
theorem op_repL : OpR X (binaryOp .Mult) (fun x y H Q => ∃ l k xs, x = .ref l ∧ y = .int k ∧ SqL X.K H l xs ∧ -(2 ^ 63) ≤ k ∧ k < 2 ^ 63 ∧ xs.length * k.toNat ≤ sizeLine ∧ ∀ p, H p = none → Q (.ref p) (upd H p (.lst (List.replicate k.toNat xs).flatten))) := by
  intro pins s σ H x y v u Q I rx ry h
  obtain ⟨l, k, xs, rfl, rfl, hH, h1, h2, hz, q⟩ := h
  cases rx
  obtain ⟨t, rfl⟩ := ry
  obtain ⟨its, r, ⟨⟨cls, dd, data, sl⟩, n, ho, hc, hdn, hdt⟩, hlen0⟩ := I.list hH
  simp only at hc hdt
  subst hc hdt
  have hl := r.length
  have hlen : its.toArray.size * k.toNat ≤ sizeLine := by rw [List.size_toArray, ← hl]; exact hz
  have hcap : ¬ its.toArray.size * k.toNat > (2 ^ 63 - 1) / 8 := by
    have : (sizeLine : Nat) ≤ (2 ^ 63 - 1) / 8 := by decide
    omega
  have hfit : ¬ (!Builtin.List.listFitsIndex k) = true := by
    rw [fitsIndex_both h1 h2]
    exact Bool.false_ne_true
  have hlong : ¬ Builtin.List.listTooLong (its.toArray.size * k.toNat) = true := by
    rw [notLongL hlen]
    exact Bool.false_ne_true
  have hnew : List.foldl (fun x1 x2 => x1 ++ x2) #[] (List.replicate (if its.toArray.isEmpty = true then 0 else k.toNat) its.toArray) = (List.replicate k.toNat its).flatten.toArray := by
    have f0 : ∀ m : Nat, List.foldl (fun x1 x2 => x1 ++ x2) #[] (List.replicate m its.toArray) = (List.replicate m its).flatten.toArray := fun m => by
      have := foldl_rep its m []
      rw [List.nil_append] at this
      exact this
    rw [f0]
    cases its with
    | nil => simp
    | cons a r' => rw [if_neg (by simp)]
  refine wpAny_binaryOp_repeat_ref (T := "list") (U := "int") (by decide) ⟨_, ho, rfl⟩ (fun s' => typeIs_int s' k t) noFill_list_mul PySem.F.fills_int_mul PySem.F.slot_int_rmul repeat_list PySem.F.slot_int_index.lookup
    (call_meets PySem.F.slot_int_rmul (typeIs_int s k t) PySem.F.entry_int_rmul (PySem.F.args_int_rmul_2 _ _) (int_rmulW k t l its.toArray n dd sl)
      ⟨ho, rfl, ⟨_, ho, rfl⟩, call_meets PySem.F.slot_list_mul ⟨_, ho, rfl⟩ PySem.F.entry_list_mul (PySem.F.args_list_mul_2 _ _) (list_mulW l its.toArray n dd sl k t hfit hcap hlong) ⟨ho, ?_⟩⟩)
  rw [hnew]
  exact ⟨.ref _, _, I.lnew (t' := s.toks) (r.rep k.toNat) (by rw [PyProof.Rows.lm_len_rep_flat, Nat.mul_comm]; exact hz), rfl, q _ I.fresh⟩
noncomputable def mulF : D → D → Sto → Res D
  | d, .int n, S => match lsD d S with
    | some xs => if bnd 63 n = true ∧ xs.length * n.toNat ≤ sizeLine then .ok (.frl (List.replicate n.toNat xs).flatten) S else .stuck
    | none => .stuck
  | _, _, _ => .stuck
theorem op_mulF : OpD cl X (binaryOp .Mult) mulF := by
  refine ⟨_, opr_frz op_repL, fun E m S H x y vx vy Q rs rx ry h => ?_⟩
  unfold mulF at h
  split at h
  · rename_i n
    split at h
    · rename_i xs e1
      split at h
      · rename_i hz
        obtain ⟨p, vs, rfl, hv, r1⟩ := ls_rv rs rx e1
        cases ry
        exact ⟨p, n, vs, rfl, rfl, hv, (bnd_ok hz.1).1, (bnd_ok hz.1).2, by rw [← r1.length]; exact hz.2, fun p' hp => newFrl rs (r1.rep n.toNat) hp h⟩
      · exact h.elim
    · exact h.elim
  · exact h.elim
end
end DL

namespace DL
open PySem PySem.Spec PyProof.Rows L2 PySem.W
section
variable {cl : Cl} {X : Cx} {E : XK} {pins : List (Addr × Obj)} {σ : L2.St} {H : Hp} {s : Shared}
def NAtF (X : Cx) (H : Hp) (a : Addr) (xs : List (NestedKey × Addr × Value)) : Prop :=
  ∃ es ep o, H a = some (.frz o (RawO a es ep)) ∧ es.toList = xs.map (entN X) ∧ (xs.map (·.1)).Nodup ∧ (a == sysModules) = false ∧ ∀ x ∈ xs, NKey X.K H x.1 (.ref x.2.1) ∧ x.1.depth ≤ 8
theorem NAtF.dict {a : Addr} {xs : List (NestedKey × Addr × Value)} (I : Inv X pins σ H s) (h : NAtF X H a xs) : s.heap.DictOfH (nestedKind X.prog X.w) a xs := by
  obtain ⟨es, ep, od, e, he, hn, _, hk⟩ := h
  obtain ⟨_, ⟨o, ho, hc, hd⟩, _, _⟩ := (show ObjOk X.prog X.w H s.heap a (.frz od (RawO a es ep)) from I.hok a _ e)
  exact ⟨o, es, ep, ho, hc, hd, he, fun x hx => ⟨NKey.is I _ (hk x hx).1 rfl, (hk x hx).2⟩, hn⟩
theorem NAtF.sys {a : Addr} {xs : List (NestedKey × Addr × Value)} (h : NAtF X H a xs) : (a == sysModules) = false := let ⟨_, _, _, _, _, _, hs, _⟩ := h; hs
end
end DL

namespace DL
open PySem PySem.Spec PyProof.Rows L2 PySem.W
end DL

namespace DL
open PySem PySem.Spec PyProof.Rows L2 PySem.W
section
variable {cl : Cl} {X : Cx} {E : XK}
end
end DL

namespace DL
open PySem PySem.Spec PyProof.Rows L2
def gg : Nat → Nat
  | 0 => 0
  | k + 1 => gg k * 5 + 1
theorem gg_mod (m : Nat) : ∀ k, lcgN m k = gg k % (m + 1)
  | 0 => by rw [gg, Nat.zero_mod]; rfl
  | k + 1 => by
    show (lcgN m k * 5 + 1) % (m + 1) = (gg k * 5 + 1) % (m + 1)
    rw [gg_mod m k, Nat.add_mod, Nat.mul_mod, Nat.mod_mod, ← Nat.mul_mod, ← Nat.add_mod]
theorem gg_pow : ∀ k, 4 * gg k + 1 = 5 ^ k
  | 0 => rfl
  | k + 1 => by
    have := gg_pow k
    rw [Nat.pow_succ, gg]
    omega
theorem gg_add (a b : Nat) : gg (a + b) = gg a + (4 * gg a + 1) * gg b := by
  have h1 := gg_pow (a + b)
  have h2 := gg_pow a
  have h3 := gg_pow b
  rw [Nat.pow_add, ← h2, ← h3] at h1
  have e : (4 * gg a + 1) * (4 * gg b + 1) = 4 * ((4 * gg a + 1) * gg b) + (4 * gg a + 1) := by rw [Nat.mul_add, Nat.mul_one, Nat.mul_left_comm]
  rw [e] at h1
  omega
theorem gg_two : ∀ e, ∃ q, gg (2 ^ e) = 2 ^ e * (2 * q + 1)
  | 0 => ⟨0, rfl⟩
  | e + 1 => by
    obtain ⟨q, h⟩ := gg_two e
    have h1 : gg (2 ^ (e + 1)) = gg (2 ^ e) * (4 * gg (2 ^ e) + 2) := by
      rw [Nat.pow_succ, Nat.mul_two, gg_add]
      generalize gg (2 ^ e) = x
      rw [Nat.mul_add, Nat.add_mul, Nat.mul_comm x (4 * x)]
      omega
    refine ⟨q + 2 ^ e * (2 * q + 1) * (2 * q + 1), ?_⟩
    rw [h1, h, Nat.pow_succ]
    generalize 2 ^ e = p
    grind
theorem gg_all : ∀ e j, j < 2 ^ e → ∃ b, b < 2 ^ e ∧ gg b % 2 ^ e = j
  | 0, j, h => ⟨0, Nat.one_pos, by
    have : j = 0 := by rw [Nat.pow_zero] at h; omega
    rw [this, Nat.pow_zero, Nat.mod_one]⟩
  | e + 1, j, h => by
    have hp : 0 < 2 ^ e := Nat.pow_pos (by decide)
    obtain ⟨b, hb, eb⟩ := gg_all e (j % 2 ^ e) (Nat.mod_lt _ hp)
    obtain ⟨q, hq⟩ := gg_two e
    have hs : (2 : Nat) ^ (e + 1) = 2 ^ e + 2 ^ e := by rw [Nat.pow_succ, Nat.mul_two]
    -- gg b and j are alike up to 2 ^ e
    have d1 := Nat.div_add_mod (gg b) (2 ^ e)
    have d2 := Nat.div_add_mod j (2 ^ e)
    rw [eb] at d1
    have hj : j / 2 ^ e < 2 := (Nat.div_lt_iff_lt_mul hp).mpr (by omega)
    have key : gg (2 ^ e + b) = gg b + 2 ^ e + 2 ^ (e + 1) * (q + 2 * (2 * q + 1) * gg b) := by
      rw [gg_add, hq, hs]
      generalize 2 ^ e = p
      generalize gg b = x
      grind
    have m1 : gg b % 2 ^ (e + 1) = (2 ^ e * (gg b / 2 ^ e % 2) + j % 2 ^ e) := by
      rw [Nat.pow_succ, Nat.mod_mul, eb, Nat.add_comm]
    have m2 : gg (2 ^ e + b) % 2 ^ (e + 1) = (2 ^ e * ((gg b / 2 ^ e + 1) % 2) + j % 2 ^ e) := by
      rw [key, Nat.add_mul_mod_self_left, Nat.pow_succ, Nat.mod_mul, Nat.add_mod_right, eb, Nat.add_div_right _ hp, Nat.add_comm]
    rcases (by omega : j / 2 ^ e % 2 = gg b / 2 ^ e % 2 ∨ j / 2 ^ e % 2 = (gg b / 2 ^ e + 1) % 2) with z | z
    · refine ⟨b, by omega, ?_⟩
      rw [m1, ← z, Nat.mod_eq_of_lt hj]
      exact d2
    · refine ⟨2 ^ e + b, by omega, ?_⟩
      rw [m2, ← z, Nat.mod_eq_of_lt hj]
      exact d2
def NMask (m : Nat) : Prop := ∃ e, m + 1 = 2 ^ e ∧ 3 ≤ e ∧ e ≤ 17
theorem NMask.odd {m : Nat} (h : NMask m) : m % 2 = 1 := by
  obtain ⟨e, h, he, _⟩ := h
  obtain ⟨k, rfl⟩ : ∃ k, e = k + 1 := ⟨e - 1, by omega⟩
  rw [Nat.pow_succ] at h
  omega
theorem n_all {m : Nat} (hm : NMask m) {j : Nat} (hj : j ≤ m) : ∃ b, b ≤ m ∧ lcgN m b = j := by
  obtain ⟨e, h, _, _⟩ := hm
  obtain ⟨b, h1, h2⟩ := gg_all e j (by omega)
  exact ⟨b, by omega, by rw [gg_mod, h]; exact h2⟩
theorem n_round {m : Nat} (hm : NMask m) : lcgN m (m + 1) = 0 := by
  obtain ⟨e, h, _, _⟩ := hm
  obtain ⟨q, hq⟩ := gg_two e
  rw [gg_mod, h, hq, Nat.mul_mod_right]
theorem n_mod {m : Nat} (hm : NMask m) : ∀ k, lcgN m (m + 1 + k) = lcgN m k
  | 0 => n_round hm
  | k + 1 => congrArg (fun x => (x * 5 + 1) % (m + 1)) (n_mod hm k)
theorem n_from {m : Nat} (hm : NMask m) {i j : Nat} (hi : i ≤ m) (hj : j ≤ m) : ∃ k, k ≤ m ∧ lcgI m i k = j := by
  obtain ⟨a, ha, rfl⟩ := n_all hm hi
  obtain ⟨b, hb, rfl⟩ := n_all hm hj
  by_cases c : a ≤ b
  · exact ⟨b - a, by omega, by rw [lcgN_add, show a + (b - a) = b by omega]⟩
  · exact ⟨m + 1 + b - a, by omega, by rw [lcgN_add, show a + (m + 1 + b - a) = m + 1 + b by omega, n_mod hm]⟩
theorem nodup_all : ∀ (n : Nat) (l : List Nat), l.length ≤ n → (∀ j, j < n → j ∈ l) → l.Nodup := fun n l hl h => by
  have p : l.length = n := by
    have := nat_nodup_len (List.range n) l List.nodup_range fun x hx => h x (List.mem_range.mp hx)
    rw [List.length_range] at this
    omega
  exact (perm_range n l p h).nodup_iff.mpr List.nodup_range
theorem n_inj {m : Nat} (hm : NMask m) {i : Nat} (hi : i ≤ m) : ((List.range (m + 1)).map (lcgI m i)).Nodup := by
  refine nodup_all (m + 1) _ (by rw [List.length_map, List.length_range]; exact Nat.le_refl _) fun j hj => ?_
  obtain ⟨k, hk, e⟩ := n_from hm hi (Nat.le_of_lt_succ hj)
  exact List.mem_map.mpr ⟨k, List.mem_range.mpr (by omega), e⟩
theorem n_free {m : Nat} (hm : NMask m) (h : Int) (l : List Nat) (hl : l.length ≤ m) : ∃ n, n ≤ 12 + l.length ∧ runI m (SetTable.bits h) n ∉ l := by
  rcases Classical.em (∃ n, n ≤ 12 + l.length ∧ runI m (SetTable.bits h) n ∉ l) with c | c
  · exact c
  · exfalso
    have nd : ((List.range (l.length + 1)).map (lcgI m (runI m (SetTable.bits h) 12))).Nodup := by
      have := n_inj hm (runI_le m (SetTable.bits h) 12)
      refine List.Nodup.sublist (List.Sublist.map _ ?_) this
      exact List.range_sublist.mpr (by omega)
    have := nat_nodup_len _ l nd fun x hx => by
      obtain ⟨k, hk, rfl⟩ := List.mem_map.mp hx
      have hk := List.mem_range.mp hk
      rcases Classical.em (lcgI m (runI m (SetTable.bits h) 12) k ∈ l) with d | d
      · exact d
      · exact absurd ⟨12 + k, by omega, by rw [runI_tail (bits_lt h)]; exact d⟩ c
    rw [List.length_map, List.length_range] at this
    omega
theorem n_first {m : Nat} (hm : NMask m) (h : Int) (l : List Nat) (hl : l.length ≤ m) : ∃ K, K ≤ 10 * (12 + l.length) ∧ way m h K ∉ l ∧ ∀ k, k < K → way m h k ∈ l := by
  obtain ⟨n, hn, e⟩ := n_free hm h l hl
  obtain ⟨k, hk, e2⟩ := run_nth m (SetTable.bits h) n
  have hw : way m h k ∉ l := by
    show (nth m (runAt m (SetTable.bits h % (m + 1)) (SetTable.bits h)) k).j ∉ l
    rw [e2]
    exact e
  obtain ⟨K, h1, h2, h3⟩ := st_least (p := fun k => way m h k ∉ l) k hw
  exact ⟨K, by omega, h2, fun k' hk' => Classical.not_not.mp (h3 k' hk')⟩
theorem n_way {m : Nat} {h : Int} {k : Nat} : way m h k ≤ m := by
  have r := runEnd_bd (m := m) (i := SetTable.bits h % (m + 1)) (Nat.le_of_lt_succ (Nat.mod_lt _ (Nat.succ_pos _)))
  have q := nth_in (m := m) k (runAt m (SetTable.bits h % (m + 1)) (SetTable.bits h)) (by unfold runAt; dsimp only; omega)
  unfold way
  omega
end DL

namespace DL
open PySem PySem.Spec PyProof.Rows L2
structure NTab (t : SetTable) (hs : List Int) : Prop where
  ris : Ris t.place.toList
  dm : t.dummies = #[]
  sz : t.place.toList.length = hs.length
  mok : NMask t.mask
  bd : ∀ x ∈ t.place.toList, x ≤ t.mask
  reach : ∀ (i : Nat) (h : Int) (j : Nat), hs[i]? = some h → t.place.toList[i]? = some j → ∃ k, way t.mask h k = j ∧ ∀ k', k' < k → way t.mask h k' ∈ t.place.toList
theorem NTab.first {t : SetTable} {hs : List Int} (T : NTab t hs) (hl : hs.length ≤ t.mask) (h : Int) : ∃ K, K ≤ 10 * (12 + hs.length) ∧ way t.mask h K ∉ t.place.toList ∧ ∀ k, k < K → way t.mask h k ∈ t.place.toList := by
  have := n_first T.mok h t.place.toList (by rw [T.sz]; exact hl)
  rwa [T.sz] at this
theorem NTab.put {t : SetTable} {hs : List Int} (T : NTab t hs) {h : Int} {K p : Nat} (hp : SetTable.below t.place (way t.mask h K) = p) (hK : way t.mask h K ∉ t.place.toList) (hb : ∀ k, k < K → way t.mask h k ∈ t.place.toList) :
    p ≤ hs.length ∧ NTab (t.put (way t.mask h K)).1 (hs.take p ++ h :: hs.drop p) := by
  subst hp
  have hjm : way t.mask h K ≤ t.mask := n_way
  obtain ⟨j, hj⟩ : ∃ j, j = way t.mask h K := ⟨_, rfl⟩
  rw [← hj] at hK hjm ⊢
  have c1 := (below_cut T.ris j).1
  have hpl : SetTable.below t.place j ≤ t.place.toList.length := by rw [Array.length_toList]; exact c1
  have hph : SetTable.below t.place j ≤ hs.length := by rw [← T.sz]; exact hpl
  have hnp : t.place[SetTable.below t.place j]? ≠ some j := fun e => hK (List.mem_of_getElem? (by rw [Array.getElem?_toList]; exact e))
  have hpp := put_place t j
  have up : ∀ {x : Nat}, x ∈ t.place.toList → x ∈ (t.put j).1.place.toList := fun {x} hx => by rw [hpp]; exact mem_ins.2 (.inr hx)
  refine ⟨hph, ris_insert T.ris hnp, put_dm T.dm j, ?_, T.mok, fun x hx => ?_, fun i h' j' h1 h2 => ?_⟩
  · rw [hpp, len_ins _ hpl, len_ins _ hph, T.sz]
  · rw [hpp] at hx
    rcases mem_ins.1 hx with rfl | z
    · exact hjm
    · exact T.bd x z
  · rw [tins_get hs hph] at h1
    rw [hpp, tins_get _ hpl] at h2
    show ∃ k, way t.mask h' k = j' ∧ ∀ k', k' < k → way t.mask h' k' ∈ (t.put j).1.place.toList
    have old : ∀ i', hs[i']? = some h' → t.place.toList[i']? = some j' → ∃ k, way t.mask h' k = j' ∧ ∀ k', k' < k → way t.mask h' k' ∈ (t.put j).1.place.toList := fun i' a b => by
      obtain ⟨k, e, z⟩ := T.reach i' h' j' a b
      exact ⟨k, e, fun k' hk' => up (z k' hk')⟩
    split at h1
    · rename_i c
      rw [if_pos c] at h2
      exact old i h1 h2
    · rename_i c
      rw [if_neg c] at h2
      split at h1
      · rename_i d
        rw [if_pos d] at h2
        injection h1 with h1
        injection h2 with h2
        subst h1; subst h2
        exact ⟨K, hj.symm, fun k' hk' => up (hb k' hk')⟩
      · rename_i d
        rw [if_neg d] at h2
        exact old (i - 1) h1 h2
theorem n_find {m : Nat} (hm : NMask m) (owner : Array (Option Nat)) (h : Int) {j : Nat} (hj : j ≤ m) (hf : oAt owner j = none) :
    ∃ K, SetTable.layClean.free m owner (SetTable.turns m) (SetTable.bits h % (m + 1)) (SetTable.bits h) = some (way m h K) ∧ oAt owner (way m h K) = none ∧ ∀ k, k < K → oAt owner (way m h k) ≠ none := by
  obtain ⟨k0, hk0, e0⟩ := n_from hm (runI_le m (SetTable.bits h) 12) hj
  have e : runI m (SetTable.bits h) (12 + k0) = j := by rw [runI_tail (bits_lt h)]; exact e0
  generalize hN : 12 + k0 = N at e
  have hw : way m h (L2.off m (SetTable.bits h % (m + 1)) (SetTable.bits h) N) = j := by
    unfold way
    rw [nth_off, itL_run]
    exact e
  obtain ⟨K, k1, k2, k3⟩ := st_least (p := fun k => oAt owner (way m h k) = none) (L2.off m (SetTable.bits h % (m + 1)) (SetTable.bits h) N) (by rw [hw]; exact hf)
  refine ⟨K, free_spec m owner (SetTable.turns m) N _ _ K (by unfold SetTable.turns; omega) k1 (fun k hk => ?_) ?_, k2, k3⟩
  · have q := k3 k hk
    cases z : oAt owner (nth m (runAt m (SetTable.bits h % (m + 1)) (SetTable.bits h)) k).j with
    | none => exact absurd z q
    | some _ => rfl
  · exact Option.isNone_iff_eq_none.mpr k2
theorem NOwn.step {m : Nat} (hm : NMask m) {done : List Int} {owner : Array (Option Nat)} (W : L2.Own m done owner) (hl : done.length ≤ m) (h : Int) :
    ∃ j, SetTable.layClean.free m owner (SetTable.turns m) (SetTable.bits h % (m + 1)) (SetTable.bits h) = some j ∧ L2.Own m (done ++ [h]) (owner.setIfInBounds j (some done.length)) := by
  obtain ⟨ps, hps, hin⟩ := W.ps
  obtain ⟨j0, h0, hn0⟩ := st_missing ps (m + 1) (by omega)
  have hj0 : oAt owner j0 = none := Classical.byContradiction fun z => hn0 (hin j0 (Nat.le_of_lt_succ h0) z)
  obtain ⟨K, e1, e2, e3⟩ := n_find hm owner h (Nat.le_of_lt_succ h0) hj0
  have hjm : way m h K ≤ m := n_way
  generalize hJ : way m h K = J at e1 e2 hjm
  have hjs : J < owner.size := by rw [W.sz]; exact Nat.lt_succ_of_le hjm
  have hself := oAt_set_self (some done.length) hjs
  have mono : ∀ {i : Nat}, oAt owner i ≠ none → oAt (owner.setIfInBounds J (some done.length)) i ≠ none := fun {i} hi => by
    by_cases c : i = J
    · rw [c, hself]
      nofun
    · rw [oAt_set_ne _ c]
      exact hi
  refine ⟨J, e1, by rw [Array.size_setIfInBounds]; exact W.sz, fun j k hj e => ?_, fun k hk => ?_, J :: ps, by simp [hps], fun j hj e => ?_⟩
  · by_cases c : j = J
    · subst c
      rw [hself] at e
      obtain rfl : done.length = k := Option.some.inj e
      exact ⟨h, K, by simp, hJ, fun k' hk' => mono (e3 k' hk')⟩
    · rw [oAt_set_ne _ c] at e
      obtain ⟨h', K', a1, a2, a3⟩ := W.at_ j k hj e
      exact ⟨h', K', by rw [List.getElem?_append_left (List.getElem?_eq_some_iff.mp a1).1]; exact a1, a2, fun k' hk' => mono (a3 k' hk')⟩
  · rw [List.length_append, List.length_singleton] at hk
    by_cases c : k < done.length
    · obtain ⟨j, hj, e⟩ := W.all k c
      refine ⟨j, hj, ?_⟩
      rw [oAt_set_ne _ (fun z => by rw [z, e2] at e; cases e)]
      exact e
    · obtain rfl : k = done.length := by omega
      exact ⟨J, hjm, hself⟩
  · by_cases c : j = J
    · rw [c]
      exact List.mem_cons_self
    · rw [oAt_set_ne _ c] at e
      exact List.mem_cons_of_mem _ (hin j hj e)
end DL

namespace DL
open PySem PySem.Spec PyProof.Rows L2
def NIs (h : Heap) (k : NestedKey) (a : Addr) : Prop := NestedIs h k (.ref a) ∧ k.depth ≤ 8
section
variable {P : Program} {w : World} {A : Around} {E : Value → Shared → Prop} {s : Shared}
mutual
theorem ofA_key : ∀ (k : NestedKey) (v : Value) (n : Nat) (A : Around) (Q : Bool → Shared → Prop), NestedIs s.heap k v → k.depth ≤ n → Q false s → wpAny (model P w) A (ofAClassStatement n v) Q E s
  | .none, _, n, A, Q, x, _, h => by cases x; cases n <;> exact wpAny_pure h
  | .num i, _, n, A, Q, x, _, h => by cases x <;> cases n <;> exact wpAny_pure h
  | .text y, _, n, A, Q, x, _, h => by cases x; cases n <;> exact wpAny_pure h
  | .tup ks, _, 0, A, Q, x, hn, h => by simp [NestedKey.depth] at hn
  | .tup ks, _, n + 1, A, Q, x, hn, h => by
    cases x with
    | @tup a o vs m _ ho hc hd hk =>
      simp only [NestedKey.depth] at hn
      unfold ofAClassStatement
      refine wpAny_bind (wpAny_typeOf (T := "tuple") ⟨o, ho, hc⟩ ?_)
      dsimp only
      have e : (("tuple" : String) == "tuple") = true := by decide
      simp only [e, if_true, Bool.not_true, Bool.false_eq_true, if_false]
      refine wpAny_bind (wpAny_pure ?_)
      simp only [Bool.not_true, Bool.false_eq_true, if_false]
      show wpAny _ _ (seqItems? (.ref a) >>= _) _ _ s
      refine wpAny_bind (wpAny_seqItems ho hd ?_)
      dsimp only
      refine wpAny_bind ?_
      show wpAny _ _ (forIn vs _ _) _ _ s
      rw [← Array.forIn_toList]
      refine wpAny_forIn_list _ (fun rest r s' => r.1 = none ∧ s' = s ∧ ∀ v ∈ rest, ∀ (A : Around) (Q : Bool → Shared → Prop), Q false s → wpAny (model P w) A (ofAClassStatement n v) Q E s) _ ?_ ?_ _ _ ⟨rfl, rfl, fun v hv A Q hq => ofA_keys ks vs.toList n A Q v hv hk (by omega) hq⟩
      · rintro v rest r s' ⟨hr, rfl, hall⟩
        refine wpAny_bind (hall v List.mem_cons_self _ _ ?_)
        simp only [Bool.false_eq_true, if_false]
        exact wpAny_pure ⟨rfl, rfl, fun u hu => hall u (List.mem_cons_of_mem _ hu)⟩
      · rintro ⟨r1, r2⟩ s' ⟨hr, rfl, _⟩
        simp only at hr
        subst hr
        exact wpAny_pure h
theorem ofA_keys : ∀ (ks : List NestedKey) (vs : List Value) (n : Nat) (A : Around) (Q : Bool → Shared → Prop), ∀ v ∈ vs, NestedAll s.heap ks vs → NestedKey.depthAll ks ≤ n → Q false s → wpAny (model P w) A (ofAClassStatement n v) Q E s
  | [], _, n, A, Q, v, hv, x, _, _ => by cases x; cases hv
  | k :: ks, _, n, A, Q, v, hv, x, hn, h => by
    cases x with
    | cons x1 x2 =>
      simp only [NestedKey.depthAll] at hn
      rcases List.mem_cons.mp hv with e | hv
      · rw [e]; exact ofA_key k _ n A Q x1 (by omega) h
      · exact ofA_keys ks _ n A Q v hv x2 (by omega) h
end
mutual
theorem hashBy_key : ∀ (k : NestedKey) (v : Value) (n : Nat) (A : Around) (Q : Bool → Shared → Prop), NestedIs s.heap k v → k.depth ≤ n → (∀ b, Q b s) → wpAny (model P w) A (hashByValue n v) Q E s
  | .none, _, n, A, Q, x, _, h => by cases x; cases n <;> exact wpAny_pure (h _)
  | .num i, _, n, A, Q, x, _, h => by cases x <;> cases n <;> exact wpAny_pure (h _)
  | .text y, _, n, A, Q, x, _, h => by cases x; cases n <;> exact wpAny_pure (h _)
  | .tup ks, _, 0, A, Q, x, hn, h => by simp [NestedKey.depth] at hn
  | .tup ks, _, n + 1, A, Q, x, hn, h => by
    cases x with
    | @tup a o vs m _ ho hc hd hk =>
      simp only [NestedKey.depth] at hn
      unfold hashByValue
      refine wpAny_bind (wpAny_specialOf (T := "tuple") ⟨o, ho, hc⟩ F.slot_tuple_hash.lookup ?_)
      show wpAny _ _ (seqItems? (.ref a) >>= _) _ _ s
      refine wpAny_bind (wpAny_seqItems ho hd ?_)
      refine wpAny_bind ?_
      show wpAny _ _ (forIn vs _ _) _ _ s
      rw [← Array.forIn_toList]
      refine wpAny_forIn_list _ (fun rest r s' => s' = s ∧ ∀ v ∈ rest, ∀ (A : Around) (Q : Bool → Shared → Prop), (∀ b, Q b s) → wpAny (model P w) A (hashByValue n v) Q E s) _ ?_ ?_ _ _ ⟨rfl, fun v hv A Q hq => hashBy_keys ks vs.toList n A Q v hv hk (by omega) hq⟩
      · rintro v rest r s' ⟨rfl, hall⟩
        refine wpAny_bind (hall v List.mem_cons_self _ _ fun b => ?_)
        cases b
        · exact wpAny_pure (wpAny_pure (h _))
        · exact wpAny_pure ⟨rfl, fun u hu => hall u (List.mem_cons_of_mem _ hu)⟩
      · rintro ⟨r1, r2⟩ s' ⟨rfl, _⟩
        cases r1 <;> exact wpAny_pure (h _)
theorem hashBy_keys : ∀ (ks : List NestedKey) (vs : List Value) (n : Nat) (A : Around) (Q : Bool → Shared → Prop), ∀ v ∈ vs, NestedAll s.heap ks vs → NestedKey.depthAll ks ≤ n → (∀ b, Q b s) → wpAny (model P w) A (hashByValue n v) Q E s
  | [], _, n, A, Q, v, hv, x, _, _ => by cases x; cases hv
  | k :: ks, _, n, A, Q, v, hv, x, hn, h => by
    cases x with
    | cons x1 x2 =>
      simp only [NestedKey.depthAll] at hn
      rcases List.mem_cons.mp hv with e | hv
      · rw [e]; exact hashBy_key k _ n A Q x1 (by omega) h
      · exact hashBy_keys ks _ n A Q v hv x2 (by omega) h
end
abbrev AK := Addr × NestedKey
def nrow (w : World) (p : AK) : Int × Value := (p.2.hash w, Value.ref p.1)
abbrev nhash (w : World) (p : AK) : Int := p.2.hash w
structure NSet (w : World) (h : Heap) (a : Addr) (L : List AK) (es : Array (Int × Value)) (ep : Nat) (t : SetTable) : Prop where
  ob : ∃ o, h.get? a = some o ∧ o.ExactSet ∧ o.data = .set es ep t
  rows : es.toList = L.map (nrow w)
  tab : NTab t (L.map (nhash w))
  nd : (L.map (·.2)).Nodup
  tup : ∀ p ∈ L, NIs h p.2 p.1
  led : w.params.followText "set-order" = true ∨ t.led = true
  room : L.length * 5 < t.mask * 3
variable {a : Addr} {L : List AK} {es : Array (Int × Value)} {ep : Nat} {t : SetTable}
theorem NSet.size (R : NSet w s.heap a L es ep t) : es.size = L.length := by
  rw [← Array.length_toList, R.rows, List.length_map]
theorem NSet.psz (R : NSet w s.heap a L es ep t) : t.place.size = L.length := by
  have := R.tab.sz
  rwa [List.length_map, Array.length_toList] at this
theorem NSet.fits (R : NSet w s.heap a L es ep t) : t.fits es.size = true := by
  have h1 := R.psz
  have h2 := R.size
  have h3 := R.room
  unfold SetTable.fits SetTable.fill
  rw [R.tab.dm, Bool.and_eq_true, beq_iff_eq, decide_eq_true_eq]
  show t.place.size = es.size ∧ t.place.size + 0 ≤ t.mask
  omega
theorem NSet.gw (R : NSet w s.heap a L es ep t) : ¬ t.gaveWay = true := by
  unfold SetTable.gaveWay
  rw [R.tab.mok.odd]
  decide
theorem NIs.same {h h' : Heap} {k : NestedKey} {a b : Addr} {o : Obj} {es : Array (Int × Value)} {ep : Nat} {t : SetTable} (hb : NIs h k b) (ho : h.get? a = some o) (hd : o.data = .set es ep t) (hs : Heap.SameBut a h h') : NIs h' k b :=
  ⟨NestedIs.at (fun c oc vs n hc hdc => by
    refine (hs.2 c fun e => ?_).trans hc
    subst e
    rw [ho] at hc
    cases hc
    rw [hd] at hdc
    cases hdc) k _ hb.1, hb.2⟩
end
end DL

namespace DL
open PySem PySem.Spec PyProof.Rows L2
structure NGot (ks : List AK) (i : Nat) (L : List AK) : Prop where
  sub : ∀ p ∈ L, p ∈ ks.take i
  all : ∀ p ∈ ks.take i, p.2 ∈ L.map (·.2)
  len : L.length ≤ i
theorem NGot.same {ks L : List AK} {i : Nat} {x : AK} (g : NGot ks i L) (h : ks[i]? = some x) (hm : x.2 ∈ L.map (·.2)) : NGot ks (i + 1) L := by
  have e := take_next h
  refine ⟨fun p hp => by rw [e]; exact List.mem_append_left _ (g.sub p hp), fun p hp => ?_, Nat.le_succ_of_le g.len⟩
  rw [e] at hp
  rcases List.mem_append.mp hp with z | z
  · exact g.all p z
  · rw [List.mem_singleton.mp z]; exact hm
theorem NGot.more {ks L L' : List AK} {i : Nat} {x : AK} (g : NGot ks i L) (h : ks[i]? = some x) (pm : L'.Perm (x :: L)) : NGot ks (i + 1) L' := by
  have e := take_next h
  refine ⟨fun p hp => ?_, fun p hp => ?_, by rw [pm.length_eq, List.length_cons]; exact Nat.succ_le_succ g.len⟩
  · rw [e]
    rcases List.mem_cons.mp (pm.mem_iff.mp hp) with rfl | z
    · exact List.mem_append_right _ (List.mem_singleton.mpr rfl)
    · exact List.mem_append_left _ (g.sub p z)
  · rw [(pm.map (·.2)).mem_iff, List.map_cons]
    rw [e] at hp
    rcases List.mem_append.mp hp with z | z
    · exact List.mem_cons_of_mem _ (g.all p z)
    · rw [List.mem_singleton.mp z]; exact List.mem_cons_self
section
variable {P : Program} {w : World} {A : Around} {E : Value → Shared → Prop} {s : Shared}
theorem NIs.keep {h h' : Heap} {k : NestedKey} {b : Addr} (x : NIs h k b) (hk : ∀ c o, h.get? c = some o → h'.get? c = some o) : NIs h' k b :=
  ⟨NestedIs.at (fun c o _ _ hc _ => hk c o hc) k _ x.1, x.2⟩
theorem NSet.keep {h h' : Heap} {a : Addr} {L : List AK} {es : Array (Int × Value)} {ep : Nat} {t : SetTable} (R : NSet w h a L es ep t) (ha : ∀ o, h.get? a = some o → h'.get? a = some o) (ht : ∀ p ∈ L, NIs h' p.2 p.1) : NSet w h' a L es ep t := by
  obtain ⟨o, ho, r⟩ := R.ob
  exact ⟨⟨o, ha o ho, r⟩, R.rows, R.tab, R.nd, ht, R.led, R.room⟩
set_option maxHeartbeats 8000000 in
set_option maxHeartbeats 8000000 in
end
end DL

namespace DL
open PySem PySem.Spec PyProof.Rows L2 PySem.W
section
variable {cl : Cl} {X : Cx} {E : XK}
abbrev Tn := AK × D
structure TnOk (K : PySem.W.Frag) (m : List Addr) (H : Hp) (x : Tn) : Prop where
  rv : RV K m H x.2 (.ref x.1.1)
  nk : nkey x.2 = some x.1.2
  dp : x.1.2.depth ≤ 8
open Classical in
end
end DL

namespace DL
open PySem PySem.Spec PyProof.Rows L2
section
variable {cl : Cl} {X : Cx} {E : XK}
end
end DL

namespace DL
open PySem PySem.Spec PyProof.Rows L2
section
variable {cl : Cl} {X : Cx} {E : XK}
end
end DL

namespace DL
open PySem PySem.Spec PyProof.Rows L2
section
variable {cl : Cl} {X : Cx} {E : XK}
end
end DL

namespace DL
open PySem PySem.Spec PyProof.Rows L2 PySem.W
section
variable {cl : Cl} {X : Cx} {E : XK}
open Classical in
end
end DL

namespace DL
open PySem PySem.Spec PyProof.Rows L2
def PinsAt (C : List Addr) (H : Hp) : Prop := ∀ c ∈ C, ∃ (o : Obj) (w : Option Value), H c = some (PinO c o) ∧ o.data = .cell w
def dropC (C : List Addr) (H : Hp) : Hp := fun a => if a ∈ C then none else H a
section
variable {C : List Addr} {H H0 : Hp} {a : Addr} {u : HO}
theorem dropC_out (h : a ∉ C) : dropC C H a = H a := if_neg h
theorem PinsAt.no (p : PinsAt C H) (e : H a = some u) (n : ∀ o φ, u ≠ .frz o (.ext φ)) : a ∉ C := fun z => by
  obtain ⟨o, w, e1, _⟩ := p a z
  rw [e] at e1
  cases e1
  exact n _ _ rfl
theorem PinsAt.noF {o : Obj} {v : HO} (p : PinsAt C H) (e : H a = some (.frz o v)) (n : ∀ w, o.data ≠ .cell w) : a ∉ C := fun z => by
  obtain ⟨o', w, e1, e2⟩ := p a z
  rw [e] at e1
  cases e1
  exact n _ e2
theorem drop_at (p : PinsAt C H) (e : H a = some u) (n : ∀ o φ, u ≠ .frz o (.ext φ)) : dropC C H a = some u := by
  rw [dropC_out (p.no e n)]; exact e
theorem drop_fn {o : Obj} {v : HO} (p : PinsAt C H) (e : H a = some (.frz o v)) (n : ∀ w, o.data ≠ .cell w) : dropC C H a = some (.frz o v) := by
  rw [dropC_out (p.noF e n)]; exact e
theorem code_nx {c : Addr} {q : Str} : ∀ (o : Obj) (φ : Heap → Prop), LamX.CodeO c q ≠ .frz o (.ext φ) := fun _ _ z => by
  unfold LamX.CodeO at z; cases z
end
section
variable {cl : Cl} {K : PySem.W.Frag} {m : List Addr} {H : Hp} {C : List Addr} {S : Sto}
theorem sqT_drop {a : Addr} {xs : List V} (p : PinsAt C H) (h : SqT K H a xs) : SqT K (dropC C H) a xs := by
  rcases h with (h | ⟨o, h⟩) | h
  · exact .inl (.inl (drop_at p h fun _ _ z => by cases z))
  · exact .inl (.inr ⟨o, drop_at p h fun _ _ z => by cases z⟩)
  · exact .inr h
theorem Fz.drop {a : Addr} {xs : List V} (p : PinsAt C H) (h : Fz K H a xs) : Fz K (dropC C H) a xs := by
  rcases h with ⟨o, h⟩ | h
  · exact .inl ⟨o, drop_at p h fun _ _ z => by cases z⟩
  · exact .inr h
mutual
theorem RV.drp (p : PinsAt C H) : ∀ (d : D) {v : V}, RV K m H d v → RV K m (dropC C H) d v
  | .non, _, h => h
  | .bl _, _, h => h
  | .int _, _, h => h
  | .str _, _, h => h
  | .tup ds, _, ⟨a, vs, e, s, r⟩ => ⟨a, vs, e, sqT_drop p s, RVs.drp p ds r⟩
  | .frl ds, _, ⟨a, vs, e, s, r⟩ => ⟨a, vs, e, s.drop p, RVs.drp p ds r⟩
  | .ref l, _, h => h
  | .exn a dd ns ds, _, ⟨e, vs, r, h⟩ => ⟨e, vs, RVs.drp p ds r, fun n => drop_at p (h n) fun _ _ z => by cases z⟩
theorem RVs.drp (p : PinsAt C H) : ∀ (ds : List D) {vs : List V}, RVs K m H ds vs → RVs K m (dropC C H) ds vs
  | [], _, h => h
  | d :: ds, _, ⟨v, vs', e, r, t⟩ => ⟨v, vs', e, RV.drp p d r, RVs.drp p ds t⟩
end
theorem RF.drop (p : PinsAt C H) : ∀ {fs : List (Str × D)} {gs : List (Str × V)}, RF K m H fs gs → RF K m (dropC C H) fs gs
  | [], _, h => h
  | _ :: _, _, ⟨v, gs', e, r, t⟩ => ⟨v, gs', e, RV.drp p _ r, RF.drop p t⟩
theorem RD0.drop (p : PinsAt C H) : ∀ {fs : List (D × D)} {gs : List (Key × V)}, RD0 K m H fs gs → RD0 K m (dropC C H) fs gs
  | [], _, h => h
  | _ :: _, _, ⟨q, v, gs', e, hk, r, t⟩ => ⟨q, v, gs', e, hk, RV.drp p _ r, RD0.drop p t⟩
theorem RD1.drop (p : PinsAt C H) : ∀ {fs : List (D × D)} {gs : List (List Key × V)}, RD1 K m H fs gs → RD1 K m (dropC C H) fs gs
  | [], _, h => h
  | _ :: _, _, ⟨q, v, gs', e, hk, r, t⟩ => ⟨q, v, gs', e, hk, RV.drp p _ r, RD1.drop p t⟩
theorem RD2.drop (p : PinsAt C H) : ∀ {fs : List (D × D)} {xs : List (NestedKey × Addr × Value)}, RD2 K m H fs xs → RD2 K m (dropC C H) fs xs
  | [], _, h => h
  | _ :: _, _, ⟨q, b, v, u, xs', e, hk, hd, r1, r2, r3, t⟩ => ⟨q, b, v, u, xs', e, hk, hd, RV.drp p _ r1, RV.drp p _ r2, r3, RD2.drop p t⟩
abbrev Cl.at_ (cl : Cl) (H : Hp) : Cl := ⟨cl.f, cl.T, cl.hh, fun i _ o => ∀ H', Keep H H' → cl.lam i H' o, fun i vs _ o => ∀ H', Keep H H' → cl.lmb i vs H' o⟩
structure NoC (cl : Cl) : Prop where
  lam : ∀ i H o, cl.lam i H o → ∀ w, o.data ≠ .cell w
  lmb : ∀ i vs H o, cl.lmb i vs H o → ∀ w, o.data ≠ .cell w
theorem RO.drop {P : Program} {w : World} {h : Heap} (p : PinsAt C H) (nc : NoC cl) (hok : HOk P w H h) {a : Addr} : ∀ {o : DO}, RO cl K m H o a → RO (cl.at_ H) K m (dropC C H) o a
  | .lst ds, ⟨vs, e, r⟩ => ⟨vs, drop_at p e (fun _ _ z => by cases z), RVs.drp p _ r⟩
  | .dic 0 kvs, ⟨gs, e, r⟩ => ⟨gs, drop_at p e (fun _ _ z => by cases z), r.drop p⟩
  | .dic 1 kvs, ⟨gs, e, r⟩ => ⟨gs, drop_at p e (fun _ _ z => by cases z), r.drop p⟩
  | .dic 2 kvs, ⟨xs, es, ep, e, e1, e2, e3, r⟩ => ⟨xs, es, ep, drop_at p e (fun _ _ z => by unfold RawO at z; cases z), e1, e2, e3, r.drop p⟩
  | .dic 3 kvs, ⟨gs, o, e, r⟩ => ⟨gs, o, drop_at p e (fun _ _ z => by cases z), r.drop p⟩
  | .dic 4 kvs, ⟨ds, o, vs, e0, e, e1, e2, r⟩ => ⟨ds, o, vs, e0, drop_at p e (fun _ _ z => by cases z), e1, e2, RVs.drp p _ r⟩
  | .dic 5 kvs, ⟨i, o, u, e0, e, r⟩ => ⟨i, o, u, e0, drop_fn p e (nc.lam _ _ _ (r H (Keep.refl H))), fun H' _ => r⟩
  | .dic 6 kvs, ⟨xs, es, ep, o, e, e1, e2, e3, r⟩ => ⟨xs, es, ep, o, drop_fn p e (fun w z => by
      obtain ⟨g1, ⟨o2, g2, _, g3⟩, _⟩ := hok a _ e
      rw [g1] at g2
      cases g2
      rw [g3] at z
      cases z), e1, e2, e3, r.drop p⟩
  | .dic 7 kvs, ⟨i, ds, vs, o, u, e0, e, r, q⟩ => ⟨i, ds, vs, o, u, e0, drop_fn p e (nc.lmb _ _ _ _ (q H (Keep.refl H))), RVs.drp p _ r, fun H' _ => q⟩
  | .dic (_ + 8) kvs, h => h.elim
  | .ins c fs, ⟨dx, gs, e, r⟩ => ⟨dx, gs, drop_at p e (fun _ _ z => by cases z), r.drop p⟩
  | .dead, ⟨o, u, e⟩ => ⟨o, u, drop_at p e (fun _ _ z => by cases z)⟩
theorem RS.drop {P : Program} {w : World} {h : Heap} (p : PinsAt C H) (nc : NoC cl) (hok : HOk P w H h) (rs : RS cl K m S H) : RS (cl.at_ H) K m S (dropC C H) :=
  ⟨rs.len, rs.nd, fun l o a h1 h2 => (rs.obj l o a h1 h2).drop p nc hok, fun q hq => by
    obtain ⟨ps, h1, h2, h3⟩ := rs.tb q hq
    refine ⟨ps, drop_at p h1 (fun _ _ z => by cases z), h2, fun pos cv hc => ?_⟩
    obtain ⟨c, e1, e2⟩ := h3 pos cv hc
    exact ⟨c, e1, drop_at p e2 code_nx⟩⟩
theorem RO.wk {lm : Nat → Hp → Obj → Prop} {lb : Nat → List V → Hp → Obj → Prop} (h5 : ∀ i H' o, Keep H H' → cl.lam i H' o → lm i H' o) (h7 : ∀ i vs H' o, Keep H H' → cl.lmb i vs H' o → lb i vs H' o) {a : Addr} :
    ∀ {o : DO}, RO cl K m H o a → RO ⟨cl.f, cl.T, cl.hh, lm, lb⟩ K m H o a
  | .lst _, r => r
  | .dic 0 _, r => r
  | .dic 1 _, r => r
  | .dic 2 _, r => r
  | .dic 3 _, r => r
  | .dic 4 _, r => r
  | .dic 5 _, ⟨i, o, u, e0, e, r⟩ => ⟨i, o, u, e0, e, fun H' k => h5 _ _ _ k (r H' k)⟩
  | .dic 6 _, r => r
  | .dic 7 _, ⟨i, ds, vs, o, u, e0, e, r, q⟩ => ⟨i, ds, vs, o, u, e0, e, r, fun H' k => h7 _ _ _ _ k (q H' k)⟩
  | .dic (_ + 8) _, r => r.elim
  | .ins _ _, r => r
  | .dead, r => r
theorem RX.keep {H2 : Hp} {x : Exc} {dd : Option Addr} (k : Keep H H2) (h : RX K m H x dd) : RX K m H2 x dd := by
  unfold RX at h ⊢
  split at h
  · exact h
  · obtain ⟨d, gs, e, e1, r⟩ := h
    exact ⟨d, gs, e, k _ _ e1 trivial, r.mono (Ext.refl m) k⟩
end
end DL

namespace DL
open PySem PySem.Spec PyProof.Rows L2
section
variable {P : Program} {w : World} {C : List Addr} {H H2 : Hp} {h h2 : Heap} {fs : List Addr}
theorem PinsAt.get (p : PinsAt C H) (ok : HOk P w H h) {c : Addr} (hc : c ∈ C) : ∃ (o : Obj) (v : Option Value), H c = some (PinO c o) ∧ h.get? c = some o ∧ o.data = .cell v := by
  obtain ⟨o, v, e, d⟩ := p c hc
  exact ⟨o, v, e, (ok c _ e).1, d⟩
end
structure CloV (scope : Scope) (caps : List Str) (vs : List V) (H : Hp) (clo : List (Str × Addr)) : Prop where
  pin : PinsAt (clo.map Prod.snd) H
  val : ∀ (j : Nat) (x : Str) (v : V) (c : Addr), caps[j]? = some x → vs[j]? = some v → clo.lookup x = some c → ∃ (o : Obj) (u : Value), H c = some (PinO c o) ∧ o.data = .cell (some u) ∧ RelV v u
  inj : ∀ x y c, clo.lookup x = some c → clo.lookup y = some c → x = y
  has : ∀ y ∈ scope.names, y.2 = .free → ∃ c, clo.lookup y.1 = some c
  len : vs.length = caps.length
theorem CloV.keep {scope : Scope} {caps : List Str} {vs : List V} {H H' : Hp} {clo : List (Str × Addr)} (k : Keep H H') (V : CloV scope caps vs H clo) : CloV scope caps vs H' clo :=
  ⟨fun c hc => let ⟨o, w, e, d⟩ := V.pin c hc; ⟨o, w, k _ _ e trivial, d⟩, fun j x v c h1 h2 h3 => let ⟨o, u, e, d, r⟩ := V.val j x v c h1 h2 h3; ⟨o, u, k _ _ e trivial, d, r⟩, V.inj, V.has, V.len⟩
def LamB (tab : List LamI) (caps : List Str) : Nat → List V → Hp → Obj → Prop := fun i vs H o => ∃ I clo, tab[i]? = some I ∧ LamIs I clo H o ∧ CloV I.scope caps vs H clo
abbrev lbEnv (q : Str) (clo : List (Str × Addr)) (scope : Scope) (L f c' : Addr) : Env := PySem.W.envX q scope L f (.ref c') clo
def lbCx (X : Cx) (N : List Str) (q : Str) (clo : List (Str × Addr)) (A : Around) (outer : List Env) (s : Shared) (H : Hp) (E : XK) (scope : Scope) (f c' : Addr) : Cx where
  prog := X.prog
  w := X.w
  K := X.K
  mg := X.mg
  base := X.base
  A := A.deeper (lbEnv q clo scope s.heap.objs.size f c')
  N := N
  s_0 := s
  H_0 := H
  env := lbEnv q clo scope s.heap.objs.size f c'
  outer := outer
  stack := lbEnv q clo scope s.heap.objs.size f c' :: outer
  ex := []
  fn := fun _ => false
  calm := true
  pn := []
  xe := fun e s' => wpAny (model X.prog X.w) (A.deeper (lbEnv q clo scope s.heap.objs.size f c')) (leaving (lbEnv q clo scope s.heap.objs.size f c') e) (fun _ s'' => L2.CX X.prog X.w outer H s E e s'') (fun e' s'' => L2.CX X.prog X.w outer H s E e' s'') s'
section
variable {X : Cx}
variable {pins : List (Addr × Obj)} {σ : L2.St} {H : Hp} {s : Shared}
end
end DL

namespace DL
open PySem PySem.Spec PyProof.Rows L2
section
variable {cl : Cl} {X : Cx} {E : XK}
structure LamSetB (cl : Cl) (X : Cx) (N : List Str) (sc : Scope) (k : Nat) (fs : Nat → Option (Sl → Sto → Res D)) : Prop where
  nc : NoC cl
  all : ∀ (i : Nat) (fb : Sl → Sto → Res D), fs i = some fb → ∃ I : LamI, (∀ vs H o, cl.lmb i vs H o → ∃ clo, LamIs I clo H o ∧ CloV I.scope N vs H clo) ∧ LamOk N sc I ∧
    ∀ (H0 : Hp) (clo : List (Str × Addr)) (A : Around) (outer : List Env) (s : Shared) (H : Hp) (E : XK) (f c' : Addr), Cok (lbCx X N I.qual clo A outer s H E I.scope f c') E k → DE (cl.at_ H0) (lbCx X N I.qual clo A outer s H E I.scope f c') E I.body fb
end
structure PSsB (X : Cx) (sts : List Stmt) (t : (V → L2.St → Hp → Prop) → L2.St → Hp → Prop) : Prop where
  run : ∀ (pins : List (Addr × Obj)) (s : Shared) (σ : L2.St) (H : Hp) (R : V → L2.St → Hp → Prop), Inv X pins σ H s → t R σ H →
    wpAny (model X.prog X.w) X.A (execs sts X.env) (fun fl s' => ∃ u, fl = .ret u ∧ ∃ v σ' H', Inv X pins σ' H' s' ∧ RelV v u ∧ R v σ' H') X.xe s
section
variable {X : Cx} {E : XK} {cl : Cl}
end
end DL

namespace DL
open PySem PySem.Spec PyProof.Rows L2
open Classical in
section
variable {X : Cx} {pins : List (Addr × Obj)} {σ : L2.St} {H : Hp} {s : Shared}
end
section
variable {cl : Cl} {K : PySem.W.Frag} {m : List Addr} {H Hp2 : Hp} {tab : List LamI} {names : List (Str × NameKind)} {L : Nat} {cs : List D} {vs : List V}
end
end DL
namespace DL
open PySem PySem.Spec PyProof.Rows L2
abbrev LamK1 := Nat → Hp → Obj → Prop
abbrev LamK2 := Nat → List V → Hp → Obj → Prop
structure LmOk (lm : LamK1) (lb : LamK2) (tab : List LamI) (caps : List Str) : Prop where
  lo : ∀ i H o, lm i H o → i < 1000
  hi : ∀ i vs H o, LamB tab caps i vs H o → lb i vs H o
section
variable {cl : Cl} {X : Cx} {N : List Str} {sc : Scope} {k : Nat}
end
end DL

namespace DL
open PySem PySem.Spec PyProof.Rows L2
section
variable {X : Cx}
end
end DL
namespace DL
open PySem PySem.Spec PyProof.Rows L2
section
variable {cl : Cl} {X : Cx} {E : XK}
end
end DL

namespace DL
open PySem PySem.Spec PyProof.Rows L2
section
variable {X : Cx} {pins : List (Addr × Obj)} {σ : L2.St} {H : Hp} {s : Shared} {HZ : Hp} {sE : Shared}
end
mutual
def D.pur : D → Bool
  | .tup ds => D.purs ds
  | .frl ds => D.purs ds
  | .ref _ => false
  | .exn _ _ _ _ => false
  | .non => true
  | .bl _ => true
  | .int _ => true
  | .str _ => true
def D.purs : List D → Bool
  | [] => true
  | d :: ds => D.pur d && D.purs ds
end
section
variable {K : PySem.W.Frag} {m m' : List Addr} {H H' : Hp}
mutual
theorem RV.pur (ht : ∀ b xs, H b = some (.tup xs) → H' b = some (.tup xs)) (hf : ∀ b o u, H b = some (.frz o u) → H' b = some (.frz o u)) : ∀ (d : D) {v : V}, d.pur = true → RV K m H d v → RV K m' H' d v
  | .non, _, _, h => h
  | .bl _, _, _, h => h
  | .int _, _, _, h => h
  | .str _, _, _, h => h
  | .tup ds, _, p, ⟨a, vs, e, s, r⟩ => ⟨a, vs, e, (by
      rcases s with (z | ⟨o, z⟩) | z
      · exact .inl (.inl (ht _ _ z))
      · exact .inl (.inr ⟨o, hf _ _ _ z⟩)
      · exact .inr z), RVs.pur ht hf ds p r⟩
  | .frl ds, _, p, ⟨a, vs, e, s, r⟩ => ⟨a, vs, e, (by
      rcases s with ⟨o, z⟩ | z
      · exact .inl ⟨o, hf _ _ _ z⟩
      · exact .inr z), RVs.pur ht hf ds p r⟩
  | .ref _, _, p, _ => by cases p
  | .exn _ _ _ _, _, p, _ => by cases p
theorem RVs.pur (ht : ∀ b xs, H b = some (.tup xs) → H' b = some (.tup xs)) (hf : ∀ b o u, H b = some (.frz o u) → H' b = some (.frz o u)) : ∀ (ds : List D) {vs : List V}, D.purs ds = true → RVs K m H ds vs → RVs K m' H' ds vs
  | [], _, _, h => h
  | d :: ds, _, p, ⟨v, vs', e, r, t⟩ => by
    have p' : (D.pur d && D.purs ds) = true := p
    rw [Bool.and_eq_true] at p'
    exact ⟨v, vs', e, RV.pur ht hf d p'.1 r, RVs.pur ht hf ds p'.2 t⟩
end
end
def maskD (sd : Sl) : Sl := sd.map fun o => match o with
  | some d => if d.pur then some d else none
  | none => none
theorem mask_rl {K : PySem.W.Frag} {m m' : List Addr} {H H' : Hp} {sd : Sl} {σ : L2.St} (rl : RSl K m H sd σ) (ht : ∀ b xs, H b = some (.tup xs) → H' b = some (.tup xs)) (hf : ∀ b o u, H b = some (.frz o u) → H' b = some (.frz o u)) : RSl K m' H' (maskD sd) σ := by
  refine ⟨by unfold maskD; rw [List.length_map]; exact rl.len, fun i d e => ?_⟩
  unfold maskD at e
  rw [List.getElem?_map] at e
  cases h : sd[i]? with
  | none => rw [h] at e; cases e
  | some o =>
    rw [h] at e
    cases o with
    | none => cases e
    | some d' =>
      have e' : (if d'.pur = true then some d' else none) = some d := by simpa using e
      split at e'
      · rename_i hp
        cases e'
        obtain ⟨v, e1, e2⟩ := rl.at_ i d h
        exact ⟨v, e1, RV.pur ht hf d hp e2⟩
      · cases e'
def dKindVE (Fx : Exc → Sto → Res D) (fs : Nat → Option (Sl → Sto → Res D)) (fe : Sl → Sto → Res D) (sd0 : Sl) : Sl → Sto → Res D := fun sd S => (fe sd S).bind fun d S1 => match d with
  | .ref l => (match S1[l]? with
    | some (.dic 5 [(.int i, .non)]) => (match fs i.toNat with
      | some fb => dKind Fx fb (maskD sd0) S1
      | none => .stuck)
    | _ => .stuck)
  | _ => .stuck
def tKVE (cl : Cl) (K : PySem.W.Frag) (E : XK) (fs : Nat → Option (Sl → Sto → Res D)) (Fx : Exc → Sto → Res D) (sd0 : Sl) (ta : TE) : TE := fun σ H Q => ta σ H fun v H1 => ∃ (f : Addr) (o : Obj) (w : HO) (i : Nat) (fb : Sl → Sto → Res D) (m : List Addr) (S : Sto),
  v = .ref f ∧ H1 f = some (.frz o w) ∧ fs i = some fb ∧ cl.lam i H1 o ∧ RS cl K m S H1 ∧ Post cl K (RV K) m H1 E Q (dKind Fx fb (maskD sd0) S)
end DL

namespace DL
open PySem PySem.Spec PyProof.Rows L2
section
variable {cl : Cl} {X : Cx} {E : XK} {sB : Shared} {HB : Hp} {scB : Scope} {ceB : Env} {fpB : List Addr} {pins0 : List (Addr × Obj)} {σ0 : L2.St} {m0 : List Addr} {sd0 : Sl} {x a : Str} {g : Addr} {k : Nat} {pg : Arguments} {bg : List Stmt} {sg sc : Scope} {N Ng : List Str} {Fx : Exc → Sto → Res D} {pins : List (Addr × Obj)} {σ : L2.St} {R : VK} {H1 : Hp} {s1 : Shared}
  {f : Addr} {o : Obj} {w : HO} {i : Nat} {fb : Sl → Sto → Res D} {m : List Addr} {S : Sto} {dV kV doc pm cdv ct oc : Value} {an od : Option Addr} {osl : Array (Option Value)}
end
end DL

namespace DL
open PySem PySem.Spec PyProof.Rows L2
section
variable {X : Cx}
theorem lcE {pins : List (Addr × Obj)} {s : Shared} {σ : L2.St} {H : Hp} {Q : VK} {elt tg iter : Expr} {scope : Scope} {own : List (Str × Nat)} {pos : Pos} {wi : TI}
    (hc : X.calm = true) (hN : X.N.Nodup) (J0 : Inv X pins σ H s) (hi : PI X tg iter wi) (ok : BlkOk X.N X.env.scope scope own) (hs : ∀ x, foldedSetIterable iter X.env x = pure x)
    (h : wi σ H fun J H1 => ∀ D, H1 D = none → ∀ (sB : Shared) (C : Addr) (cl : List (Str × Addr)) (fp : List Addr), Inv X pins σ (upd H1 D (.lst [])) sB → (∀ b ∈ fp, ∀ x c, X.env.cells.lookup x = some c → c ≠ b) →
      ∃ (g : TG) (te : TE), PG (X.blk sB (upd H1 D (.lst [])) scope (compEnvC scope cl C X.env) fp) tg g ∧ PE (X.blk sB (upd H1 D (.lst [])) scope (compEnvC scope cl C X.env) fp) elt te ∧
        ∃ W : Nat → Nat → Hp → Prop, (∃ n, W 0 n (upd H1 D (.lst []))) ∧ ∀ i n H2, W i n H2 → (J.stop i H2 ∧ Q (.ref D) H2) ∨ (J.go i H2 ∧ ∀ x H3, J.yld i H2 x H3 → g x (wipe σ (own.map (·.2))) H3 fun σ4 H4 => wipe σ4 (own.map (·.2)) = wipe σ (own.map (·.2)) ∧ te σ4 H4 fun y H5 => ∃ acc, H5 D = some (.lst acc) ∧ acc.length < sizeLine ∧ ∃ n', n' < n ∧ W (i + 1) n' (upd H5 D (.lst (acc ++ [y]))))) :
    wpAny (model X.prog X.w) X.A (eval (.ListComp elt [⟨tg, iter, [], 0⟩] scope pos) X.env) (EP X pins σ Q) X.xe s := by
  rw [eval_ListComp]
  have cap : ∀ y ∈ scope.names, y.2 = .free → ∃ c, X.env.cells.lookup y.1 = some c := fun y hy e => J0.ok.has _ (ok.free y hy e)
  refine wpAny_comprehension_free rfl hs (closure_ok cap) ok.kind (fun y hy e => by rw [ok.uniq y hy, e]) (thn (hi.run pins s σ H _ J0 h) fun v sa ha => thn ha fun itv sb hb => ?_)
  obtain ⟨it, fp, tn, J, Hb, rfl, Jb, T, tb, fb, q⟩ := hb
  refine wpAny_newObj_type (newEnv_comp ?_) (by show 0 ≤ sizeLine; decide)
  have fresh : Hb sb.heap.objs.size = none := Jb.hok.fresh (Nat.le_refl _)
  have Jc : Inv X pins σ (upd Hb sb.heap.objs.size (.lst [])) { sb with heap := sb.heap.push { cls := .type "list", data := .seq ([] : List Value).toArray } } :=
    Jb.laid (t' := sb.toks) (fun b o e => Heap.get?_push_of_some _ e) (Nat.le_refl _) ⟨Nat.zero_le _, [], 0, .nil, Heap.get?_push_size _ rfl⟩
  have young : ∀ b ∈ fp, b < sb.heap.objs.size := fun b hb => let ⟨o, e, _⟩ := T.obj _ _ tb b hb; Heap.lt_size e
  have keepP : ∀ b o, sb.heap.get? b = some o → (sb.heap.push { cls := .type "list", data := .seq ([] : List Value).toArray }).get? b = some o := fun b o e => Heap.get?_push_of_some _ e
  have fc : ∀ b ∈ fp, FpOk X pins (upd Hb sb.heap.objs.size (.lst [])) b ∧ b < (sb.heap.push { cls := .type "list", data := .seq ([] : List Value).toArray }).objs.size := fun b hb =>
    ⟨⟨by rw [upd_ne (Nat.ne_of_lt (young b hb))]; exact (fb b hb).1, (fb b hb).2⟩, by rw [Heap.size_push]; exact Nat.lt_succ_of_lt (young b hb)⟩
  have tc : tn 0 (sb.heap.push { cls := .type "list", data := .seq ([] : List Value).toArray }) := T.keep _ _ _ tb fun b _ o e => keepP b o e
  have Q0 := q _ fresh
  generalize hD : sb.heap.objs.size = D at Jc fc Q0 fresh ⊢
  generalize hsc : ({ sb with heap := sb.heap.push { cls := .type "list", data := .seq ([] : List Value).toArray } } : Shared) = sc at Jc ⊢
  have tc : tn 0 sc.heap := by rw [← hsc]; exact tc
  have fc : ∀ b ∈ fp, FpOk X pins (upd Hb D (.lst [])) b ∧ b < sc.heap.objs.size := by rw [← hsc]; exact fc
  have Jd := block_start Jc ok hN fc
  obtain ⟨g, te, pg, pe, W, ⟨n0, w0⟩, turn⟩ := Q0 sc sc.heap.objs.size (cellsFrom (sc.heap.objs.size + 1) scope.names (cloFrom X.env.cells scope.names [])) fp Jc fun b hb => (fc b hb).1.2.2.2.2.1
  show codeAny _ _ (.compStart (.ListComp elt [⟨tg, iter, [], 0⟩] scope pos) 0 (.ref it) (.ref D) (compEnvC scope (cellsFrom (sc.heap.objs.size + 1) scope.names (cloFrom X.env.cells scope.names [])) sc.heap.objs.size X.env)) (compPost (model X.prog X.w) X.A X.xe none (EP X pins σ Q) (.ref D) (compEnvC scope (cellsFrom (sc.heap.objs.size + 1) scope.names (cloFrom X.env.cells scope.names [])) sc.heap.objs.size X.env).locals) { sc with heap := pushCells (sc.heap.push { cls := .type "dict", data := .dict #[] }) scope.names }
  have here : (compEnvC scope (cellsFrom (sc.heap.objs.size + 1) scope.names (cloFrom X.env.cells scope.names [])) sc.heap.objs.size X.env).locals = sc.heap.objs.size := rfl
  generalize compEnvC scope (cellsFrom (sc.heap.objs.size + 1) scope.names (cloFrom X.env.cells scope.names [])) sc.heap.objs.size X.env = ce at Jd pg pe here ⊢
  generalize upd Hb D (.lst []) = Hc at Jc Jd pg pe w0 fc
  have td : tn 0 ({ sc with heap := pushCells (sc.heap.push { cls := .type "dict", data := .dict #[] }) scope.names } : Shared).heap := T.keep _ _ _ tc fun b _ o e => pushCells_keeps _ _ _ _ (Heap.get?_push_of_some _ e)
  generalize ({ sc with heap := pushCells (sc.heap.push { cls := .type "dict", data := .dict #[] }) scope.names } : Shared) = sd at Jd td ⊢
  -- an iterator's objects are the block's own to turn
  have turnable : ∀ {σ' : L2.St} {H' : Hp} {s' : Shared}, Inv (X.blk sc Hc scope ce fp) [] σ' H' s' → (∀ b ∈ fp, H' b = none) → ∀ b ∈ fp, FpOk (X.blk sc Hc scope ce fp) [] H' b := fun {σ' H' s'} j hn b hb =>
    ⟨hn b hb, (j.ok.exf b hb).1, j.ok.exfs b hb, .inl hb, fun x c e => (j.ok.exf b hb).2 x c e, fun p hp => absurd (show p ∈ ([] : List (Addr × Obj)) from by simpa using hp) (by simp)⟩
  have loop : codeAny (model X.prog X.w) X.A (.compLoop (.ListComp elt [⟨tg, iter, [], 0⟩] scope pos) 0 (.ref it) (.ref D) ce) (compPost (model X.prog X.w) X.A X.xe none (EP X pins σ Q) (.ref D) ce.locals) sd := by
    refine compLoop_any (fun n s' => ∃ i H', (Inv (X.blk sc Hc scope ce fp) [] (wipe σ (own.map (·.2))) H' s' ∧ W i n H') ∧ tn i s'.heap ∧ ∀ b ∈ fp, H' b = none) ?_ n0 ⟨0, Hc, ⟨Jd, w0⟩, td, fun b hb => (fc b hb).1.1⟩
    rintro n se ⟨i, He, ⟨Je, we⟩, te, ne⟩
    rcases turn i n He we with ⟨stop, fin⟩ | ⟨go, step⟩
    · refine thnF (T.done (X.blk sc Hc scope ce fp) rfl rfl rfl hc i [] se _ He (fun _ _ => False) Je (turnable Je ne) te stop) fun r sf hr => ?_
      obtain ⟨rfl, Jf⟩ := hr
      obtain ⟨m, hm, _⟩ := Jf.loc
      have Jg : Inv X pins σ He sf := Jc.call' (ch := fp) Jf.os Jf.base Jf.hok Jf.bare fun b hb => ⟨(fc b hb).1.2.2.2.1, (fc b hb).1.2.1, (fc b hb).1.2.2.2.2.1, (fc b hb).1.2.2.2.2.2⟩
      have off : He ce.locals = none := Jf.free
      obtain ⟨f0, f1, f2, f3, f4, f5⟩ := Jc.fpOk (b := ce.locals) (by rw [here]; exact Nat.le_refl _) off
      exact ⟨m, hm, fun h'' sm => ⟨.ref D, He, Jg.turned (t' := sf.toks) (fun b o hb e => (sm.2 b hb).trans e) f0 f1 f3 f4 f5, rfl, fin⟩⟩
    · refine thnF (T.item (X.blk sc Hc scope ce fp) rfl rfl rfl hc i [] se _ He (fun _ _ => False) Je (turnable Je ne) te go) fun r sf hr => ?_
      obtain ⟨u, rfl, hf⟩ := hr
      refine thnF hf fun _ sg hg => ?_
      obtain ⟨x, Hg, Jg, rx, yx, tg', ng⟩ := hg
      have Jp := Jg.pinned (turnable Jg ng) (T.obj _ _ tg')
      refine thnF (pg.run _ sg _ Hg x u _ Jp rx (step x Hg yx)) fun _ sh hh => ?_
      obtain ⟨σh, Hh, Jh, eqw, th⟩ := hh
      refine thnF ((pts_nil (X := X.blk sc Hc scope ce fp)).run _ sh σh Hh (fun b H' => b = true ∧ H' = Hh) Jh ⟨rfl, rfl⟩) fun b sk hk => ?_
      obtain ⟨Hk, Jk, eb, eh⟩ := hk
      subst eb eh
      simp only [if_true]
      have tg2 := tg'
      have fin : ∀ {s' : Shared} {H' : Hp}, Inv (X.blk sc Hc scope ce fp) ([] ++ pinsAt fp sg.heap) σh H' s' → (∃ n', n' < n ∧ W (i + 1) n' H') → ∃ m, m < n ∧ ∃ i H', (Inv (X.blk sc Hc scope ce fp) [] (wipe σ (own.map (·.2))) H' s' ∧ W i m H') ∧ tn i s'.heap ∧ ∀ b ∈ fp, H' b = none := fun {s' H'} J' nx => by
        obtain ⟨n', lt, wk⟩ := nx
        have same : ∀ b ∈ fp, ∀ o, sg.heap.get? b = some o → s'.heap.get? b = some o ∧ H' b = none := fun b hb o e =>
          let z := J'.pin (b, o) (List.mem_append_right _ (List.mem_append_right _ (mem_pinsAt hb e)))
          ⟨z.1, z.2.1⟩
        have len : (wipe σ (own.map (·.2))).length = σh.length := by rw [← eqw, wipe_length]
        refine ⟨n', lt, i + 1, H', ⟨(J'.unpinned (pins := [])).weak len fun j v e => (wipe_some (by rw [eqw]; exact e)).1, wk⟩, T.keep _ _ _ tg' fun b hb o e => (same b hb o e).1, fun b hb => ?_⟩
        obtain ⟨o, e, _⟩ := T.obj _ _ tg' b hb
        exact (same b hb o e).2
      refine thnF (pe.run _ sk σh Hk _ Jk th) fun z s10 hz => ?_
      obtain ⟨yv, H10, J10, r10, acc, hD10, hz10, nx⟩ := hz
      exact app_ok (X := X.blk sc Hc scope ce fp) J10 hD10 hz10 r10 fun s11 J11 => fin J11 nx
  exact codeAny_compStart_list loop (T.self X.A 0 _ _ _ td loop)
end
end DL
namespace DL
open PySem PySem.Spec PyProof.Rows L2
def dCompE (vs : List Nat) (fi : Sl → Sto → Res ItD) (ga : D → Sl → Sto → Res Sl) (fe : Sl → Sl → Sto → Res D) : Sl → Sto → Res D := fun sd S => dComp vs fi ga tYesD (fe sd) sd S
def tLcE (X : Cx) (scope : Scope) (own : List (Str × Nat)) (tg elt : Expr) (wi : TI) : TE := fun σ H Q => ∀ pins : List (Addr × Obj), wi σ H fun J H1 => ∀ D, H1 D = none → ∀ (sB : Shared) (C : Addr) (cl : List (Str × Addr)) (fp : List Addr), Inv X pins σ (upd H1 D (.lst [])) sB → (∀ b ∈ fp, ∀ x c, X.env.cells.lookup x = some c → c ≠ b) →
      ∃ (g : TG) (te : TE), PG (X.blk sB (upd H1 D (.lst [])) scope (compEnvC scope cl C X.env) fp) tg g ∧ PE (X.blk sB (upd H1 D (.lst [])) scope (compEnvC scope cl C X.env) fp) elt te ∧
        ∃ W : Nat → Nat → Hp → Prop, (∃ n, W 0 n (upd H1 D (.lst []))) ∧ ∀ i n H2, W i n H2 → (J.stop i H2 ∧ Q (.ref D) H2) ∨ (J.go i H2 ∧ ∀ x H3, J.yld i H2 x H3 → g x (wipe σ (own.map (·.2))) H3 fun σ4 H4 => wipe σ4 (own.map (·.2)) = wipe σ (own.map (·.2)) ∧ te σ4 H4 fun y H5 => ∃ acc, H5 D = some (.lst acc) ∧ acc.length < sizeLine ∧ ∃ n', n' < n ∧ W (i + 1) n' (upd H5 D (.lst (acc ++ [y]))))
section
variable {cl : Cl} {X : Cx} {E : XK}
theorem de_compE {elt tg iter : Expr} {scope : Scope} {own : List (Str × Nat)} {pos : Pos} {fi : Sl → Sto → Res ItD} {ga : D → Sl → Sto → Res Sl} {fe : Sl → Sl → Sto → Res D}
    (hc : X.calm = true) (hN : X.N.Nodup) (hi : DI cl X E tg iter fi) (ok : BlkOk X.N X.env.scope scope own)
    (hg : ∀ (s : Shared) (H : Hp) (C : Addr) (c : List (Str × Addr)) (fp : List Addr), DGw cl (X.blk s H scope (compEnvC scope c C X.env) fp) E0 (own.map (·.2)) tg ga)
    (he : ∀ (sd0 : Sl) (m0 : List Addr) (σ0 : L2.St) (pins0 : List (Addr × Obj)) (s : Shared) (H : Hp) (C : Addr) (c : List (Str × Addr)) (fp : List Addr), Inv X pins0 σ0 H s → RSl X.K m0 H sd0 σ0 → (∀ b ∈ fp, ∀ x c, X.env.cells.lookup x = some c → c ≠ b) → DE cl (X.blk s H scope (compEnvC scope c C X.env) fp) E0 elt (fe sd0))
    (hs : ∀ x, foldedSetIterable iter X.env x = pure x := by intro _; rfl) :
    DE cl X E (.ListComp elt [⟨tg, iter, [], 0⟩] scope pos) (dCompE (own.map (·.2)) fi ga fe) := by
  obtain ⟨wi, pi, hi⟩ := hi
  refine ⟨tLcE X scope own tg elt wi, ⟨fun pins s σ H Q J h => lcE hc hN J pi ok hs (h pins)⟩, fun m S H sd σ Q rs rl hp pins => hi m S H sd σ _ rs rl (Post.bind hp fun it S1 m1 J H1 x1 k1 rs1 ir h1 => ?_)⟩
  intro D hD sB C c fp JB nx
  obtain ⟨nl1, nl2⟩ := newLst rs1 (ds := []) (vs := []) rfl hD
  obtain ⟨aD, hmD, eD⟩ := nl2
  cases eD
  have x2 := Ext.snoc m1 D
  have k2 : Keep H1 (upd H1 D (.lst [])) := Keep.new hD
  have rlD : RSl X.K (m1 ++ [D]) (upd H1 D (.lst [])) sd σ := (rl.mono x1 k1).mono x2 k2
  obtain ⟨g, pg, og, hgg⟩ := hg sB (upd H1 D (.lst [])) C c fp
  obtain ⟨te, pte, hte⟩ := he sd (m1 ++ [D]) σ pins sB (upd H1 D (.lst [])) C c fp JB rlD nx
  refine ⟨g, te, pg, pte, fun i n H' => n + i = it.items.length ∧ ∃ m' S', Ext (m1 ++ [D]) m' ∧ Keep (upd H1 D (.lst [])) H' ∧ RS cl X.K m' S' H' ∧ Post cl X.K (RV X.K) m' H' E Q ((compD it.chk ga tYesD (fe sd) S1.length (wipeD sd (own.map (·.2))) (it.items.drop i) S').bind fun _ S2 => .ok (.ref S1.length) S2),
    ⟨it.items.length, rfl, m1 ++ [D], S1 ++ [.lst []], Ext.refl _, Keep.refl _, nl1, by rw [List.drop_zero]; exact Post.mono x2 k2 h1⟩, ?_⟩
  rintro i n H' ⟨hn, m', S', x', k', rs', h'⟩
  have rlw : RSl X.K m' H' (wipeD sd (own.map (·.2))) (wipe σ (own.map (·.2))) := (rlD.wipe _).mono x' k'
  by_cases hlt : i < it.items.length
  · rw [List.drop_eq_getElem_cons hlt] at h'
    unfold compD at h'
    split at h'
    · rename_i hck
      obtain ⟨go, yl⟩ := (ir i m' S' H' (x2.trans x') (k2.trans k') rs' hck).2 it.items[i] (by simp [hlt])
      refine .inr ⟨go, fun x H2 hy => ?_⟩
      obtain ⟨ky, rsy, rvy⟩ := yl x H2 hy
      rw [bind_assoc] at h'
      refine og.mono _ _ _ _ _ (fun σ2 H2' z => ⟨z.1.trans (wipe_wipe σ _), z.2⟩) (og.own _ _ _ _ (hgg m' S' H2 (wipeD sd (own.map (·.2))) (wipe σ (own.map (·.2))) _ x _ rsy (rlw.mono (Ext.refl _) ky) rvy (Post.bindN (Post.mono (Ext.refl _) ky h') fun sd1 S3 m3 σ3 H3 x3 k3 rs3 rl3 h3 => ?_)))
      have h3' : Post cl X.K (RV X.K) m3 H3 E Q (((fe sd sd1 S3).noExc.bind fun y S4 => (match S4[S1.length]? with
          | some (.lst acc) => if acc.length < sizeLine then compD it.chk ga tYesD (fe sd) S1.length (wipeD sd (own.map (·.2))) (it.items.drop (i + 1)) (S4.set S1.length (.lst (acc ++ [y]))) else .stuck
          | _ => .stuck)).bind fun _ S2 => .ok (.ref S1.length) S2) := h3
      rw [bind_assoc] at h3'
      refine hte m3 S3 H3 sd1 σ3 _ rs3 rl3 (Post.bindN h3' fun y S5 m5 vy H5 x5 k5 rs5 ry h5 => ?_)
      split at h5
      · rename_i acc ea
        split at h5
        · rename_i hz
          obtain ⟨a, ha, ws, hw, rw'⟩ := rs5.adr ea
          have xx : Ext (m1 ++ [D]) m5 := (x'.trans x3).trans x5
          rw [xx _ _ hmD] at ha; cases ha
          have hk5 := rs5.keepPut (u := .lst (ws ++ [vy])) ea (xx _ _ hmD)
          refine ⟨ws, hw, by rw [← rw'.length]; exact hz, n - 1, by omega, by omega, m5, List.set S5 S1.length (.lst (acc ++ [y])), xx, ((k'.trans ky).trans k3).trans (k5.trans hk5), rs5.put ea (xx _ _ hmD) ⟨_, upd_same, (rw'.snoc ry).mono (Ext.refl _) hk5⟩, Post.mono (Ext.refl _) hk5 h5⟩
        · exact h5.elim
      · exact h5.elim
    · exact h'.elim
  · have hi' : i = it.items.length := by omega
    have e1 : it.items.drop i = [] := by rw [hi']; simp
    rw [e1] at h'
    unfold compD at h'
    split at h'
    · rename_i hck
      exact .inl ⟨(ir i m' S' H' (x2.trans x') (k2.trans k') rs' hck).1 hi', h' m' (.ref D) H' (Ext.refl _) (Keep.refl _) rs' ⟨D, x' _ _ hmD, rfl⟩⟩
    · exact h'.elim
end
end DL

namespace DL
open PySem PySem.Spec PyProof.Rows L2
def LamN (N : List Str) (scope : Scope) (ks : List Nat) : Prop := ∀ (i : Nat) (y : Str), N[i]? = some y → scope.names.lookup y = some .local → i ∈ ks
def lamNB (N : List Str) (scope : Scope) (ks : List Nat) : Bool := N.zipIdx.all fun p => !decide (scope.names.lookup p.1 = some .local) || decide (p.2 ∈ ks)
theorem lamN_by {N : List Str} {scope : Scope} {ks : List Nat} (e : lamNB N scope ks = true) : LamN N scope ks := fun i y hi hy => by
  unfold lamNB at e
  rw [List.all_eq_true] at e
  have := e (y, i) (List.mem_zipIdx_iff_getElem?.mpr hi)
  simpa [hy] using this
theorem LamD.hasZ {X : Cx} {N : List Str} {scope : Scope} (D : LamD N X.env.scope scope) (ok : X.Ok) : ∀ y ∈ scope.names, y.2 = .free → ∃ b, X.env.cells.lookup y.1 = some b :=
  fun y hy hf => (D.tk y hy hf).elim (fun z => ok.has _ (.inl z)) fun z => ok.has _ (.inr z)
section
variable {cl : Cl} {X : Cx} {E : XK}
theorem de_lam0Z {c P : Addr} {params : Arguments} {body : Expr} {scope : Scope} {pos : Pos} {i : Nat} (B : LamX.TabB X.base X.mg c P) (hcd : X.env.code = .ref c) (mT : (P, X.env.qual ++ "<lambda>") ∈ cl.T) (uT : ∀ p ∈ cl.T, p.1 = P → p.2 = X.env.qual ++ "<lambda>")
    (D : LamD [] X.env.scope scope) (none0 : defaultsOf params X.env = ([], [])) (hl : ∀ H o, LamIs ⟨params, body, scope, X.env.qual ++ "<lambda>", none⟩ (cloFrom X.env.cells scope.names []) H o → cl.lam i H o) :
    DE cl X E (.Lambda params body scope pos) (dLam i) :=
  lamv_de ⟨fun pins s σ H Q J ⟨t0, h⟩ => lamv_make0 J B hcd mT uT t0 none0 (D.hasZ J.ok) fun f o H1 s1 k1 k2 k3 k4 k5 => ⟨.ref f, _, k1, rfl, h f o H1 k2 k3 k4 k5⟩⟩ hl
theorem de_lam1Z {c P : Addr} {params : Arguments} {body : Expr} {scope : Scope} {pos dp : Pos} {n : Int} {j : Nat} {z : Str} {i : Nat} (B : LamX.TabB X.base X.mg c P) (hcd : X.env.code = .ref c) (mT : (P, X.env.qual ++ "<lambda>") ∈ cl.T) (uT : ∀ p ∈ cl.T, p.1 = P → p.2 = X.env.qual ++ "<lambda>")
    (D : LamD [] X.env.scope scope) (one : params.defaults = [.Constant (.int n) j dp]) (kw : params.kw_defaults = []) (hl : ∀ H o, LamIs ⟨params, body, scope, X.env.qual ++ "<lambda>", some z⟩ (cloFrom X.env.cells scope.names []) H o → cl.lam i H o) :
    DE cl X E (.Lambda params body scope pos) (dLam i) :=
  lamv_de ⟨fun pins s σ H Q J ⟨t0, h⟩ => lamv_make1 J B hcd mT uT t0 one kw (D.hasZ J.ok) fun f o H1 s1 k1 k2 k3 k4 k5 => ⟨.ref f, _, k1, rfl, h f o H1 k2 k3 k4 k5⟩⟩ hl
end
section
variable {cl : Cl} {X : Cx} {k : Nat} {ks : List Nat}
def LamPZ (cl : Cl) (X : Cx) (k : Nat) (ks : List Nat) (i : Nat) (fb : Sl → Sto → Res D) : Prop := ∃ I : LamI, (∀ H o, cl.lam i H o → LamIs I (cloFrom X.env.cells I.scope.names []) H o) ∧ LamOk [] X.env.scope I ∧ LamN X.N I.scope ks ∧ I.qual = X.env.qual ++ "<lambda>" ∧
    ∀ (A : Around) (outer : List Env) (s : Shared) (H : Hp) (E : XK) (f c' : Addr), Cok (LamX.lamCx X A outer s H E I.scope f c') E k → DE cl (LamX.lamCx X A outer s H E I.scope f c') E I.body fb
structure LamSetZ (cl : Cl) (X : Cx) (k : Nat) (ks : List Nat) (fs : Nat → Option (Sl → Sto → Res D)) : Prop where
  all : ∀ (i : Nat) (fb : Sl → Sto → Res D), fs i = some fb → LamPZ cl X k ks i fb
def LamLZ (cl : Cl) (X : Cx) (k : Nat) (ks : List Nat) (n : Nat) (fs : List (Sl → Sto → Res D)) : Prop := ∀ j fb, fs[j]? = some fb → LamPZ cl X k ks (n + j) fb
theorem lamLZ_nil {n : Nat} : LamLZ cl X k ks n [] := fun j fb h => by simp at h
theorem lamLZ_cons {n : Nat} {fb : Sl → Sto → Res D} {fs : List (Sl → Sto → Res D)} (I : LamI) (hl : ∀ H o, cl.lam n H o → LamIs I (cloFrom X.env.cells I.scope.names []) H o) (ok : LamOk [] X.env.scope I) (hn : LamN X.N I.scope ks) (eq : I.qual = X.env.qual ++ "<lambda>")
    (hb : ∀ (A : Around) (outer : List Env) (s : Shared) (H : Hp) (E : XK) (f c' : Addr), Cok (LamX.lamCx X A outer s H E I.scope f c') E k → DE cl (LamX.lamCx X A outer s H E I.scope f c') E I.body fb) (rest : LamLZ cl X k ks (n + 1) fs) : LamLZ cl X k ks n (fb :: fs) := fun j f h => by
  cases j with
  | zero =>
    simp at h
    subst h
    exact ⟨I, hl, ok, hn, eq, hb⟩
  | succ j =>
    have := rest j f (by simpa using h)
    rw [Nat.add_assoc, Nat.add_comm 1 j] at this
    exact this
theorem lamLZ_set {fs : List (Sl → Sto → Res D)} (h : LamLZ cl X k ks 0 fs) : LamSetZ cl X k ks (fun i => fs[i]?) := ⟨fun i fb e => by
  have := h i fb e
  rw [Nat.zero_add] at this
  exact this⟩
end
section
variable {X : Cx} {pins : List (Addr × Obj)} {σ : L2.St} {H : Hp} {s : Shared} {HZ : Hp} {sE : Shared}
theorem lamd_startZ {exs : List Addr} {A : Around} {outer : List Env} {E : XK} {scope : Scope} {f b : Addr} {hN : Heap} {tk : Nat} {bs : List (Str × Value)} (J : Inv X pins σ H s) (D : LamD [] X.env.scope scope) (hzz : ∀ (i : Nat) (y : Str) (v : V), X.N[i]? = some y → scope.names.lookup y = some .local → σ[i]? = some (some v) → False) (e0 : Env0 X.prog X.w X.K X.mg X.base A outer sE HZ) (nh : A.handled = none)
    (un : Un (frs X.stack) exs H HZ s.heap sE.heap) (nx : ∀ x c, X.env.cells.lookup x = some c → c ∉ exs) (ns : hN.Ns sE.heap.objs.size fun y => bs.reverse.lookup y) (kp : ∀ a o, sE.heap.get? a = some o → hN.get? a = some o) :
    Inv (LamX.lamCx X A outer sE HZ E scope f b) [] σ HZ { sE with heap := hN, toks := tk } := by
  have has := D.hasZ J.ok
  have back : ∀ {y a}, (cloFrom X.env.cells scope.names []).lookup y = some a → X.env.cells.lookup y = some a := fun {y a} e => by
    rcases cloFrom_mem (PySem.mem_of_lookup e) with z | ⟨z1, z2⟩
    · cases z
    · obtain ⟨a1, ha⟩ := has _ z1 rfl
      have ha : X.env.cells.lookup y = some a1 := ha
      have : a = a1 := by rw [z2, ha] <;> rfl
      rw [this, ha]
  have fwd : ∀ {y}, scope.names.lookup y = some .free → ∃ a, (cloFrom X.env.cells scope.names []).lookup y = some a := fun {y} e =>
    mem_lookup (cloFrom_has (cells := X.env.cells) (acc := []) (PySem.mem_of_lookup e : (y, NameKind.free) ∈ scope.names))
  have keepC : ∀ {y : Str} {a : Addr} {v : Option Value}, X.env.cells.lookup y = some a → s.heap.IsCell a v → hN.IsCell a v := fun {y a v} e ⟨o, ho, hd⟩ => by
    obtain ⟨sl, z⟩ := un.any ho (J.freeC y a e) (nx y a e)
    exact ⟨_, kp _ _ z, hd⟩
  have none0 : ∀ a : Addr, a ∉ (LamX.lamCx X A outer sE HZ E scope f b).ex := fun a z => absurd (show a ∈ ([] : List Addr) from z) (by simp)
  have ok : (LamX.lamCx X A outer sE HZ E scope f b).Ok := by
    refine ⟨e0.mod, D.kd, rfl, rfl, Nat.le_refl _, fun y z a e1 e2 => J.ok.inj y z a (back e1) (back e2), fun y hy => ?_, fun y a z _ => ?_, fun _ => nh, Around.frames_deeper e0.frames, .inr ⟨rfl, rfl⟩, fun a z => absurd z (none0 a), e0.bs, e0.bsz, fun a _ _ => none0 a, fun a z => absurd z (none0 a), e0.funs, e0.frf⟩
    · have hy : scope.names.lookup y = some .cell ∨ scope.names.lookup y = some .free := hy
      exact hy.elim (fun z => absurd rfl (D.nc _ (PySem.mem_of_lookup z))) fwd
    · exact absurd (show false = true from z) (by decide)
  refine ⟨ok, rfl, e0.bare, Un.kept kp, ⟨_, ns, fun i y v e1 e2 e3 => ?_⟩, fun y a e => ?_, e0.hok.fresh (Nat.le_refl _), fun y a e => ?_, fun q hq => absurd (show q ∈ ([] : List (Addr × Obj)) ++ [] from hq) (by simp), e0.hok.kept kp, J.len⟩
  · have e3 : Vis scope y := e3
    have e1 : X.N[i]? = some y := e1
    rcases e3 with k | k | k
    · exact (hzz i y v e1 k e2).elim
    · exact absurd rfl (D.nc _ (PySem.mem_of_lookup k))
    · obtain ⟨m, _, hl⟩ := J.loc
      have tk2 := D.tk _ (PySem.mem_of_lookup k) rfl
      obtain ⟨u, r, q⟩ := hl i y v e1 e2 (tk2.elim (fun z => .inr (.inl z)) fun z => .inr (.inr z))
      obtain ⟨a, ha⟩ := fwd k
      refine ⟨u, r, .inr ⟨.inr k, a, ha, ?_⟩⟩
      rcases q with ⟨k', _⟩ | ⟨_, a3, e', z⟩
      · have k' : X.env.scope.names.lookup y = some .local := k'
        rcases tk2 with k2 | k2 <;> exact absurd (k'.symm.trans k2) (by simp)
      · have : a3 = a := Option.some.inj (e'.symm.trans (back ha))
        subst this
        exact keepC (back ha) z
  · obtain ⟨u, z⟩ := J.cell y a (back e)
    exact ⟨u, keepC (back e) z⟩
  · obtain ⟨v, o, ho, _⟩ := J.cell y a (back e)
    exact un.free a o ho (J.freeC y a (back e)) (nx y a (back e))
theorem lamv_actZ {sB : Shared} {HB : Hp} {scB : Scope} {ceB : Env} {fpB : List Addr} {pins0 : List (Addr × Obj)} {σ0 : L2.St} {CXg : CXT} {Eg : XK} {Ng : List Str} {qg : Str} {sg : Scope} {g f b : Addr} {cdg : Value} {I : LamI} {o : Obj} {w : HO} {k i : Nat} {a : Str} {pn : List (Addr × Obj)} {xe : Value → Shared → Prop} {W : WX} {E : XK} {tb : TE} {p1 p2 : Pos} {dV doc pm ctv : Value}
    (I0 : Inv X pins0 σ0 HB sB) (nx : ∀ b ∈ fpB, ∀ x c, X.env.cells.lookup x = some c → c ≠ b) (J : Inv (X.blk sB HB scB ceB fpB) pins σ H s) (D : LamOk [] X.env.scope I) (hzz : ∀ (i : Nat) (y : Str) (v : V), X.N[i]? = some y → I.scope.names.lookup y = some .local → σ0[i]? = some (some v) → False) (fo : H f = some (.frz o w)) (eo : o = PySem.W.kdv_obj "<lambda>" I.qual I.params (.expr I.body) I.scope (cloFrom X.env.cells I.scope.names []) dV doc pm b ctv)
    (dv : match I.own with | none => dV = .none | some _ => ∃ t u g, dV = .ref t ∧ H t = some (.frz (PySem.W.kdv_tup [u]) g)) (hco : H b = some (LamX.CodeO b I.qual)) (eq : I.qual = X.env.qual ++ "<lambda>")
    (tk : Takes ((cxOf CXg X.prog X.w X.K X.mg X.base Ng qg sg g cdg X.A X.stack s H Eg).tr pn xe) W) (hW : ∀ cls d σ' H', E cls d H' → W cls d σ' H') (rm : Room (k + 1) (X.A.deeper (envOfC qg sg s.heap.objs.size g cdg)))
    (bd : ∀ (A : Around) (outer : List Env) (s : Shared) (H : Hp), Room k (A.deeper (LamX.lamEnv X I.scope s.heap.objs.size f b)) → PE (LamX.lamCx X A outer s H E I.scope f b) I.body tb)
    (nN : Ng[i]? = some a) (va : Vis sg a) (da : (a == ("__debug__" : Str)) = false := by decide) (ca : (a == ("__classdict__" : Str)) = false := by decide) :
    PE ((cxOf CXg X.prog X.w X.K X.mg X.base Ng qg sg g cdg X.A X.stack s H Eg).tr pn xe) (.Call (.Name a p1) [] [] p2)
      (fun σ2 H2 R => σ2[i]? = some (some (.ref f)) ∧ H2 b = some (LamX.CodeO b I.qual) ∧ tb σ0 H2 R) := by
  refine ⟨fun pins2 s2 σ2 H2 R J2 hyp => ?_⟩
  obtain ⟨hs, hc, ht⟩ := hyp
  have rd := (pe_var (X := (cxOf CXg X.prog X.w X.K X.mg X.base Ng qg sg g cdg X.A X.stack s H Eg).tr pn xe) (pos := p1) (i := i) nN va da ca).run pins2 s2 σ2 H2 (fun v H1 => v = .ref f ∧ H1 = H2) J2 ⟨.ref f, hs, rfl, rfl⟩
  refine wpAny_Call_Name_kw (thn rd fun w' s3 ⟨v, H3, J3, rw3, eq3⟩ => ?_)
  obtain ⟨rfl, rfl⟩ := eq3
  obtain rfl : w' = Value.ref f := rw3
  have un3 : Un (frs X.stack) [] H H3 s.heap s3.heap := J3.base
  have fo3 : s3.heap.get? f = some o := (J3.hok f _ (un3.frzs _ _ _ fo)).1
  have dv3 : match I.own with | none => dV = .none | some _ => ∃ t u, dV = .ref t ∧ s3.heap.get? t = some (PySem.W.kdv_tup [u]) := by
    split
    · rename_i e0
      rw [e0] at dv
      exact dv
    · rename_i e0
      rw [e0] at dv
      obtain ⟨t, u, g, e1, e2⟩ := dv
      exact ⟨t, u, e1, (J3.hok t _ (un3.frzs _ _ _ e2)).1⟩
  have hbd : ∃ bs : List (Str × Value), (∀ y ∈ bs, I.scope.names.lookup y.1 = some .local) ∧ BindsTo s3 (PySem.W.kdv_fn "<lambda>" I.qual I.params (.expr I.body) I.scope (cloFrom X.env.cells I.scope.names []) dV doc pm (.ref b) ctv) ⟨[], []⟩ bs := by
    cases e0 : I.own with
    | none =>
      rw [e0] at dv3
      subst dv3
      exact ⟨[], fun y hy => (nomatch hy), D.bd0 e0 _ _ _ _ _ _⟩
    | some z =>
      rw [e0] at dv3
      obtain ⟨t, u, e1, e2⟩ := dv3
      subst e1
      exact ⟨[(z, u)], fun y hy => by rw [List.mem_singleton.mp hy]; exact D.loc z e0, D.bd1 z e0 _ _ _ _ _ _ _ _ e2⟩
  obtain ⟨bs, hbl, hbd⟩ := hbd
  rw [eo] at fo3
  refine PySem.W.callWith_F0 ⟨_, _, _, _, fo3⟩ ?_
  obtain ⟨⟨oc, vs, tt, hoc, hdc, hvc⟩, _, _⟩ := J3.hok b _ hc
  have run : codeAny (model X.prog X.w) (X.A.deeper (envOfC qg sg s.heap.objs.size g cdg)) (.call (.ref f) ⟨[], []⟩) (CR (L2.CX X.prog X.w) (envOfC qg sg s.heap.objs.size g cdg :: X.stack) X.prog X.w H3 s3 R E) s3 := by
    refine PySem.W.kla_callFunE rm.depth fo3 rfl D.D.nco D.D.nge rfl ⟨b, oc, vs, tt, rfl, hoc, hdc, hvc⟩ (hbd _ _ _ _ ?_)
    refine wpAny_newFunctionEnv D.D.nc hbl (fun hN ns sb => ⟨J3.nolimit.fresh _ sb, ?_⟩) D.D.kd
    rw [eq]
    show codeAny _ _ (.expr I.body (LamX.lamEnv X I.scope s3.heap.objs.size f b)) _ _
    have kp : ∀ d o, s3.heap.get? d = some o → hN.get? d = some o := fun d o e => sb.extBut d o (Nat.ne_of_lt (Heap.lt_size e)) (Heap.get?_push_of_some _ e)
    have unB : Un (frs X.stack) fpB HB H3 sB.heap s3.heap := Un.trans (show Un (frs X.stack) fpB HB H sB.heap s.heap from J.base) (un3.mono (fun _ z => z) fun _ z => by cases z)
    have JL := lamd_startZ (A := X.A.deeper (envOfC qg sg s.heap.objs.size g cdg)) (outer := envOfC qg sg s.heap.objs.size g cdg :: X.stack) (E := E) (f := f) (b := b) (tk := s3.toks + bs.length) I0 D.D hzz J3.env0 rm.hd unB (fun x c e z => nx c z x c e rfl) ns kp
    refine PySem.W.kla_codeExpr (wpAny_mono ((bd _ _ s3 H3 (rm.deeper _)).run [] _ _ H3 R JL ht) (fun v s4 hq => ?_) fun _ _ hq => hq)
    obtain ⟨v', H4, J4, rv, q⟩ := hq
    exact ⟨v', H4, J4.os, J4.bare, J4.base, J4.hok, rv, q⟩
  have hx : Passes (L2.CX X.prog X.w) ((cxOf CXg X.prog X.w X.K X.mg X.base Ng qg sg g cdg X.A X.stack s H Eg).tr pn xe) E := passes_call tk hW
  refine wpAny_call (codeAny_mono run fun r s4 hq => ?_)
  rcases r with e | fl
  · exact hx pins2 σ2 H3 s3 e s4 J3 hq
  · cases fl with
    | ret v => exact J3.after hq
    | _ => exact hq.elim
end
theorem de_kindVZ {ks : List Nat} {cl : Cl} {X : Cx} {E : XK} {sB : Shared} {HB : Hp} {scB : Scope} {ceB : Env} {fpB : List Addr} {pins0 : List (Addr × Obj)} {σ0 : L2.St} {m0 : List Addr} {sd0 : Sl} {x a : Str} {g : Addr} {k : Nat} {pg : Arguments} {bg : List Stmt} {sg : Scope} {fd : FuncData} {Ng : List Str} {e : Expr} {p pos : Pos} {fe : Sl → Sto → Res D} {fs : Nat → Option (Sl → Sto → Res D)} {Fx : Exc → Sto → Res D}
    (I0 : Inv X pins0 σ0 HB sB) (rl0 : RSl X.K m0 HB sd0 σ0) (nx : ∀ b ∈ fpB, ∀ x c, X.env.cells.lookup x = some c → c ≠ b) (co : Cok (X.blk sB HB scB ceB fpB) E (k + 2)) (hg : Gl (X.blk sB HB scB ceB fpB) x) (hm : X.mg x = some (.ref g)) (Fu : FunD X.K x x pg bg sg [] [] g fd) (Sg : FnScope Ng [a] sg)
    (hb : ∀ (kV doc pm : Value) (an : Option Addr) (cdv ct : Value) (us : List Value), us.length = [a].length → bindArgs (PySem.W.fnOf x x pg bg sg .none kV doc pm an cdv ct) ⟨us, []⟩ = pure ([a].zip us)) (hNg : Ng[0]? = some a) (hva : Vis sg a)
    (hG : ∀ cdv, LamX.GivesTo (X.blk sB HB scB ceB fpB) Ng x sg g cdv bg a (X.env.qual ++ "<lambda>") (TKind cl X.K Fx)) (L : LamSetZ cl X k ks fs) (he : DE cl (X.blk sB HB scB ceB fpB) E e fe)
    (na : starEach [e] ceB = (false, eval e ceB) :: starEach [] ceB := by rfl)
    (hdb : (x == ("__debug__" : Str)) = false := by decide) (hd : (a == ("__debug__" : Str)) = false := by decide) (hcd : (a == ("__classdict__" : Str)) = false := by decide) :
    DE cl (X.blk sB HB scB ceB fpB) E (.Call (.Name x p) [e] [] pos) (dKindVE Fx fs fe (wipeD sd0 ks)) := by
  replace rl0 := rl0.wipe ks
  replace I0 : Inv X pins0 (wipe σ0 ks) HB sB := I0.weak (wipe_length _ _) fun j v e => (wipe_some e).1
  have hB : Binds X.K fd [a] [] := Fu.bindsN hb
  have hkp := Fu.kp
  obtain ⟨oc, od, dV, kV, doc, pm, an, cdv, ct, osl, rfl, lk, hcc, _, _⟩ := Fu.ex
  obtain ⟨te, pe, he⟩ := he
  let t0 : (Sl → Sto → Res D) → XK → TE := fun fb E' σ H Q => ∃ m S sd, RS cl X.K m S H ∧ RSl X.K m H sd σ ∧ Post cl X.K (RV X.K) m H E' Q (fb sd S)
  refine ⟨tKVE cl X.K E fs Fx (wipeD sd0 ks) te, ⟨fun pins s σ H R J hyp => ?_⟩, fun m S H sd σ Q rs rl h => ?_⟩
  · refine wpAny_Call_Name_kw (ld_glob J hg hm (PySem.W.callWith_K (h₀ := X.base) J.ok.mod.kin hkp ?_ na (by rfl)) hdb)
    rw [na]
    show wpAny _ _ (spliced ((false, eval e ceB) :: backTo pos (starEach [] ceB))) _ _ s
    refine Calls.spliced_cons (thn (pe.run pins s σ H _ J hyp) fun v s1 ⟨v', H1, J1, rv1, q1⟩ => Calls.spliced_nil ⟨J1.kIn, ?_⟩)
    obtain ⟨f, o, w, i, fb, m, S, rfl, fo, hfs, hlam, rs, hp⟩ := q1
    cases rv1
    obtain ⟨I, hl, D, hn, eq, hbody⟩ := L.all i fb hfs
    obtain ⟨dV', doc', pm', ctv', b, eo, hco, dv⟩ := hl _ _ hlam
    have unB : Un (frs X.stack) fpB HB H1 sB.heap s1.heap := J1.base
    have hT : TKind cl X.K Fx (fun E H' R' => t0 fb E (wipe σ0 ks) H' R') H1 R := by
      refine ⟨m, S, maskD (wipeD sd0 ks), rs, mask_rl rl0 unB.tups unB.frzs, ?_⟩
      unfold dKind at hp
      cases hres : fb (maskD (wipeD sd0 ks)) S with
      | ok d S2 =>
        rw [hres] at hp
        exact hp
      | exc q S2 =>
        rw [hres] at hp
        dsimp only at hp
        intro m' dd H' x' k' rs' rx
        refine ⟨q, m', S2, rfl, rs', rx, ?_⟩
        cases hq : Fx q S2 with
        | ok d S3 =>
          rw [hq] at hp
          exact Post.mono x' k' hp
        | exc y S3 => rw [hq] at hp; exact hp.elim
        | stuck => rw [hq] at hp; exact hp.elim
      | stuck =>
        rw [hres] at hp
        exact hp.elim
    have run : codeAny (model X.prog X.w) X.A (.call (.ref g) ⟨[.ref f], []⟩) (CR C8.CX0 (X.blk sB HB scB ceB fpB).stack X.prog X.w H1 s1 R C8.E0) s1 := by
      refine LamX.run_ofS (N := Ng) (ps := [a]) (us := [.ref f]) (vs := [.ref f]) lk hcc Sg co.hr J1.env0 (hB s1 [.ref f] J1.kIn rfl) (.cons rfl .nil) rfl fun rm2 => ?_
      obtain ⟨t', ht', hq'⟩ := hG cdv f b s1 H1 R (fun E H' R' => t0 fb E (wipe σ0 ks) H' R') (fun W pn xe E p1 p2 tk hW => by
        have z := lamv_actZ (i := 0) (p1 := p1) (p2 := p2) (tb := t0 fb E) I0 nx J1 D (fun i y v e1 e2 e3 => (wipe_some e3).2 (hn i y e1 e2)) fo eo dv hco eq tk hW rm2 (fun A outer s H rm3 => ?_) hNg hva hd hcd
        · rw [← eq]
          exact z
        · have tk : Takes (LamX.lamCx X A outer s H E I.scope f b) (fun cls d _ H => E cls d H) := takes_of rfl rfl rfl rfl
          obtain ⟨t', p', hh⟩ := hbody A outer s H E f b ⟨rfl, passes_call tk fun _ _ _ _ h => h, tk, passes_of rfl, rm3, co.nd⟩
          refine ⟨fun pins s' σ H' Q J' h => ?_⟩
          obtain ⟨m, S, sd, rs, rl, h⟩ := h
          exact p'.run pins s' σ H' Q J' (hh m S H' sd σ Q rs rl h)) (by rw [← eq]; exact hco) hT
      exact ⟨t', ht'.nox, hq'⟩
    refine wpAny_call (codeAny_mono run fun r s2 hq => ?_)
    rcases r with e | fl
    · exact (show False from hq).elim
    · cases fl with
      | ret v => exact J1.after hq
      | _ => exact hq.elim
  · refine he m S H sd σ _ rs rl (Post.bind h fun d S1 m1 v H1 x1 k1 rs1 rv1 h1 => ?_)
    split at h1
    · rename_i l
      split at h1
      · rename_i i e1
        obtain ⟨f, g1, i', o, w, e2, fo, hlam⟩ := rs1.adr e1
        obtain ⟨f', g2, rfl⟩ := rv1
        rw [g1] at g2; cases g2
        simp only [List.cons.injEq, Prod.mk.injEq, D.int.injEq, and_true] at e2
        subst e2
        split at h1
        · rename_i fb hfs
          exact ⟨f, o, w, i.toNat, fb, m1, S1, rfl, fo, hfs, hlam _ (Keep.refl _), rs1, h1⟩
        · exact h1.elim
      · exact h1.elim
    · exact h1.elim
end DL

namespace Lw
open PySem PySem.Spec PyProof.Rows L2 DL
def fuelW : Nat := 1000000000000000
def top (i : Nat) : Stmt := PySem.Challenge.pw_tablebeat_k12_the_fewest_marks.main.body.getD i (.Pass ⟨0, 0, 0, 0⟩)
abbrev st__law_start : Stmt := top 32
abbrev st__law_drawn : Stmt := top 33
abbrev st__law_beats : Stmt := top 39
abbrev st__law_marks : Stmt := top 43
abbrev st__law_lets : Stmt := top 42
abbrev st__law_covers : Stmt := top 44
abbrev st_is_word : Stmt := top 20
abbrev st_need_beats : Stmt := top 22
abbrev st_Cover_left : Stmt := inClass (top 28) 1
abbrev st_Cover_many : Stmt := inClass (top 28) 2
abbrev st_Cover_first : Stmt := inClass (top 28) 3
abbrev st_Cover_init : Stmt := inClass (top 28) 0
abbrev st_all_beats : Stmt := top 21
abbrev st_all_marks : Stmt := top 25
abbrev st_fits : Stmt := top 23
abbrev st_wider : Stmt := top 26
abbrev st_marks_of : Stmt := top 27
abbrev st_fewest_of : Stmt := top 29
abbrev st_fewest : Stmt := top 30
abbrev st__law_same : Stmt := top 34
abbrev st__law_far : Stmt := top 36
abbrev st__law_kind : Stmt := top 35
abbrev st_law : Stmt := top 45
abbrev st_x_BadMachine : Stmt := inClass (top 2) 0
abbrev st_x_BadBeat : Stmt := inClass (top 4) 0
abbrev st_x_BadPlain : Stmt := inClass (top 5) 0
abbrev st_x_BadProgram : Stmt := inClass (top 10) 0
abbrev st_x_BadCircuit : Stmt := inClass (top 12) 0
abbrev st_x_BadRows : Stmt := inClass (top 16) 0
abbrev st_x_BadText : Stmt := inClass (top 17) 0
def cn : Nat → Str
  | 0 => "BeatError"
  | 1 => "BadMachine"
  | 2 => "NotSound"
  | 3 => "BadBeat"
  | 4 => "BadPlain"
  | 5 => "TooLarge"
  | 6 => "BadMatch"
  | 7 => "BadMarks"
  | 8 => "BadTree"
  | 9 => "BadProgram"
  | 10 => "Stuck"
  | 11 => "BadCircuit"
  | 12 => "BadPattern"
  | 13 => "BadPairs"
  | 14 => "BadNumbers"
  | 15 => "BadRows"
  | 16 => "BadText"
  | 21 => "Cover"
  | _ => ""
def tq : List (He.Defn × Str) := [(("law", none), "law")]
def tf : List He.Defn := tq.map Prod.fst
abbrev cl0 (K : PySem.W.Frag) : Cl := ⟨fun c => He.ga K (cn c), tabsQ K tq, fun _ => 0, fun _ _ _ => False, fun _ _ _ _ => False⟩
abbrev clL (K : PySem.W.Frag) (w : World) (lm : LamK1) (lb : LamK2) : Cl := ⟨fun c => He.ga K (cn c), tabsQ K tq, fun k => k.hash w, lm, lb⟩
abbrev lam_0 : LamI := lamOf "law.<locals>.<lambda>" none (pE (pElts (pVal (pS (pBody (pS (defBody st_law) 1)) 13))) 0)
abbrev lam_1 : LamI := lamOf "law.<locals>.<lambda>" (some "_law_a") (pE (pElts (pVal (pS (pBody (pS (defBody st_law) 1)) 13))) 1)
abbrev lam_2 : LamI := lamOf "law.<locals>.<lambda>" (some "_law_b") (pE (pElts (pRight (pVal (pS (pBody (pS (defBody st_law) 1)) 14)))) 0)
abbrev lam_3 : LamI := lamOf "law.<locals>.<lambda>" (some "_law_c") (pE (pElts (pRight (pVal (pS (pBody (pS (defBody st_law) 1)) 14)))) 1)
def lamTab : List LamI := [lam_0, lam_1, lam_2, lam_3]
abbrev lm0 : LamK1 := fun _ _ _ => False
abbrev lb0 : LamK2 := fun _ _ _ _ => False
abbrev cl (K : PySem.W.Frag) (w : World) : Cl := clL K w lm0 lb0
def TbA (K : PySem.W.Frag) (mg : Str → Option Value) (base : Heap) : Prop := ∀ t ∈ tf, LamX.TabB base mg (He.cT K t).1 (He.cT K t).2
structure Tx (K : PySem.W.Frag) (mg : Str → Option Value) (w : World) (lm : LamK1) (lb : LamK2) : Prop where
  g__law_start : mg "_law_start" = some (.ref (He.ga K "_law_start"))
  g__law_drawn : mg "_law_drawn" = some (.ref (He.ga K "_law_drawn"))
  g__law_beats : mg "_law_beats" = some (.ref (He.ga K "_law_beats"))
  g__law_marks : mg "_law_marks" = some (.ref (He.ga K "_law_marks"))
  g__law_lets : mg "_law_lets" = some (.ref (He.ga K "_law_lets"))
  g__law_covers : mg "_law_covers" = some (.ref (He.ga K "_law_covers"))
  g_is_word : mg "is_word" = some (.ref (He.ga K "is_word"))
  g_need_beats : mg "need_beats" = some (.ref (He.ga K "need_beats"))
  g_all_beats : mg "all_beats" = some (.ref (He.ga K "all_beats"))
  g_all_marks : mg "all_marks" = some (.ref (He.ga K "all_marks"))
  g_fits : mg "fits" = some (.ref (He.ga K "fits"))
  g_wider : mg "wider" = some (.ref (He.ga K "wider"))
  g_marks_of : mg "marks_of" = some (.ref (He.ga K "marks_of"))
  g_fewest_of : mg "fewest_of" = some (.ref (He.ga K "fewest_of"))
  g_fewest : mg "fewest" = some (.ref (He.ga K "fewest"))
  g__law_same : mg "_law_same" = some (.ref (He.ga K "_law_same"))
  g__law_far : mg "_law_far" = some (.ref (He.ga K "_law_far"))
  g__law_kind : mg "_law_kind" = some (.ref (He.ga K "_law_kind"))
  g_law : mg "law" = some (.ref (He.ga K "law"))
  g_BeatError : mg "BeatError" = some (.ref (He.ga K "BeatError"))
  g_BadMachine : mg "BadMachine" = some (.ref (He.ga K "BadMachine"))
  g_NotSound : mg "NotSound" = some (.ref (He.ga K "NotSound"))
  g_BadBeat : mg "BadBeat" = some (.ref (He.ga K "BadBeat"))
  g_BadPlain : mg "BadPlain" = some (.ref (He.ga K "BadPlain"))
  g_TooLarge : mg "TooLarge" = some (.ref (He.ga K "TooLarge"))
  g_BadMatch : mg "BadMatch" = some (.ref (He.ga K "BadMatch"))
  g_BadMarks : mg "BadMarks" = some (.ref (He.ga K "BadMarks"))
  g_BadTree : mg "BadTree" = some (.ref (He.ga K "BadTree"))
  g_BadProgram : mg "BadProgram" = some (.ref (He.ga K "BadProgram"))
  g_Stuck : mg "Stuck" = some (.ref (He.ga K "Stuck"))
  g_BadCircuit : mg "BadCircuit" = some (.ref (He.ga K "BadCircuit"))
  g_BadPattern : mg "BadPattern" = some (.ref (He.ga K "BadPattern"))
  g_BadPairs : mg "BadPairs" = some (.ref (He.ga K "BadPairs"))
  g_BadNumbers : mg "BadNumbers" = some (.ref (He.ga K "BadNumbers"))
  g_BadRows : mg "BadRows" = some (.ref (He.ga K "BadRows"))
  g_BadText : mg "BadText" = some (.ref (He.ga K "BadText"))
  g_Cover : mg "Cover" = some (.ref (He.ga K "Cover"))
  z_isinstance : mg "isinstance" = none
  z_ValueError : mg "ValueError" = none
  z_range : mg "range" = none
  z_len : mg "len" = none
  z_int : mg "int" = none
  z_list : mg "list" = none
  z_enumerate : mg "enumerate" = none
  z_sorted : mg "sorted" = none
  z_set : mg "set" = none
  z_tuple : mg "tuple" = none
  z_min : mg "min" = none
  z_str : mg "str" = none
  z_bool : mg "bool" = none
  k_MOST_INS : Con0 K mg "MOST_INS" (.int 4)
  xb : ExB K (clL K w lm lb 0)
  xo_BadMachine : OexC K (clL K w lm lb 1)
  xi_BadMachine : (∀ f ∈ (["why", "spot"] : List Str), PySem.W.findIn K (.ref (clL K w lm lb 1)) f = some none) ∧ PySem.W.findIn K (.ref (clL K w lm lb 1)) "__init__" = some (some (.ref (He.ma K (clL K w lm lb 1) "__init__"))) ∧ PySem.W.typeIn K (.ref (He.ma K (clL K w lm lb 1) "__init__")) = some (.type "function")
  xt_NotSound : ExT K (clL K w lm lb 2)
  xo_BadBeat : OexC K (clL K w lm lb 3)
  xi_BadBeat : (∀ f ∈ (["number"] : List Str), PySem.W.findIn K (.ref (clL K w lm lb 3)) f = some none) ∧ PySem.W.findIn K (.ref (clL K w lm lb 3)) "__init__" = some (some (.ref (He.ma K (clL K w lm lb 3) "__init__"))) ∧ PySem.W.typeIn K (.ref (He.ma K (clL K w lm lb 3) "__init__")) = some (.type "function")
  xo_BadPlain : OexC K (clL K w lm lb 4)
  xi_BadPlain : (∀ f ∈ (["number"] : List Str), PySem.W.findIn K (.ref (clL K w lm lb 4)) f = some none) ∧ PySem.W.findIn K (.ref (clL K w lm lb 4)) "__init__" = some (some (.ref (He.ma K (clL K w lm lb 4) "__init__"))) ∧ PySem.W.typeIn K (.ref (He.ma K (clL K w lm lb 4) "__init__")) = some (.type "function")
  xt_TooLarge : ExT K (clL K w lm lb 5)
  xt_BadMatch : ExT K (clL K w lm lb 6)
  xt_BadMarks : ExT K (clL K w lm lb 7)
  xt_BadTree : ExT K (clL K w lm lb 8)
  xo_BadProgram : OexC K (clL K w lm lb 9)
  xi_BadProgram : (∀ f ∈ (["number"] : List Str), PySem.W.findIn K (.ref (clL K w lm lb 9)) f = some none) ∧ PySem.W.findIn K (.ref (clL K w lm lb 9)) "__init__" = some (some (.ref (He.ma K (clL K w lm lb 9) "__init__"))) ∧ PySem.W.typeIn K (.ref (He.ma K (clL K w lm lb 9) "__init__")) = some (.type "function")
  xt_Stuck : ExT K (clL K w lm lb 10)
  xo_BadCircuit : OexC K (clL K w lm lb 11)
  xi_BadCircuit : (∀ f ∈ (["number"] : List Str), PySem.W.findIn K (.ref (clL K w lm lb 11)) f = some none) ∧ PySem.W.findIn K (.ref (clL K w lm lb 11)) "__init__" = some (some (.ref (He.ma K (clL K w lm lb 11) "__init__"))) ∧ PySem.W.typeIn K (.ref (He.ma K (clL K w lm lb 11) "__init__")) = some (.type "function")
  xt_BadPattern : ExT K (clL K w lm lb 12)
  xt_BadPairs : ExT K (clL K w lm lb 13)
  xt_BadNumbers : ExT K (clL K w lm lb 14)
  xo_BadRows : OexC K (clL K w lm lb 15)
  xi_BadRows : (∀ f ∈ (["number"] : List Str), PySem.W.findIn K (.ref (clL K w lm lb 15)) f = some none) ∧ PySem.W.findIn K (.ref (clL K w lm lb 15)) "__init__" = some (some (.ref (He.ma K (clL K w lm lb 15) "__init__"))) ∧ PySem.W.typeIn K (.ref (He.ma K (clL K w lm lb 15) "__init__")) = some (.type "function")
  xo_BadText : OexC K (clL K w lm lb 16)
  xi_BadText : (∀ f ∈ (["row"] : List Str), PySem.W.findIn K (.ref (clL K w lm lb 16)) f = some none) ∧ PySem.W.findIn K (.ref (clL K w lm lb 16)) "__init__" = some (some (.ref (He.ma K (clL K w lm lb 16) "__init__"))) ∧ PySem.W.typeIn K (.ref (He.ma K (clL K w lm lb 16) "__init__")) = some (.type "function")
  c_Cover : Cls K (clL K w lm lb 21)
  mk_Cover : Mk K (clL K w lm lb 21) (He.ma K (He.ga K "Cover") "__init__")
  m_Cover_left : Meth K (clL K w lm lb 21) "left" (He.ma K (He.ga K "Cover") "left")
  m_Cover_many : Meth K (clL K w lm lb 21) "many" (He.ma K (He.ga K "Cover") "many")
  m_Cover_first : Meth K (clL K w lm lb 21) "first" (He.ma K (He.ga K "Cover") "first")
  tu : tabU K tq = true
  ea : ExAll K (clL K w lm lb) 17
  fl_Cover_known : ∀ c ∈ ([21] : List Nat), Cls K (clL K w lm lb c) ∧ NoAttr K (clL K w lm lb c) "known"
  fl_Cover_marks : ∀ c ∈ ([21] : List Nat), Cls K (clL K w lm lb c) ∧ NoAttr K (clL K w lm lb c) "marks"
  f__law_start : ∃ fd, FunD K "_law_start" "_law_start" (defArgs st__law_start) (defBody st__law_start) (defScope st__law_start) [] [] (He.fAd K ("_law_start", none)) fd
  f__law_drawn : ∃ fd, FunD K "_law_drawn" "_law_drawn" (defArgs st__law_drawn) (defBody st__law_drawn) (defScope st__law_drawn) [] [] (He.fAd K ("_law_drawn", none)) fd
  f__law_beats : ∃ fd, FunD K "_law_beats" "_law_beats" (defArgs st__law_beats) (defBody st__law_beats) (defScope st__law_beats) [] [] (He.fAd K ("_law_beats", none)) fd
  f__law_marks : ∃ fd, FunD K "_law_marks" "_law_marks" (defArgs st__law_marks) (defBody st__law_marks) (defScope st__law_marks) [] [] (He.fAd K ("_law_marks", none)) fd
  f__law_lets : ∃ fd, FunD K "_law_lets" "_law_lets" (defArgs st__law_lets) (defBody st__law_lets) (defScope st__law_lets) [] [] (He.fAd K ("_law_lets", none)) fd
  f__law_covers : ∃ fd, FunD K "_law_covers" "_law_covers" (defArgs st__law_covers) (defBody st__law_covers) (defScope st__law_covers) [] [] (He.fAd K ("_law_covers", none)) fd
  f_is_word : ∃ fd, FunD K "is_word" "is_word" (defArgs st_is_word) (defBody st_is_word) (defScope st_is_word) [] [] (He.fAd K ("is_word", none)) fd
  f_need_beats : ∃ fd, FunD K "need_beats" "need_beats" (defArgs st_need_beats) (defBody st_need_beats) (defScope st_need_beats) [] [] (He.fAd K ("need_beats", none)) fd
  f_Cover_left : ∃ fd, FunD K "left" "Cover.left" (defArgs st_Cover_left) (defBody st_Cover_left) (defScope st_Cover_left) [] [] (He.fAd K ("Cover", some "left")) fd
  f_Cover_many : ∃ fd, FunD K "many" "Cover.many" (defArgs st_Cover_many) (defBody st_Cover_many) (defScope st_Cover_many) [] [] (He.fAd K ("Cover", some "many")) fd
  f_Cover_first : ∃ fd, FunD K "first" "Cover.first" (defArgs st_Cover_first) (defBody st_Cover_first) (defScope st_Cover_first) [] [] (He.fAd K ("Cover", some "first")) fd
  f_Cover_init : ∃ fd, FunD K "__init__" "Cover.__init__" (defArgs st_Cover_init) (defBody st_Cover_init) (defScope st_Cover_init) [] [] (He.fAd K ("Cover", some "__init__")) fd
  f_all_beats : ∃ fd, FunD K "all_beats" "all_beats" (defArgs st_all_beats) (defBody st_all_beats) (defScope st_all_beats) [] [] (He.fAd K ("all_beats", none)) fd
  f_all_marks : ∃ fd, FunD K "all_marks" "all_marks" (defArgs st_all_marks) (defBody st_all_marks) (defScope st_all_marks) [] [] (He.fAd K ("all_marks", none)) fd
  f_fits : ∃ fd, FunD K "fits" "fits" (defArgs st_fits) (defBody st_fits) (defScope st_fits) [] [] (He.fAd K ("fits", none)) fd
  f_wider : ∃ fd, FunD K "wider" "wider" (defArgs st_wider) (defBody st_wider) (defScope st_wider) [] [] (He.fAd K ("wider", none)) fd
  f_marks_of : ∃ fd, FunD K "marks_of" "marks_of" (defArgs st_marks_of) (defBody st_marks_of) (defScope st_marks_of) [] [] (He.fAd K ("marks_of", none)) fd
  f_fewest_of : ∃ fd, FunD K "fewest_of" "fewest_of" (defArgs st_fewest_of) (defBody st_fewest_of) (defScope st_fewest_of) [] [] (He.fAd K ("fewest_of", none)) fd
  f_fewest : ∃ fd, FunD K "fewest" "fewest" (defArgs st_fewest) (defBody st_fewest) (defScope st_fewest) [] [] (He.fAd K ("fewest", none)) fd
  f__law_same : ∃ fd, FunD K "_law_same" "_law_same" (defArgs st__law_same) (defBody st__law_same) (defScope st__law_same) [] [] (He.fAd K ("_law_same", none)) fd
  f__law_far : ∃ fd, FunD K "_law_far" "_law_far" (defArgs st__law_far) (defBody st__law_far) (defScope st__law_far) [] [] (He.fAd K ("_law_far", none)) fd
  f__law_kind : ∃ fd, FunD K "_law_kind" "_law_kind" (defArgs st__law_kind) (defBody st__law_kind) (defScope st__law_kind) [] [] (He.fAd K ("_law_kind", none)) fd
  f_law : ∃ fd, FunD K "law" "law" (defArgs st_law) (defBody st_law) (defScope st_law) [] [] (He.fAd K ("law", none)) fd
  f_x_BadMachine : ∃ fd, FunD K "__init__" "BadMachine.__init__" (defArgs st_x_BadMachine) (defBody st_x_BadMachine) (defScope st_x_BadMachine) [] [] (He.fAd K ("BadMachine", some "__init__")) fd
  f_x_BadBeat : ∃ fd, FunD K "__init__" "BadBeat.__init__" (defArgs st_x_BadBeat) (defBody st_x_BadBeat) (defScope st_x_BadBeat) [] [] (He.fAd K ("BadBeat", some "__init__")) fd
  f_x_BadPlain : ∃ fd, FunD K "__init__" "BadPlain.__init__" (defArgs st_x_BadPlain) (defBody st_x_BadPlain) (defScope st_x_BadPlain) [] [] (He.fAd K ("BadPlain", some "__init__")) fd
  f_x_BadProgram : ∃ fd, FunD K "__init__" "BadProgram.__init__" (defArgs st_x_BadProgram) (defBody st_x_BadProgram) (defScope st_x_BadProgram) [] [] (He.fAd K ("BadProgram", some "__init__")) fd
  f_x_BadCircuit : ∃ fd, FunD K "__init__" "BadCircuit.__init__" (defArgs st_x_BadCircuit) (defBody st_x_BadCircuit) (defScope st_x_BadCircuit) [] [] (He.fAd K ("BadCircuit", some "__init__")) fd
  f_x_BadRows : ∃ fd, FunD K "__init__" "BadRows.__init__" (defArgs st_x_BadRows) (defBody st_x_BadRows) (defScope st_x_BadRows) [] [] (He.fAd K ("BadRows", some "__init__")) fd
  f_x_BadText : ∃ fd, FunD K "__init__" "BadText.__init__" (defArgs st_x_BadText) (defBody st_x_BadText) (defScope st_x_BadText) [] [] (He.fAd K ("BadText", some "__init__")) fd
theorem sc__law_start : FnScope ["_law_script", "_law_mixed", "_law_cell"] ["_law_script"] (defScope st__law_start) := ⟨rfl, rfl, rfl, by decide +kernel, rfl, by decide +kernel, by decide +kernel⟩
theorem sc__law_drawn : FnScope ["_law_state", "_law_many", "_law_found", "_law_cell"] ["_law_state", "_law_many"] (defScope st__law_drawn) := ⟨rfl, rfl, rfl, by decide +kernel, rfl, by decide +kernel, by decide +kernel⟩
theorem sc__law_beats : FnScope ["_law_ins", "_law_rest", "_law_beat_here"] ["_law_ins"] (defScope st__law_beats) := ⟨rfl, rfl, rfl, by decide +kernel, rfl, by decide +kernel, by decide +kernel⟩
theorem sc__law_marks : FnScope ["_law_ins", "_law_rest", "_law_found", "_law_sign", "_law_mark"] ["_law_ins"] (defScope st__law_marks) := ⟨rfl, rfl, rfl, by decide +kernel, rfl, by decide +kernel, by decide +kernel⟩
theorem sc__law_lets : FnScope ["_law_mark", "_law_beat_here", "_law_k"] ["_law_mark", "_law_beat_here"] (defScope st__law_lets) := ⟨rfl, rfl, rfl, by decide +kernel, rfl, by decide +kernel, by decide +kernel⟩
theorem sc__law_covers : FnScope ["_law_marks_here", "_law_rest", "_law_many", "_law_k", "_law_less", "_law_found", "_law_beat_here"] ["_law_marks_here", "_law_rest", "_law_many"] (defScope st__law_covers) := ⟨rfl, rfl, rfl, by decide +kernel, rfl, by decide +kernel, by decide +kernel⟩
theorem sc_is_word : FnScope ["word", "many", "signs", "sign"] ["word", "many", "signs"] (defScope st_is_word) := ⟨rfl, rfl, rfl, by decide +kernel, rfl, by decide +kernel, by decide +kernel⟩
theorem sc_need_beats : FnScope ["ins", "beats", "number", "beat"] ["ins", "beats"] (defScope st_need_beats) := ⟨rfl, rfl, rfl, by decide +kernel, rfl, by decide +kernel, by decide +kernel⟩
theorem sc_Cover_left : FnScope ["self", "rest", "beats", "beat"] ["self", "rest", "beats"] (defScope st_Cover_left) := ⟨rfl, rfl, rfl, by decide +kernel, rfl, by decide +kernel, by decide +kernel⟩
theorem sc_Cover_many : FnScope ["self", "rest", "some", "mark", "beats"] ["self", "rest"] (defScope st_Cover_many) := ⟨rfl, rfl, rfl, by decide +kernel, rfl, by decide +kernel, by decide +kernel⟩
theorem sc_Cover_first : FnScope ["self", "rest", "found", "mark", "beats", "behind"] ["self", "rest"] (defScope st_Cover_first) := ⟨rfl, rfl, rfl, by decide +kernel, rfl, by decide +kernel, by decide +kernel⟩
theorem sc_Cover_init : FnScope ["self", "marks"] ["self", "marks"] (defScope st_Cover_init) := ⟨rfl, rfl, rfl, by decide +kernel, rfl, by decide +kernel, by decide +kernel⟩
theorem sc_all_beats : FnScope ["ins", "found", "wire", "longer", "beat"] ["ins"] (defScope st_all_beats) := ⟨rfl, rfl, rfl, by decide +kernel, rfl, by decide +kernel, by decide +kernel⟩
theorem sc_all_marks : FnScope ["ins", "found", "wire", "longer", "mark", "sign"] ["ins"] (defScope st_all_marks) := ⟨rfl, rfl, rfl, by decide +kernel, rfl, by decide +kernel, by decide +kernel⟩
theorem sc_fits : FnScope ["mark", "beat", "k"] ["mark", "beat"] (defScope st_fits) := ⟨rfl, rfl, rfl, by decide +kernel, rfl, by decide +kernel, by decide +kernel⟩
theorem sc_wider : FnScope ["mark", "k"] ["mark"] (defScope st_wider) := ⟨rfl, rfl, rfl, by decide +kernel, rfl, by decide +kernel, by decide +kernel⟩
theorem sc_marks_of : FnScope ["ins", "some", "beats", "known", "mark", "good", "beat", "one"] ["ins", "some"] (defScope st_marks_of) := ⟨rfl, rfl, rfl, by decide +kernel, rfl, by decide +kernel, by decide +kernel⟩
theorem sc_fewest_of : FnScope ["ins", "some"] ["ins", "some"] (defScope st_fewest_of) := ⟨rfl, rfl, rfl, by decide +kernel, rfl, by decide +kernel, by decide +kernel⟩
theorem sc_fewest : FnScope ["ins", "some"] ["ins", "some"] (defScope st_fewest) := ⟨rfl, rfl, rfl, by decide +kernel, rfl, by decide +kernel, by decide +kernel⟩
theorem sc__law_same : FnScope ["_law_found", "_law_due", "_law_k"] ["_law_found", "_law_due"] (defScope st__law_same) := ⟨rfl, rfl, rfl, by decide +kernel, rfl, by decide +kernel, by decide +kernel⟩
theorem sc__law_far : FnScope ["_law_state", "_law_low", "_law_high", "_law_far_here"] ["_law_state", "_law_low", "_law_high"] (defScope st__law_far) := ⟨rfl, rfl, rfl, by decide +kernel, rfl, by decide +kernel, by decide +kernel⟩
theorem sc__law_kind : FnScope ["_law_work", "e", "_law_kinds", "_law_words", "_law_word"] ["_law_work"] (defScope st__law_kind) := ⟨rfl, rfl, rfl, by decide +kernel, rfl, by decide +kernel, by decide +kernel⟩
theorem sc_law : FnScope ["_law_script", "_law_state", "_law_turn", "_law_ins", "_law_beats_here", "_law_often", "_law_some", "_law_good", "_law_due", "_law_many", "_law_handed", "_law_again", "_law_odd", "_law_at_here", "_law_bad", "_law_works", "_law_found", "_law_beat_here", "_law_mark", "_law_work", "_law_b"] ["_law_script"] (defScope st_law) := ⟨rfl, rfl, rfl, by decide +kernel, rfl, by decide +kernel, by decide +kernel⟩
section
variable {lm : LamK1} {lb : LamK2} {P : Program} {w : World} {K : PySem.W.Frag} {mg : Str → Option Value} {base : Heap}
theorem sc_x_BadBeat : FnScope ["self", "number"] ["self", "number"] (defScope st_x_BadBeat) := ⟨rfl, rfl, rfl, by decide +kernel, rfl, by decide +kernel, by decide +kernel⟩
theorem x_BadBeat (T : Tx K mg w lm lb) : ExC P w (clL K w lm lb) K mg base 3 1 ["number"] := by
  obtain ⟨fd, Fu⟩ := T.f_x_BadBeat
  refine ⟨T.xo_BadBeat, T.xi_BadBeat.1, _, fd, ["self", "number"], spEx1 K (clL K w lm lb 3) "number", T.xi_BadBeat.2.1, T.xi_BadBeat.2.2, Fu.bindsN (fun _ _ _ _ _ _ us hl => match us, hl with | [_, _], _ => rfl), ?_, rfl⟩
  refine Fu.ok sc_x_BadBeat (fun vs H Q E h => ?_) (fun cdv A outer s H vs Q E hr h => ?_)
  · obtain ⟨a, y, rfl, _⟩ := h; rfl
  · obtain ⟨a, y, rfl, oex, n1, ha, k⟩ := h
    refine ⟨_, pss_cons (ps_expr (pe_beinit (by rfl) T.g_BeatError T.xb.hs1 T.xb.hrd T.xb.vV (pa_cons (pv 0) (pa_cons pe_str pa_nil)))) (pss_one (ps_ost (pv 0) (pv 1))), ?_⟩
    refine ⟨_, rfl, a, cl K w 3, [.str "it can't be"], rfl, (by show 1 ≤ 1000; decide), oex, ha, ?_⟩
    exact ⟨_, rfl, _, rfl, a, cl K w 3, rfl, oex, n1, .inl ⟨ha, fun dx hdx hne => k dx hdx hne⟩⟩
theorem su_kind_is : su_kind = fun q a d =>
  (sSeq (sAsg (dLstF (dCons (dExI 1 a d (q.c == 1 || 1 == 0)) (dCons (dExI 1 a d (q.c == 2 || 2 == 0)) (dCons (dExI 1 a d (q.c == 3 || 3 == 0)) (dCons (dExI 1 a d (q.c == 4 || 4 == 0)) dNil))))) (gVar 2))
  (sSeq (sAsg (d2 addF (dVar 2) (dLstF (dCons (dExI 1 a d (q.c == 5 || 5 == 0)) (dCons (dExI 1 a d (q.c == 6 || 6 == 0)) (dCons (dExI 1 a d (q.c == 7 || 7 == 0)) dNil))))) (gVar 2))
  (sSeq (sAsg (d2 addF (dVar 2) (dLstF (dCons (dExI 1 a d (q.c == 8 || 8 == 0)) (dCons (dExI 1 a d (q.c == 9 || 9 == 0)) (dCons (dExI 1 a d (q.c == 10 || 10 == 0)) dNil))))) (gVar 2))
  (sSeq (sAsg (d2 addF (dVar 2) (dLstF (dCons (dExI 1 a d (q.c == 11 || 11 == 0)) (dCons (dExI 1 a d (q.c == 12 || 12 == 0)) (dCons (dExI 1 a d (q.c == 13 || 13 == 0)) dNil))))) (gVar 2))
  (sSeq (sAsg (d2 addF (dVar 2) (dLstF (dCons (dExI 1 a d (q.c == 14 || 14 == 0)) (dCons (dExI 1 a d (q.c == 15 || 15 == 0)) (dCons (dExI 1 a d (q.c == 16 || 16 == 0)) dNil))))) (gVar 2))
  (sSeq (sAsg (dLstF (dCons (dC (.str "BadMachine")) (dCons (dC (.str "NotSound")) (dCons (dC (.str "BadBeat")) (dCons (dC (.str "BadPlain")) (dCons (dC (.str "TooLarge")) (dCons (dC (.str "BadMatch")) (dCons (dC (.str "BadMarks")) (dCons (dC (.str "BadTree")) dNil))))))))) (gVar 3))
  (sSeq (sAsg (d2 addF (dVar 3) (dLstF (dCons (dC (.str "BadProgram")) (dCons (dC (.str "Stuck")) (dCons (dC (.str "BadCircuit")) (dCons (dC (.str "BadPattern")) (dCons (dC (.str "BadPairs")) (dCons (dC (.str "BadNumbers")) (dCons (dC (.str "BadRows")) dNil))))))))) (gVar 3))
  (sSeq (sIf (tOrD (d2T neD (dBm "list" countD (dVar 2) (dCons (dC (.bl true)) dNil)) (dC (.int 1))) (tNotD (tstB (dExI 1 a d true)))) (sRet (dC (.str "other"))) sNext)
  (sSeq (sAsg (d2 ixD (d2 addF (dVar 3) (dLstF (dCons (dC (.str "BadText")) dNil))) (dBm "list" indexD (dVar 2) (dCons (dC (.bl true)) dNil))) (gVar 4))
  (sSeq (sIf (d2T eqD (dVar 4) (dC (.str "BadMachine"))) (sRet (dTup (dCons (dVar 4) (dCons (dExFc 1 q.c [1] a d "why") (dCons (dExFc 1 q.c [1] a d "spot") dNil))))) sNext)
  (sSeq (sIf (d2T inD (dVar 4) (dTup (dCons (dC (.str "BadBeat")) (dCons (dC (.str "BadPlain")) (dCons (dC (.str "BadProgram")) (dCons (dC (.str "BadCircuit")) (dCons (dC (.str "BadRows")) dNil))))))) (sRet (dTup (dCons (dVar 4) (dCons (dExFc 1 q.c [3, 4, 9, 11, 15] a d "number") dNil)))) sNext)
  (sRet (dIf (d2T eqD (dVar 4) (dC (.str "BadText"))) (dTup (dCons (dVar 4) (dCons (dExFc 1 q.c [16] a d "row") dNil))) (dVar 4)))))))))))))) := rfl
abbrev kCx (X : Cx) (cdg : Value) (s : Shared) (H : Hp) : Cx := (cxOf C8.CX0 X.prog X.w X.K X.mg X.base ["_law_work", "e", "_law_kinds", "_law_words", "_law_word"] "_law_kind" (defScope st__law_kind) (He.ga X.K "_law_kind") cdg X.A X.stack s H C8.E0).nox
theorem gives__law_kind {X : Cx} {k : Nat} (T : Tx X.K X.mg X.w lm lb) (hr : Room (k + 1) X.A) (cdg : Value) {q0 : Str} : LamX.GivesTo X ["_law_work", "e", "_law_kinds", "_law_words", "_law_word"] "_law_kind" (defScope st__law_kind) (He.ga X.K "_law_kind") cdg (defBody st__law_kind) "_law_work" q0 (TKind (clL X.K X.w lm lb) X.K x_kind) := by
  refine kind_gives (i := 1) (suF := su_kind) (ok := fun q => 1 ≤ q.c ∧ q.c < 17) rfl T.g_BeatError (by decide) (fun f => rfl) sc__law_kind.nd rfl rfl (fun q S hns => ⟨(x_kind_ok hns).1, T.ea.exm _ (x_kind_ok hns).1.2, (x_kind_ok hns).2⟩) (fun s H q a oe d pn hq hok hz hf => ?_) x_kind_su
  have co : CokS (((cxOf C8.CX0 X.prog X.w X.K X.mg X.base ["_law_work", "e", "_law_kinds", "_law_words", "_law_word"] "_law_kind" (defScope st__law_kind) (He.ga X.K "_law_kind") cdg X.A X.stack s H C8.E0).nox).suite a ((a, oe) :: pn)) := cokS_of sc__law_kind.nd rfl hr
  rw [su_kind_is]
  exact
      (z8 (zd (i := 2) co.nd rfl (Or.inl rfl) (de_lstF (z4 (de_exI (X := kCx X cdg s H) (T.ea.exc _ hq.2) hz hf rfl (Or.inl rfl) (by decide +kernel) (by decide +kernel) (by rfl) T.z_isinstance (by rfl) T.g_BadMachine (T.ea.kit _ 1 hq.2 (by decide))) (z4 (de_exI (X := kCx X cdg s H) (T.ea.exc _ hq.2) hz hf rfl (Or.inl rfl) (by decide +kernel) (by decide +kernel) (by rfl) T.z_isinstance (by rfl) T.g_NotSound (T.ea.kit _ 2 hq.2 (by decide))) (z4 (de_exI (X := kCx X cdg s H) (T.ea.exc _ hq.2) hz hf rfl (Or.inl rfl) (by decide +kernel) (by decide +kernel) (by rfl) T.z_isinstance (by rfl) T.g_BadBeat (T.ea.kit _ 3 hq.2 (by decide))) (z4 (de_exI (X := kCx X cdg s H) (T.ea.exc _ hq.2) hz hf rfl (Or.inl rfl) (by decide +kernel) (by decide +kernel) (by rfl) T.z_isinstance (by rfl) T.g_BadPlain (T.ea.kit _ 4 hq.2 (by decide))) z7))))))
      (z8 (zd (i := 2) co.nd rfl (Or.inl rfl) (zb op_addF (z3 2) (de_lstF (z4 (de_exI (X := kCx X cdg s H) (T.ea.exc _ hq.2) hz hf rfl (Or.inl rfl) (by decide +kernel) (by decide +kernel) (by rfl) T.z_isinstance (by rfl) T.g_TooLarge (T.ea.kit _ 5 hq.2 (by decide))) (z4 (de_exI (X := kCx X cdg s H) (T.ea.exc _ hq.2) hz hf rfl (Or.inl rfl) (by decide +kernel) (by decide +kernel) (by rfl) T.z_isinstance (by rfl) T.g_BadMatch (T.ea.kit _ 6 hq.2 (by decide))) (z4 (de_exI (X := kCx X cdg s H) (T.ea.exc _ hq.2) hz hf rfl (Or.inl rfl) (by decide +kernel) (by decide +kernel) (by rfl) T.z_isinstance (by rfl) T.g_BadMarks (T.ea.kit _ 7 hq.2 (by decide))) z7))))))
      (z8 (zd (i := 2) co.nd rfl (Or.inl rfl) (zb op_addF (z3 2) (de_lstF (z4 (de_exI (X := kCx X cdg s H) (T.ea.exc _ hq.2) hz hf rfl (Or.inl rfl) (by decide +kernel) (by decide +kernel) (by rfl) T.z_isinstance (by rfl) T.g_BadTree (T.ea.kit _ 8 hq.2 (by decide))) (z4 (de_exI (X := kCx X cdg s H) (T.ea.exc _ hq.2) hz hf rfl (Or.inl rfl) (by decide +kernel) (by decide +kernel) (by rfl) T.z_isinstance (by rfl) T.g_BadProgram (T.ea.kit _ 9 hq.2 (by decide))) (z4 (de_exI (X := kCx X cdg s H) (T.ea.exc _ hq.2) hz hf rfl (Or.inl rfl) (by decide +kernel) (by decide +kernel) (by rfl) T.z_isinstance (by rfl) T.g_Stuck (T.ea.kit _ 10 hq.2 (by decide))) z7))))))
      (z8 (zd (i := 2) co.nd rfl (Or.inl rfl) (zb op_addF (z3 2) (de_lstF (z4 (de_exI (X := kCx X cdg s H) (T.ea.exc _ hq.2) hz hf rfl (Or.inl rfl) (by decide +kernel) (by decide +kernel) (by rfl) T.z_isinstance (by rfl) T.g_BadCircuit (T.ea.kit _ 11 hq.2 (by decide))) (z4 (de_exI (X := kCx X cdg s H) (T.ea.exc _ hq.2) hz hf rfl (Or.inl rfl) (by decide +kernel) (by decide +kernel) (by rfl) T.z_isinstance (by rfl) T.g_BadPattern (T.ea.kit _ 12 hq.2 (by decide))) (z4 (de_exI (X := kCx X cdg s H) (T.ea.exc _ hq.2) hz hf rfl (Or.inl rfl) (by decide +kernel) (by decide +kernel) (by rfl) T.z_isinstance (by rfl) T.g_BadPairs (T.ea.kit _ 13 hq.2 (by decide))) z7))))))
      (z8 (zd (i := 2) co.nd rfl (Or.inl rfl) (zb op_addF (z3 2) (de_lstF (z4 (de_exI (X := kCx X cdg s H) (T.ea.exc _ hq.2) hz hf rfl (Or.inl rfl) (by decide +kernel) (by decide +kernel) (by rfl) T.z_isinstance (by rfl) T.g_BadNumbers (T.ea.kit _ 14 hq.2 (by decide))) (z4 (de_exI (X := kCx X cdg s H) (T.ea.exc _ hq.2) hz hf rfl (Or.inl rfl) (by decide +kernel) (by decide +kernel) (by rfl) T.z_isinstance (by rfl) T.g_BadRows (T.ea.kit _ 15 hq.2 (by decide))) (z4 (de_exI (X := kCx X cdg s H) (T.ea.exc _ hq.2) hz hf rfl (Or.inl rfl) (by decide +kernel) (by decide +kernel) (by rfl) T.z_isinstance (by rfl) T.g_BadText (T.ea.kit _ 16 hq.2 (by decide))) z7))))))
      (z8 (zd (i := 3) co.nd rfl (Or.inl rfl) (de_lstF (z4 zc (z4 zc (z4 zc (z4 zc (z4 zc (z4 zc (z4 zc (z4 zc z7))))))))))
      (z8 (zd (i := 3) co.nd rfl (Or.inl rfl) (zb op_addF (z3 3) (de_lstF (z4 zc (z4 zc (z4 zc (z4 zc (z4 zc (z4 zc (z4 zc z7))))))))))
      (z8 (ds_if (dt_bool (dw_or (ze (op_neDD co.hu) (de_bm PySem.F.plainAttrs_list PySem.F.slot_list_count PySem.F.type_list_count (md_count co.hu5) (z3 2) (z4 de_bl z7)) za (nomark _)) (dw_or1 (dt_not (dt_val (de_exV (X := kCx X cdg s H) (T.ea.exc _ hq.2) hz hf rfl (Or.inl rfl) (by decide +kernel) (by decide +kernel) (by rfl) T.z_isinstance (by rfl) T.z_ValueError (T.ea.kv _ hq.2))))))) (z9 (zf zc)) dss_nil)
      (z8 (zd (i := 4) co.nd rfl (Or.inl rfl) (de_ix (zb op_addF (z3 3) (de_lstF (z4 zc z7))) (de_bm PySem.F.plainAttrs_list PySem.F.slot_list_index PySem.F.type_list_index (md_index co.hu5) (z3 2) (z4 de_bl z7))))
      (z8 (ds_if (ze (op_eqDD co.hu) (z3 4) zc (nomark _)) (z9 (zf (de_tup (z4 (z3 4) (z4 (de_exFc (X := kCx X cdg s H) (cl := clL X.K X.w lm lb) (cs := [1]) (T.ea.exc _ hq.2) (fun z hz2 => by
          have hz3 : z = 1 := by simpa using hz2
          rcases hz3 with rfl
          · exact T.xi_BadMachine.1 "why" (by simp)) hz hf rfl (Or.inl rfl) (by decide +kernel) (by decide +kernel)) (z4 (de_exFc (X := kCx X cdg s H) (cl := clL X.K X.w lm lb) (cs := [1]) (T.ea.exc _ hq.2) (fun z hz2 => by
          have hz3 : z = 1 := by simpa using hz2
          rcases hz3 with rfl
          · exact T.xi_BadMachine.1 "spot" (by simp)) hz hf rfl (Or.inl rfl) (by decide +kernel) (by decide +kernel)) z7)))))) dss_nil)
      (z8 (ds_if (ze (op_inDD co.hu5) (z3 4) (de_tup (z4 zc (z4 zc (z4 zc (z4 zc (z4 zc z7))))))) (z9 (zf (de_tup (z4 (z3 4) (z4 (de_exFc (X := kCx X cdg s H) (cl := clL X.K X.w lm lb) (cs := [3, 4, 9, 11, 15]) (T.ea.exc _ hq.2) (fun z hz2 => by
          have hz3 : z = 3 ∨ z = 4 ∨ z = 9 ∨ z = 11 ∨ z = 15 := by simpa using hz2
          rcases hz3 with rfl | rfl | rfl | rfl | rfl
          · exact T.xi_BadBeat.1 "number" (by simp)
          · exact T.xi_BadPlain.1 "number" (by simp)
          · exact T.xi_BadProgram.1 "number" (by simp)
          · exact T.xi_BadCircuit.1 "number" (by simp)
          · exact T.xi_BadRows.1 "number" (by simp)) hz hf rfl (Or.inl rfl) (by decide +kernel) (by decide +kernel)) z7))))) dss_nil)
      (z9 (zf (de_if (ze (op_eqDD co.hu) (z3 4) zc (nomark _)) (de_tup (z4 (z3 4) (z4 (de_exFc (X := kCx X cdg s H) (cl := clL X.K X.w lm lb) (cs := [16]) (T.ea.exc _ hq.2) (fun z hz2 => by
          have hz3 : z = 16 := by simpa using hz2
          rcases hz3 with rfl
          · exact T.xi_BadText.1 "row" (by simp)) hz hf rfl (Or.inl rfl) (by decide +kernel) (by decide +kernel)) z7))) (z3 4)))))))))))))))
noncomputable def br__law_start : Sl → Sto → Res Fl :=
  (sSeq (sAsg (dC (.int 1)) (gVar 1))
  (sSeq (sFor (iVal (dVar 0)) (gVar 2) (sAsg (d2 modD (d2 addD (d2 addD (d2 mulD (dVar 1) (dC (.int 48271))) (dVar 2)) (dC (.int 7))) (dC (.int 2147483647))) (gVar 1)))
  (sRet (dLst (dCons (dVar 0) (dCons (dC (.int 0)) (dCons (dVar 1) (dCons (dC (.int 0)) dNil))))))))
noncomputable def Fr__law_start : List D → Sto → Res D := cutF (dFn 3 br__law_start)
theorem dr__law_start (T : Tx K mg w lm lb) : FnD P w (clL K w lm lb) K mg base 1 (He.ga K "_law_start") 1 Fr__law_start := by
  obtain ⟨fd, Fu⟩ := T.f__law_start
  exact (fnD_of Fu sc__law_start (fun _ _ _ _ _ _ us hl => match us, hl with | [_], _ => rfl) (fun cdv A outer s H E co =>
      (z8 (zd (i := 1) co.nd rfl (Or.inl rfl) za)
      (z8 (ds_for co.po co.calm (di_val (z3 0)) (dg_name (i := 2) co.nd rfl (Or.inl rfl)) (z9 (zd (i := 1) co.nd rfl (Or.inl rfl) (zb op_modD (zb op_addD (zb op_addD (zb op_mulD (z3 1) za) (z3 2)) za) za))))
      (z9 (zf (de_lst (z4 (z3 0) (z4 za (z4 (z3 1) (z4 za z7))))))))))).cut
noncomputable def b__law_drawn : Sl → Sto → Res Fl :=
  (sSeq (sIf (d2T gtD (d2 ixD (dVar 0) (dC (.int 3))) (dC (.int 0))) (sSeq (sAsg (d2 modD (d2 ixD (dVar 0) (dC (.int 3))) (dVar 1)) (gVar 2))
  (sSeq (sAsg (d2 fdivD (d2 ixD (dVar 0) (dC (.int 3))) (dVar 1)) (gSubD setD (dVar 0) (dC (.int 3))))
  (sRet (dVar 2)))) sNext)
  (sSeq (sAsg (d2 addD (d2 ixD (dVar 0) (dC (.int 1))) (dC (.int 1))) (gSubD setD (dVar 0) (dC (.int 1))))
  (sSeq (sIf (d2T leD (d2 ixD (dVar 0) (dC (.int 1))) (dCall lenD (dCons (d2 ixD (dVar 0) (dC (.int 0))) dNil))) (sSeq (sAsg (d2 ixD (d2 ixD (dVar 0) (dC (.int 0))) (d2 subD (d2 ixD (dVar 0) (dC (.int 1))) (dC (.int 1)))) (gVar 3))
  (sSeq (sAsg (dIf (d2T geD (dVar 3) (d2 powD (dC (.int 10)) (dC (.int 18)))) (d2 fdivD (dVar 3) (dVar 1)) (dC (.int 0))) (gSubD setD (dVar 0) (dC (.int 3))))
  (sRet (d2 modD (dVar 3) (dVar 1))))) sNext)
  (sSeq (sAsg (d2 modD (d2 addD (d2 mulD (d2 ixD (dVar 0) (dC (.int 2))) (dC (.int 48271))) (dC (.int 11))) (dC (.int 2147483647))) (gSubD setD (dVar 0) (dC (.int 2))))
  (sRet (d2 modD (d2 fdivD (d2 ixD (dVar 0) (dC (.int 2))) (dC (.int 7))) (dVar 1)))))))
noncomputable def F__law_drawn : List D → Sto → Res D := cutF (dFn 4 b__law_drawn)
theorem d__law_drawn (T : Tx K mg w lm lb) : FnD P w (clL K w lm lb) K mg base 1 (He.ga K "_law_drawn") 2 F__law_drawn := by
  obtain ⟨fd, Fu⟩ := T.f__law_drawn
  exact (fnD_of Fu sc__law_drawn (fun _ _ _ _ _ _ us hl => match us, hl with | [_, _], _ => rfl) (fun cdv A outer s H E co =>
      (z8 (ds_if (ze op_gtD (de_ix (z3 0) za) za (nomark _)) (z8 (zd (i := 2) co.nd rfl (Or.inl rfl) (zb op_modD (de_ix (z3 0) za) (z3 1)))
      (z8 (ds_asg (zb op_fdivD (de_ix (z3 0) za) (z3 1)) (dg_sub (z3 0) za set_lstD))
      (z9 (zf (z3 2))))) dss_nil)
      (z8 (ds_asg (zb op_addD (de_ix (z3 0) za) za) (dg_sub (z3 0) za set_lstD))
      (z8 (ds_if (ze op_leD (de_ix (z3 0) za) (de_callB cd_len (by rfl) T.z_len (by decide +kernel) (z4 (de_ix (z3 0) za) z7)) (nomark _)) (z8 (zd (i := 3) co.nd rfl (Or.inl rfl) (de_ix (de_ix (z3 0) za) (zb op_subD (de_ix (z3 0) za) za)))
      (z8 (ds_asg (de_if (ze op_geD (z3 3) (zb op_powD za za) (nomark _)) (zb op_fdivD (z3 3) (z3 1)) za) (dg_sub (z3 0) za set_lstD))
      (z9 (zf (zb op_modD (z3 3) (z3 1)))))) dss_nil)
      (z8 (ds_asg (zb op_modD (zb op_addD (zb op_mulD (de_ix (z3 0) za) za) za) za) (dg_sub (z3 0) za set_lstD))
      (z9 (zf (zb op_modD (zb op_fdivD (de_ix (z3 0) za) za) (z3 1)))))))))).cut
noncomputable def b__law_beats (Frec : List D → Sto → Res D) : Sl → Sto → Res Fl :=
  (sSeq (sIf (d2T eqD (dVar 0) (dC (.int 0))) (sRet (dLstF (dCons (dC (.str "")) dNil))) sNext)
  (sSeq (sAsg (dCallF 1 Frec (dCons (d2 subD (dVar 0) (dC (.int 1))) dNil)) (gVar 1))
  (sRet (d2 addF (dFrz (dComp [2] (iVal (dVar 1)) (gVar 2) tYesD (d2 addD (dC (.str "0")) (dVar 2)))) (dFrz (dComp [2] (iVal (dVar 1)) (gVar 2) tYesD (d2 addD (dC (.str "1")) (dVar 2))))))))
noncomputable def F__law_beats : Nat → List D → Sto → Res D
  | 0 => fun _ _ => .stuck
  | n + 1 => cutF (dFn 3 (b__law_beats (F__law_beats n)))
theorem d__law_beats (T : Tx K mg w lm lb) : ∀ n : Nat, FnD P w (clL K w lm lb) K mg base (1 + n) (He.ga K "_law_beats") 1 (F__law_beats n)
  | 0 => by
    obtain ⟨fd, Fu⟩ := T.f__law_beats
    exact fnD_stuck Fu (ps := ["_law_ins"]) (fun _ _ _ _ _ _ us hl => match us, hl with | [_], _ => rfl)
  | n + 1 => by
    have hrec := d__law_beats T n
    obtain ⟨fd, Fu⟩ := T.f__law_beats
    exact (fnD_of (k := 1 + n) Fu sc__law_beats (fun _ _ _ _ _ _ us hl => match us, hl with | [_], _ => rfl) (fun cdv A outer s H E co =>
      (z8 (ds_if (ze (op_eqDD co.hu) (z3 0) za (nomark _)) (z9 (zf (de_lstF (z4 zc z7)))) dss_nil)
      (z8 (zd (i := 1) co.nd rfl (Or.inl rfl) (de_call hrec (co.hr.mono (by omega)) co.px (by rfl) T.g__law_beats (z4 (zb op_subD (z3 0) za) z7)))
      (z9 (zf (zb op_addF (de_frz (de_comp (own := [("_law_beat_here", 2)]) co.calm co.nd (di_val (z3 1)) (blkOk_by (by kernel_rfl)) (fun _ _ _ _ _ => (dgw_name (i := 2) (by decide) (co.blk _ _ _ _ _).nd rfl (Or.inl rfl))) (fun _ _ _ _ _ => dts_nil) (fun _ _ _ _ _ => (zb op_addD zc (z3 2))))) (de_frz (de_comp (own := [("_law_beat_here", 2)]) co.calm co.nd (di_val (z3 1)) (blkOk_by (by kernel_rfl)) (fun _ _ _ _ _ => (dgw_name (i := 2) (by decide) (co.blk _ _ _ _ _).nd rfl (Or.inl rfl))) (fun _ _ _ _ _ => dts_nil) (fun _ _ _ _ _ => (zb op_addD zc (z3 2)))))))))))).cut
noncomputable def b__law_marks (Frec : List D → Sto → Res D) : Sl → Sto → Res Fl :=
  (sSeq (sIf (d2T eqD (dVar 0) (dC (.int 0))) (sRet (dLstF (dCons (dC (.str "")) dNil))) sNext)
  (sSeq (sAsg (dCallF 1 Frec (dCons (d2 subD (dVar 0) (dC (.int 1))) dNil)) (gVar 1))
  (sSeq (sAsg (dLstF dNil) (gVar 2))
  (sSeq (sFor (iVal (dC (.str "-01"))) (gVar 3) (sAsg (d2 addF (dVar 2) (dFrz (dComp [4] (iVal (dVar 1)) (gVar 4) tYesD (d2 addD (dVar 3) (dVar 4))))) (gVar 2)))
  (sRet (dVar 2))))))
noncomputable def F__law_marks : Nat → List D → Sto → Res D
  | 0 => fun _ _ => .stuck
  | n + 1 => cutF (dFn 5 (b__law_marks (F__law_marks n)))
theorem d__law_marks (T : Tx K mg w lm lb) : ∀ n : Nat, FnD P w (clL K w lm lb) K mg base (1 + n) (He.ga K "_law_marks") 1 (F__law_marks n)
  | 0 => by
    obtain ⟨fd, Fu⟩ := T.f__law_marks
    exact fnD_stuck Fu (ps := ["_law_ins"]) (fun _ _ _ _ _ _ us hl => match us, hl with | [_], _ => rfl)
  | n + 1 => by
    have hrec := d__law_marks T n
    obtain ⟨fd, Fu⟩ := T.f__law_marks
    exact (fnD_of (k := 1 + n) Fu sc__law_marks (fun _ _ _ _ _ _ us hl => match us, hl with | [_], _ => rfl) (fun cdv A outer s H E co =>
      (z8 (ds_if (ze (op_eqDD co.hu) (z3 0) za (nomark _)) (z9 (zf (de_lstF (z4 zc z7)))) dss_nil)
      (z8 (zd (i := 1) co.nd rfl (Or.inl rfl) (de_call hrec (co.hr.mono (by omega)) co.px (by rfl) T.g__law_marks (z4 (zb op_subD (z3 0) za) z7)))
      (z8 (zd (i := 2) co.nd rfl (Or.inl rfl) (de_lstF z7))
      (z8 (ds_for co.po co.calm (di_val zc) (dg_name (i := 3) co.nd rfl (Or.inr rfl)) (z9 (zd (i := 2) co.nd rfl (Or.inl rfl) (zb op_addF (z3 2) (de_frz (de_comp (own := [("_law_mark", 4)]) co.calm co.nd (di_val (z3 1)) (blkOk_by (by kernel_rfl)) (fun _ _ _ _ _ => (dgw_name (i := 4) (by decide) (co.blk _ _ _ _ _).nd rfl (Or.inl rfl))) (fun _ _ _ _ _ => dts_nil) (fun _ _ _ _ _ => (zb op_addD (z3 3) (z3 4)))))))))
      (z9 (zf (z3 2))))))))).cut
noncomputable def b__law_lets : Sl → Sto → Res Fl :=
  (sSeq (sFor (iRngD1 (dCall lenD (dCons (dVar 0) dNil))) (gVar 2) (sIf (tAndD (d2T neD (d2 ixD (dVar 0) (dVar 2)) (dC (.str "-"))) (d2T neD (d2 ixD (dVar 0) (dVar 2)) (d2 ixD (dVar 1) (dVar 2)))) (sRet (dC (.bl false))) sNext))
  (sRet (dC (.bl true))))
noncomputable def F__law_lets : List D → Sto → Res D := cutF (dFn 3 b__law_lets)
theorem d__law_lets (T : Tx K mg w lm lb) : FnD P w (clL K w lm lb) K mg base 1 (He.ga K "_law_lets") 2 F__law_lets := by
  obtain ⟨fd, Fu⟩ := T.f__law_lets
  exact (fnD_of Fu sc__law_lets (fun _ _ _ _ _ _ us hl => match us, hl with | [_, _], _ => rfl) (fun cdv A outer s H E co =>
      (z8 (ds_for co.po co.calm (di_range1 (by rfl) T.z_range (de_callB cd_len (by rfl) T.z_len (by decide +kernel) (z4 (z3 0) z7))) (dg_name (i := 2) co.nd rfl (Or.inl rfl)) (z9 (ds_if (dt_bool (dw_and (ze (op_neDD co.hu) (de_ix (z3 0) (z3 2)) zc (nomark _)) (dw_and1 (ze (op_neDD co.hu) (de_ix (z3 0) (z3 2)) (de_ix (z3 1) (z3 2)) (nomark _))))) (z9 (zf de_bl)) dss_nil)))
      (z9 (zf de_bl))))).cut
noncomputable def b__law_covers (Frec : List D → Sto → Res D) : Sl → Sto → Res Fl :=
  (sSeq (sIf (tOrD (d2T eqD (dVar 1) (dLstF dNil)) (d2T eqD (dVar 2) (dC (.int 0)))) (sRet (dIf (d2T eqD (dVar 1) (dLstF dNil)) (dLstF dNil) (dC .non))) sNext)
  (sSeq (sFor (iRngD1 (dCall lenD (dCons (dVar 0) dNil))) (gVar 3) (sSeq (sAsg (dFrz (dComp [6] (iVal (dVar 1)) (gVar 6) (tNotD (tstB (dCallF 2 F__law_lets (dCons (d2 ixD (dVar 0) (dVar 3)) (dCons (dVar 6) dNil))))) (dVar 6))) (gVar 4))
  (sIf (tAndD (d2T ltD (dCall lenD (dCons (dVar 4) dNil)) (dCall lenD (dCons (dVar 1) dNil))) (d2T leD (dCall lenD (dCons (dVar 4) dNil)) (d2 mulD (dCall lenD (dCons (dVar 1) dNil)) (d2 subD (dVar 2) (dC (.int 1)))))) (sSeq (sAsg (dCallF 3 Frec (dCons (dSliceF (dVar 0) (oSome (d2 addD (dVar 3) (dC (.int 1)))) oNone) (dCons (dVar 4) (dCons (d2 subD (dVar 2) (dC (.int 1))) dNil)))) (gVar 5))
  (sIf (d2T isNotD (dVar 5) (dC .non)) (sRet (d2 addF (dLstF (dCons (d2 ixD (dVar 0) (dVar 3)) dNil)) (dVar 5))) sNext)) sNext)))
  (sRet (dC .non))))
noncomputable def F__law_covers : Nat → List D → Sto → Res D
  | 0 => fun _ _ => .stuck
  | n + 1 => cutF (dFn 7 (b__law_covers (F__law_covers n)))
theorem d__law_covers (T : Tx K mg w lm lb) : ∀ n : Nat, FnD P w (clL K w lm lb) K mg base (2 + n) (He.ga K "_law_covers") 3 (F__law_covers n)
  | 0 => by
    obtain ⟨fd, Fu⟩ := T.f__law_covers
    exact fnD_stuck Fu (ps := ["_law_marks_here", "_law_rest", "_law_many"]) (fun _ _ _ _ _ _ us hl => match us, hl with | [_, _, _], _ => rfl)
  | n + 1 => by
    have hrec := d__law_covers T n
    obtain ⟨fd, Fu⟩ := T.f__law_covers
    exact (fnD_of (k := 2 + n) Fu sc__law_covers (fun _ _ _ _ _ _ us hl => match us, hl with | [_, _, _], _ => rfl) (fun cdv A outer s H E co =>
      (z8 (ds_if (dt_bool (dw_or (ze (op_eqDD co.hu) (z3 1) (de_lstF z7) (nomark _)) (dw_or1 (ze (op_eqDD co.hu) (z3 2) za (nomark _))))) (z9 (zf (de_if (ze (op_eqDD co.hu) (z3 1) (de_lstF z7) (nomark _)) (de_lstF z7) de_non))) dss_nil)
      (z8 (ds_for co.po co.calm (di_range1 (by rfl) T.z_range (de_callB cd_len (by rfl) T.z_len (by decide +kernel) (z4 (z3 0) z7))) (dg_name (i := 3) co.nd rfl (Or.inr rfl)) (z8 (ds_compF (i := 4) (own := [("_law_beat_here", 6)]) co.calm co.nd rfl rfl (sw_true rfl rfl rfl (by decide +kernel)) (di_val (z3 1)) (blkOk_by (by kernel_rfl)) (fun _ _ _ _ _ => (dgw_name (i := 6) (by decide) (co.blk _ _ _ _ _).nd rfl (Or.inl rfl))) (fun _ _ _ _ _ => (dts_one (dt_not (dt_val (de_call (d__law_lets T) ((co.blk _ _ _ _ _).hr.mono (by first | decide | omega)) (co.blk _ _ _ _ _).px (by rfl) T.g__law_lets (z4 (de_ix (z3 0) (z3 3)) (z4 (z3 6) z7))))))) (fun _ _ _ _ _ => (z3 6)))
      (z9 (ds_if (dt_bool (dw_and (ze op_ltD (de_callB cd_len (by rfl) T.z_len (by decide +kernel) (z4 (z3 4) z7)) (de_callB cd_len (by rfl) T.z_len (by decide +kernel) (z4 (z3 1) z7)) (nomark _)) (dw_and1 (ze op_leD (de_callB cd_len (by rfl) T.z_len (by decide +kernel) (z4 (z3 4) z7)) (zb op_mulD (de_callB cd_len (by rfl) T.z_len (by decide +kernel) (z4 (z3 1) z7)) (zb op_subD (z3 2) za)) (nomark _))))) (z8 (zd (i := 5) co.nd rfl (Or.inl rfl) (de_call hrec (co.hr.mono (by omega)) co.px (by rfl) T.g__law_covers (z4 (de_sliceF (z3 0) (dpo_some (zb op_addD (z3 3) za)) dpo_none) (z4 (z3 4) (z4 (zb op_subD (z3 2) za) z7)))))
      (z9 (ds_if (ze op_isNotD (z3 5) de_non (nomark _)) (z9 (zf (zb op_addF (de_lstF (z4 (de_ix (z3 0) (z3 3)) z7)) (z3 5)))) dss_nil))) dss_nil))))
      (z9 (zf de_non)))))).cut
noncomputable def b_is_word : Sl → Sto → Res Fl :=
  (sRet (dAnd (d2 eqD (dCall lenD (dCons (dVar 0) dNil)) (dVar 1)) (d2 eqD (dFrz (dComp [3] (iVal (dVar 0)) (gVar 3) (d2T notInD (dVar 3) (dVar 2)) (dVar 3))) (dLstF dNil))))
noncomputable def F_is_word : List D → Sto → Res D := cutF (dFn 4 b_is_word)
theorem d_is_word (T : Tx K mg w lm lb) : FnD P w (clL K w lm lb) K mg base 1 (He.ga K "is_word") 3 F_is_word := by
  obtain ⟨fd, Fu⟩ := T.f_is_word
  exact (fnD_of Fu sc_is_word (fun _ _ _ _ _ _ us hl => match us, hl with | [_, _, _], _ => rfl) (fun cdv A outer s H E co =>
      (z9 (zf (de_and (de_cmp (op_eqDD co.hu) (de_callB cd_len (by rfl) T.z_len (by decide +kernel) (z4 (z3 0) z7)) (z3 1) (nomark _)) (de_one (de_cmp (op_eqDD co.hu) (de_frz (de_comp (own := [("sign", 3)]) co.calm co.nd (di_val (z3 0)) (blkOk_by (by kernel_rfl)) (fun _ _ _ _ _ => (dgw_name (i := 3) (by decide) (co.blk _ _ _ _ _).nd rfl (Or.inl rfl))) (fun _ _ _ _ _ => (dts_one (ze (op_notInDD (co.blk _ _ _ _ _).hu5) (z3 3) (z3 2)))) (fun _ _ _ _ _ => (z3 3)))) (de_lstF z7) (nomark _)))))))).cut
noncomputable def b_need_beats : Sl → Sto → Res Fl :=
  (sFor (iEnumD (dVar 1)) (gTupD 2 (gsCons (gVar 2) (gsCons (gVar 3) gsNil))) (sIf (tNotD (tstB (dCallF 3 F_is_word (dCons (dVar 3) (dCons (dVar 0) (dCons (dC (.str "01")) dNil)))))) (sRaise 3 ["number"] (dCons (dVar 2) dNil)) sNext))
noncomputable def F_need_beats : List D → Sto → Res D := cutF (dFn 4 b_need_beats)
theorem d_need_beats (T : Tx K mg w lm lb) : FnD P w (clL K w lm lb) K mg base 3 (He.ga K "need_beats") 2 F_need_beats := by
  obtain ⟨fd, Fu⟩ := T.f_need_beats
  exact (fnD_of Fu sc_need_beats (fun _ _ _ _ _ _ us hl => match us, hl with | [_, _], _ => rfl) (fun cdv A outer s H E co =>
      (z9 (ds_for co.po co.calm (di_enum (by rfl) T.z_enumerate (z3 1)) (dg_tup co.calm (dgs_cons (dg_name (i := 2) co.nd rfl (Or.inl rfl)) (dgs_cons (dg_name (i := 3) co.nd rfl (Or.inl rfl)) dgs_nil))) (z9 (ds_if (dt_not (dt_val (de_call (d_is_word T) (co.hr.mono (by first | decide | omega)) co.px (by rfl) T.g_is_word (z4 (z3 3) (z4 (z3 0) (z4 zc z7)))))) (z9 (ds_raise (x_BadBeat T) (co.at (by first | decide | omega)) (by rfl) T.g_BadBeat (z4 (z3 2) z7))) dss_nil)))))).cut
noncomputable def b_Cover_left : Sl → Sto → Res Fl :=
  (sRet (dCall tupleD (dCons (dFrz (dComp [3] (iVal (dVar 1)) (gVar 3) (d2T notInD (dVar 3) (dVar 2)) (dVar 3))) dNil)))
noncomputable def F_Cover_left : List D → Sto → Res D := cutF (dFn 4 b_Cover_left)
theorem d_Cover_left (T : Tx K mg w lm lb) : FnD P w (clL K w lm lb) K mg base 1 (He.ma K (He.ga K "Cover") "left") 3 F_Cover_left := by
  obtain ⟨fd, Fu⟩ := T.f_Cover_left
  exact (fnD_of Fu sc_Cover_left (fun _ _ _ _ _ _ us hl => match us, hl with | [_, _, _], _ => rfl) (fun cdv A outer s H E co =>
      (z9 (zf (de_callTy cd_tuple (by rfl) T.z_tuple (by decide +kernel) (z4 (de_frz (de_comp (own := [("beat", 3)]) co.calm co.nd (di_val (z3 1)) (blkOk_by (by kernel_rfl)) (fun _ _ _ _ _ => (dgw_name (i := 3) (by decide) (co.blk _ _ _ _ _).nd rfl (Or.inl rfl))) (fun _ _ _ _ _ => (dts_one (ze (op_notInDD (co.blk _ _ _ _ _).hu5) (z3 3) (z3 2)))) (fun _ _ _ _ _ => (z3 3)))) z7)))))).cut
noncomputable def b_Cover_many (Frec : List D → Sto → Res D) : Sl → Sto → Res Fl :=
  (sSeq (sIf (d2T notInDicN (dVar 1) (dFld [21] "known" (dVar 0))) (sSeq (sAsg (dFrz (dComp [3, 4] (iVal (dFld [21] "marks" (dVar 0))) (gTupD 2 (gsCons (gVar 3) (gsCons (gVar 4) gsNil))) (d2T inD (d2 ixD (dVar 1) (dC (.int 0))) (dVar 4)) (dVar 4))) (gVar 2))
  (sAsg (d2 addD (dC (.int 1)) (dCall minIs (dCons (dFrz (dComp [4] (iVal (dVar 2)) (gVar 4) tYesD (dMeth 21 "many" 2 Frec (dVar 0) (dCons (dMeth 21 "left" 3 F_Cover_left (dVar 0) (dCons (dVar 1) (dCons (dVar 4) dNil))) dNil)))) dNil))) (gSubD setDicN (dFld [21] "known" (dVar 0)) (dVar 1)))) sNext)
  (sRet (d2 ixDicN (dFld [21] "known" (dVar 0)) (dVar 1))))
noncomputable def F_Cover_many : Nat → List D → Sto → Res D
  | 0 => fun _ _ => .stuck
  | n + 1 => cutF (dFn 5 (b_Cover_many (F_Cover_many n)))
theorem d_Cover_many (T : Tx K mg w lm lb) : ∀ n : Nat, FnD P w (clL K w lm lb) K mg base (2 + n) (He.ma K (He.ga K "Cover") "many") 2 (F_Cover_many n)
  | 0 => by
    obtain ⟨fd, Fu⟩ := T.f_Cover_many
    exact fnD_stuck Fu (ps := ["self", "rest"]) (fun _ _ _ _ _ _ us hl => match us, hl with | [_, _], _ => rfl)
  | n + 1 => by
    have hrec := d_Cover_many T n
    obtain ⟨fd, Fu⟩ := T.f_Cover_many
    exact (fnD_of (k := 2 + n) Fu sc_Cover_many (fun _ _ _ _ _ _ us hl => match us, hl with | [_, _], _ => rfl) (fun cdv A outer s H E co =>
      (z8 (ds_if (ze (op_notInDicN co.hu5 rfl) (z3 1) (de_fld T.fl_Cover_known (z3 0))) (z8 (ds_compF (i := 2) (own := [("mark", 3), ("beats", 4)]) co.calm co.nd rfl rfl (sw_true rfl rfl rfl (by decide +kernel)) (di_val (de_fld T.fl_Cover_marks (z3 0))) (blkOk_by (by kernel_rfl)) (fun _ _ _ _ _ => (dgw_tup (co.blk _ _ _ _ _).calm (dgsw_cons (dgw_name (i := 3) (by decide) (co.blk _ _ _ _ _).nd rfl (Or.inl rfl)) (dgsw_cons (dgw_name (i := 4) (by decide) (co.blk _ _ _ _ _).nd rfl (Or.inl rfl)) dgsw_nil)))) (fun _ _ _ _ _ => (dts_one (ze (op_inDD (co.blk _ _ _ _ _).hu5) (de_ix (z3 1) za) (z3 4)))) (fun _ _ _ _ _ => (z3 4)))
      (z9 (ds_asg (zb op_addD za (de_callB (cd_minIs co.calm) (by rfl) T.z_min (by decide +kernel) (z4 (de_frz (de_comp (own := [("beats", 4)]) co.calm co.nd (di_val (z3 2)) (blkOk_by (by kernel_rfl)) (fun _ _ _ _ _ => (dgw_name (i := 4) (by decide) (co.blk _ _ _ _ _).nd rfl (Or.inl rfl))) (fun _ _ _ _ _ => dts_nil) (fun _ _ _ _ _ => (de_meth (z3 0) T.c_Cover T.m_Cover_many hrec ((co.blk _ _ _ _ _).hr.mono (by omega)) (co.blk _ _ _ _ _).px (z4 (de_meth (z3 0) T.c_Cover T.m_Cover_left (d_Cover_left T) ((co.blk _ _ _ _ _).hr.mono (by first | decide | omega)) (co.blk _ _ _ _ _).px (z4 (z3 1) (z4 (z3 4) z7))) z7))))) z7))) (dg_sub (de_fld T.fl_Cover_known (z3 0)) (z3 1) (set_dicN co.hu5 rfl))))) dss_nil)
      (z9 (zf (de_ixDicN co.hu5 rfl (de_fld T.fl_Cover_known (z3 0)) (z3 1))))))).cut
noncomputable def br_Cover_first : Sl → Sto → Res Fl :=
  (sSeq (sAsg (dLst dNil) (gVar 2))
  (sSeq (whileD (d2T neD (dVar 1) (dTup dNil)) (sFor (iVal (dFld [21] "marks" (dVar 0))) (gTupD 2 (gsCons (gVar 3) (gsCons (gVar 4) gsNil))) (sSeq (sAsg (dMeth 21 "left" 3 F_Cover_left (dVar 0) (dCons (dVar 1) (dCons (dVar 4) dNil))) (gVar 5))
  (sIf (tAndD (d2T ltD (dCall lenD (dCons (dVar 5) dNil)) (dCall lenD (dCons (dVar 1) dNil))) (d2T eqD (d2 addD (dC (.int 1)) (dMeth 21 "many" 2 (F_Cover_many 40) (dVar 0) (dCons (dVar 5) dNil))) (dMeth 21 "many" 2 (F_Cover_many 40) (dVar 0) (dCons (dVar 1) dNil)))) (sSeq (sExpr (dBm "list" appendD (dVar 2) (dCons (dVar 3) dNil)))
  (sSeq (sAsg (dVar 5) (gVar 1))
  sBrk)) sNext))) fuelW)
  (sRet (dVar 2))))
noncomputable def Fr_Cover_first : List D → Sto → Res D := cutF (dFn 6 br_Cover_first)
theorem dr_Cover_first (T : Tx K mg w lm lb) : FnD P w (clL K w lm lb) K mg base 43 (He.ma K (He.ga K "Cover") "first") 2 Fr_Cover_first := by
  obtain ⟨fd, Fu⟩ := T.f_Cover_first
  exact (fnD_of Fu sc_Cover_first (fun _ _ _ _ _ _ us hl => match us, hl with | [_, _], _ => rfl) (fun cdv A outer s H E co =>
      (z8 (zd (i := 2) co.nd rfl (Or.inl rfl) (de_lst z7))
      (z8 (ds_while fuelW co.po (ze (op_neDD co.hu) (z3 1) (de_tup z7) (nomark _)) (z9 (ds_for co.po co.calm (di_val (de_fld T.fl_Cover_marks (z3 0))) (dg_tup co.calm (dgs_cons (dg_name (i := 3) co.nd rfl (Or.inl rfl)) (dgs_cons (dg_name (i := 4) co.nd rfl (Or.inl rfl)) dgs_nil))) (z8 (zd (i := 5) co.nd rfl (Or.inl rfl) (de_meth (z3 0) T.c_Cover T.m_Cover_left (d_Cover_left T) (co.hr.mono (by first | decide | omega)) co.px (z4 (z3 1) (z4 (z3 4) z7))))
      (z9 (ds_if (dt_bool (dw_and (ze op_ltD (de_callB cd_len (by rfl) T.z_len (by decide +kernel) (z4 (z3 5) z7)) (de_callB cd_len (by rfl) T.z_len (by decide +kernel) (z4 (z3 1) z7)) (nomark _)) (dw_and1 (ze (op_eqDD co.hu) (zb op_addD za (de_meth (z3 0) T.c_Cover T.m_Cover_many (d_Cover_many T 40) (co.hr.mono (by first | decide | omega)) co.px (z4 (z3 5) z7))) (de_meth (z3 0) T.c_Cover T.m_Cover_many (d_Cover_many T 40) (co.hr.mono (by first | decide | omega)) co.px (z4 (z3 1) z7)) (nomark _))))) (z8 (ds_expr (de_bm PySem.F.plainAttrs_list PySem.F.slot_list_append PySem.F.type_list_append md_append (z3 2) (z4 (z3 3) z7)))
      (z8 (zd (i := 1) co.nd rfl (Or.inl rfl) (z3 5))
      (z9 ds_break))) dss_nil))))))
      (z9 (zf (z3 2))))))).cut
noncomputable def b_Cover_init : Sl → Sto → Res Fl :=
  (sSeq (sFldD [21] "marks" (dVar 0) (dVar 1))
  (sFldD [21] "known" (dVar 0) (dDispN (dTup dNil) (dC (.int 0)))))
noncomputable def F_Cover_init : List D → Sto → Res D := cutF (dFn 2 b_Cover_init)
theorem d_Cover_init (T : Tx K mg w lm lb) : FnD P w (clL K w lm lb) K mg base 1 (He.ma K (He.ga K "Cover") "__init__") 2 F_Cover_init := by
  obtain ⟨fd, Fu⟩ := T.f_Cover_init
  exact (fnD_of Fu sc_Cover_init (fun _ _ _ _ _ _ us hl => match us, hl with | [_, _], _ => rfl) (fun cdv A outer s H E co =>
      (z8 (ds_fld T.fl_Cover_marks (z3 0) (z3 1))
      (z9 (ds_fld T.fl_Cover_known (z3 0) (de_dispN co.hu5 rfl (de_tup z7) za)))))).cut
noncomputable def b_all_beats : Sl → Sto → Res Fl :=
  (sSeq (sAsg (dLstF (dCons (dC (.str "")) dNil)) (gVar 1))
  (sSeq (sFor (iRngD1 (dVar 0)) (gVar 2) (sSeq (sAsg (dLst dNil) (gVar 3))
  (sSeq (sFor (iVal (dVar 1)) (gVar 4) (sExpr (dBm "list" extendD (dVar 3) (dCons (dLst (dCons (d2 addD (dVar 4) (dC (.str "0"))) (dCons (d2 addD (dVar 4) (dC (.str "1"))) dNil))) dNil))))
  (sAsg (dFrz (dVar 3)) (gVar 1)))))
  (sRet (dVar 1))))
noncomputable def F_all_beats : List D → Sto → Res D := cutF (dFn 5 b_all_beats)
theorem d_all_beats (T : Tx K mg w lm lb) : FnD P w (clL K w lm lb) K mg base 1 (He.ga K "all_beats") 1 F_all_beats := by
  obtain ⟨fd, Fu⟩ := T.f_all_beats
  exact (fnD_of Fu sc_all_beats (fun _ _ _ _ _ _ us hl => match us, hl with | [_], _ => rfl) (fun cdv A outer s H E co =>
      (z8 (zd (i := 1) co.nd rfl (Or.inl rfl) (de_lstF (z4 zc z7)))
      (z8 (ds_for co.po co.calm (di_range1 (by rfl) T.z_range (z3 0)) (dg_name (i := 2) co.nd rfl (Or.inl rfl)) (z8 (zd (i := 3) co.nd rfl (Or.inl rfl) (de_lst z7))
      (z8 (ds_for co.po co.calm (di_val (z3 1)) (dg_name (i := 4) co.nd rfl (Or.inl rfl)) (z9 (ds_expr (de_bm PySem.F.plainAttrs_list PySem.F.slot_list_extend PySem.F.type_list_extend md_extend (z3 3) (z4 (de_lst (z4 (zb op_addD (z3 4) zc) (z4 (zb op_addD (z3 4) zc) z7))) z7)))))
      (z9 (zd (i := 1) co.nd rfl (Or.inl rfl) (de_frz (z3 3)))))))
      (z9 (zf (z3 1))))))).cut
noncomputable def b_all_marks : Sl → Sto → Res Fl :=
  (sSeq (sAsg (dLstF (dCons (dC (.str "")) dNil)) (gVar 1))
  (sSeq (sFor (iRngD1 (dVar 0)) (gVar 2) (sSeq (sAsg (dLst dNil) (gVar 3))
  (sSeq (sFor (iVal (dVar 1)) (gVar 4) (sExpr (dBm "list" extendD (dVar 3) (dCons (dComp [5] (iVal (dC (.str "-01"))) (gVar 5) tYesD (d2 addD (dVar 4) (dVar 5))) dNil))))
  (sAsg (dFrz (dVar 3)) (gVar 1)))))
  (sRet (dVar 1))))
noncomputable def F_all_marks : List D → Sto → Res D := cutF (dFn 6 b_all_marks)
theorem d_all_marks (T : Tx K mg w lm lb) : FnD P w (clL K w lm lb) K mg base 1 (He.ga K "all_marks") 1 F_all_marks := by
  obtain ⟨fd, Fu⟩ := T.f_all_marks
  exact (fnD_of Fu sc_all_marks (fun _ _ _ _ _ _ us hl => match us, hl with | [_], _ => rfl) (fun cdv A outer s H E co =>
      (z8 (zd (i := 1) co.nd rfl (Or.inl rfl) (de_lstF (z4 zc z7)))
      (z8 (ds_for co.po co.calm (di_range1 (by rfl) T.z_range (z3 0)) (dg_name (i := 2) co.nd rfl (Or.inl rfl)) (z8 (zd (i := 3) co.nd rfl (Or.inl rfl) (de_lst z7))
      (z8 (ds_for co.po co.calm (di_val (z3 1)) (dg_name (i := 4) co.nd rfl (Or.inr rfl)) (z9 (ds_expr (de_bm PySem.F.plainAttrs_list PySem.F.slot_list_extend PySem.F.type_list_extend md_extend (z3 3) (z4 (de_comp (own := [("sign", 5)]) co.calm co.nd (di_val zc) (blkOk_by (by kernel_rfl)) (fun _ _ _ _ _ => (dgw_name (i := 5) (by decide) (co.blk _ _ _ _ _).nd rfl (Or.inl rfl))) (fun _ _ _ _ _ => dts_nil) (fun _ _ _ _ _ => (zb op_addD (z3 4) (z3 5)))) z7)))))
      (z9 (zd (i := 1) co.nd rfl (Or.inl rfl) (de_frz (z3 3)))))))
      (z9 (zf (z3 1))))))).cut
noncomputable def b_fits : Sl → Sto → Res Fl :=
  (sRet (d2 eqD (dFrz (dComp [2] (iRngD1 (dCall lenD (dCons (dVar 0) dNil))) (gVar 2) (d2T notInD (d2 ixD (dVar 0) (dVar 2)) (dTup (dCons (dC (.str "-")) (dCons (d2 ixD (dVar 1) (dVar 2)) dNil)))) (dVar 2))) (dLstF dNil)))
noncomputable def F_fits : List D → Sto → Res D := cutF (dFn 3 b_fits)
theorem d_fits (T : Tx K mg w lm lb) : FnD P w (clL K w lm lb) K mg base 1 (He.ga K "fits") 2 F_fits := by
  obtain ⟨fd, Fu⟩ := T.f_fits
  exact (fnD_of Fu sc_fits (fun _ _ _ _ _ _ us hl => match us, hl with | [_, _], _ => rfl) (fun cdv A outer s H E co =>
      (z9 (zf (de_cmp (op_eqDD co.hu) (de_frz (de_comp (own := [("k", 2)]) co.calm co.nd (di_range1 (by rfl) T.z_range (de_callB cd_len (by rfl) T.z_len (by decide +kernel) (z4 (z3 0) z7))) (blkOk_by (by kernel_rfl)) (fun _ _ _ _ _ => (dgw_name (i := 2) (by decide) (co.blk _ _ _ _ _).nd rfl (Or.inl rfl))) (fun _ _ _ _ _ => (dts_one (ze (op_notInDD (co.blk _ _ _ _ _).hu5) (de_ix (z3 0) (z3 2)) (de_tup (z4 zc (z4 (de_ix (z3 1) (z3 2)) z7)))))) (fun _ _ _ _ _ => (z3 2)))) (de_lstF z7) (nomark _)))))).cut
noncomputable def b_wider : Sl → Sto → Res Fl :=
  (sRet (dFrz (dComp [1] (iRngD1 (dCall lenD (dCons (dVar 0) dNil))) (gVar 1) (d2T neD (d2 ixD (dVar 0) (dVar 1)) (dC (.str "-"))) (d2 addD (d2 addD (dSlice (dVar 0) oNone (oSome (dVar 1))) (dC (.str "-"))) (dSlice (dVar 0) (oSome (d2 addD (dVar 1) (dC (.int 1)))) oNone)))))
noncomputable def F_wider : List D → Sto → Res D := cutF (dFn 2 b_wider)
theorem d_wider (T : Tx K mg w lm lb) : FnD P w (clL K w lm lb) K mg base 1 (He.ga K "wider") 1 F_wider := by
  obtain ⟨fd, Fu⟩ := T.f_wider
  exact (fnD_of Fu sc_wider (fun _ _ _ _ _ _ us hl => match us, hl with | [_], _ => rfl) (fun cdv A outer s H E co =>
      (z9 (zf (de_frz (de_comp (own := [("k", 1)]) co.calm co.nd (di_range1 (by rfl) T.z_range (de_callB cd_len (by rfl) T.z_len (by decide +kernel) (z4 (z3 0) z7))) (blkOk_by (by kernel_rfl)) (fun _ _ _ _ _ => (dgw_name (i := 1) (by decide) (co.blk _ _ _ _ _).nd rfl (Or.inl rfl))) (fun _ _ _ _ _ => (dts_one (ze (op_neDD (co.blk _ _ _ _ _).hu) (de_ix (z3 0) (z3 1)) zc (nomark _)))) (fun _ _ _ _ _ => (zb op_addD (zb op_addD (de_slice (z3 0) dpo_none (dpo_some (z3 1))) zc) (de_slice (z3 0) (dpo_some (zb op_addD (z3 1) za)) dpo_none))))))))).cut
noncomputable def b_marks_of : Sl → Sto → Res Fl :=
  (sSeq (sAsg (dCallF 1 F_all_beats (dCons (dVar 0) dNil)) (gVar 2))
  (sSeq (sAsg dDisp0 (gVar 3))
  (sSeq (sFor (iVal (dCallF 1 F_all_marks (dCons (dVar 0) dNil))) (gVar 4) (sAsg (dCall tupleD (dCons (dFrz (dComp [6] (iVal (dVar 2)) (gVar 6) (tstB (dCallF 2 F_fits (dCons (dVar 4) (dCons (dVar 6) dNil)))) (dVar 6))) dNil)) (gSubD setDic (dVar 3) (dVar 4))))
  (sSeq (sAsg (dFrz (dComp [4] (iKeysD (dLockD (dVar 3))) (gVar 4) (d2T eqD (dFrz (dComp [6] (iVal (d2 ixDic3 (dVar 3) (dVar 4))) (gVar 6) (d2T notInD (dVar 6) (dVar 1)) (dVar 6))) (dLstF dNil)) (dVar 4))) (gVar 5))
  (sRet (dFrz (dComp [4] (iVal (dVar 5)) (gVar 4) (d2T eqD (dFrz (dComp [7] (iVal (dCallF 1 F_wider (dCons (dVar 4) dNil))) (gVar 7) (d2T inD (dVar 7) (dVar 5)) (dVar 7))) (dLstF dNil)) (dTup (dCons (dVar 4) (dCons (d2 ixDic3 (dVar 3) (dVar 4)) dNil))))))))))
noncomputable def F_marks_of : List D → Sto → Res D := cutF (dFn 8 b_marks_of)
theorem d_marks_of (T : Tx K mg w lm lb) : FnD P w (clL K w lm lb) K mg base 2 (He.ga K "marks_of") 2 F_marks_of := by
  obtain ⟨fd, Fu⟩ := T.f_marks_of
  exact (fnD_of Fu sc_marks_of (fun _ _ _ _ _ _ us hl => match us, hl with | [_, _], _ => rfl) (fun cdv A outer s H E co =>
      (z8 (zd (i := 2) co.nd rfl (Or.inl rfl) (de_call (d_all_beats T) (co.hr.mono (by first | decide | omega)) co.px (by rfl) T.g_all_beats (z4 (z3 0) z7)))
      (z8 (zd (i := 3) co.nd rfl (Or.inr rfl) de_disp0)
      (z8 (ds_for co.po co.calm (di_val (de_call (d_all_marks T) (co.hr.mono (by first | decide | omega)) co.px (by rfl) T.g_all_marks (z4 (z3 0) z7))) (dg_name (i := 4) co.nd rfl (Or.inr rfl)) (z9 (ds_asg (de_callTy cd_tuple (by rfl) T.z_tuple (by decide +kernel) (z4 (de_frz (de_comp (own := [("beat", 6)]) co.calm co.nd (di_val (z3 2)) (blkOk_by (by kernel_rfl)) (fun _ _ _ _ _ => (dgw_name (i := 6) (by decide) (co.blk _ _ _ _ _).nd rfl (Or.inl rfl))) (fun _ _ _ _ _ => (dts_one (dt_val (de_call (d_fits T) ((co.blk _ _ _ _ _).hr.mono (by first | decide | omega)) (co.blk _ _ _ _ _).px (by rfl) T.g_fits (z4 (z3 4) (z4 (z3 6) z7)))))) (fun _ _ _ _ _ => (z3 6)))) z7)) (dg_sub (z3 3) (z3 4) (set_dicD co.hu5)))))
      (z8 (zd (i := 5) co.nd rfl (Or.inr rfl) (de_frz (de_comp (own := [("mark", 4)]) co.calm co.nd (di_keys (de_lockD (z3 3))) (blkOk_by (by kernel_rfl)) (fun _ _ _ _ _ => (dgw_name (i := 4) (by decide) (co.blk _ _ _ _ _).nd rfl (Or.inl rfl))) (fun _ _ _ _ _ => (dts_one (ze (op_eqDD (co.blk _ _ _ _ _).hu) (de_frz (de_comp (own := [("beat", 6)]) (co.blk _ _ _ _ _).calm (co.blk _ _ _ _ _).nd (di_val (de_ixDic3 (co.blk _ _ _ _ _).hu1 (z3 3) (z3 4))) (blkOk_by (by kernel_rfl)) (fun _ _ _ _ _ => (dgw_name (i := 6) (by decide) ((co.blk _ _ _ _ _).blk _ _ _ _ _).nd rfl (Or.inl rfl))) (fun _ _ _ _ _ => (dts_one (ze (op_notInDD ((co.blk _ _ _ _ _).blk _ _ _ _ _).hu5) (z3 6) (z3 1)))) (fun _ _ _ _ _ => (z3 6)))) (de_lstF z7) (nomark _)))) (fun _ _ _ _ _ => (z3 4)))))
      (z9 (zf (de_frz (de_comp (own := [("mark", 4)]) co.calm co.nd (di_val (z3 5)) (blkOk_by (by kernel_rfl)) (fun _ _ _ _ _ => (dgw_name (i := 4) (by decide) (co.blk _ _ _ _ _).nd rfl (Or.inl rfl))) (fun _ _ _ _ _ => (dts_one (ze (op_eqDD (co.blk _ _ _ _ _).hu) (de_frz (de_comp (own := [("one", 7)]) (co.blk _ _ _ _ _).calm (co.blk _ _ _ _ _).nd (di_val (de_call (d_wider T) ((co.blk _ _ _ _ _).hr.mono (by first | decide | omega)) (co.blk _ _ _ _ _).px (by rfl) T.g_wider (z4 (z3 4) z7))) (blkOk_by (by kernel_rfl)) (fun _ _ _ _ _ => (dgw_name (i := 7) (by decide) ((co.blk _ _ _ _ _).blk _ _ _ _ _).nd rfl (Or.inl rfl))) (fun _ _ _ _ _ => (dts_one (ze (op_inDD ((co.blk _ _ _ _ _).blk _ _ _ _ _).hu5) (z3 7) (z3 5)))) (fun _ _ _ _ _ => (z3 7)))) (de_lstF z7) (nomark _)))) (fun _ _ _ _ _ => (de_tup (z4 (z3 4) (z4 (de_ixDic3 (co.blk _ _ _ _ _).hu1 (z3 3) (z3 4)) z7)))))))))))))).cut
noncomputable def br_fewest_of : Sl → Sto → Res Fl :=
  (sRet (dMeth 21 "first" 2 Fr_Cover_first (dMake 21 2 F_Cover_init (dCons (dCallF 2 F_marks_of (dCons (dVar 0) (dCons (dVar 1) dNil))) dNil)) (dCons (dCall tupleD (dCons (dVar 1) dNil)) dNil)))
noncomputable def Fr_fewest_of : List D → Sto → Res D := cutF (dFn 2 br_fewest_of)
theorem dr_fewest_of (T : Tx K mg w lm lb) : FnD P w (clL K w lm lb) K mg base 44 (He.ga K "fewest_of") 2 Fr_fewest_of := by
  obtain ⟨fd, Fu⟩ := T.f_fewest_of
  exact (fnD_of Fu sc_fewest_of (fun _ _ _ _ _ _ us hl => match us, hl with | [_, _], _ => rfl) (fun cdv A outer s H E co =>
      (z9 (zf (de_meth (de_make T.mk_Cover (d_Cover_init T) (co.hr.mono (by first | decide | omega)) co.px (by rfl) T.g_Cover (z4 (de_call (d_marks_of T) (co.hr.mono (by first | decide | omega)) co.px (by rfl) T.g_marks_of (z4 (z3 0) (z4 (z3 1) z7))) z7)) T.c_Cover T.m_Cover_first (dr_Cover_first T) (co.hr.mono (by first | decide | omega)) co.px (z4 (de_callTy cd_tuple (by rfl) T.z_tuple (by decide +kernel) (z4 (z3 1) z7)) z7)))))).cut
noncomputable def br_fewest : Sl → Sto → Res Fl :=
  (sSeq (sIf (tNotD (d3T leD leD (dC (.int 1)) (dVar 0) (dC (.int 4)))) (sRaiseT 7) sNext)
  (sSeq (sExpr (dCallF 2 F_need_beats (dCons (dVar 0) (dCons (dVar 1) dNil))))
  (sSeq (sIf (d2T neD (dSortSetS (dVar 1)) (dCall listF (dCons (dVar 1) dNil))) (sRaiseT 7) sNext)
  (sRet (dCallF 2 Fr_fewest_of (dCons (dVar 0) (dCons (dVar 1) dNil)))))))
noncomputable def Fr_fewest : List D → Sto → Res D := cutF (dFn 2 br_fewest)
theorem dr_fewest (T : Tx K mg w lm lb) : FnD P w (clL K w lm lb) K mg base 45 (He.ga K "fewest") 2 Fr_fewest := by
  obtain ⟨fd, Fu⟩ := T.f_fewest
  exact (fnD_of Fu sc_fewest (fun _ _ _ _ _ _ us hl => match us, hl with | [_, _], _ => rfl) (fun cdv A outer s H E co =>
      (z8 (ds_if (dt_not (dt_chain op_leD op_leD za (z3 0) (de_con T.k_MOST_INS (by rfl)))) (z9 (ds_raiseT T.xt_BadMarks co (by rfl) T.g_BadMarks)) dss_nil)
      (z8 (ds_expr (de_call (d_need_beats T) (co.hr.mono (by first | decide | omega)) co.px (by rfl) T.g_need_beats (z4 (z3 0) (z4 (z3 1) z7))))
      (z8 (ds_if (ze (op_neDD co.hu) (de_sortSetS co.hu5 co.calm (by rfl) T.z_sorted (by rfl) T.z_set (z3 1)) (de_callTy cd_listF (by rfl) T.z_list (by decide +kernel) (z4 (z3 1) z7)) (nomark _)) (z9 (ds_raiseT T.xt_BadMarks co (by rfl) T.g_BadMarks)) dss_nil)
      (z9 (zf (de_call (dr_fewest_of T) (co.hr.mono (by first | decide | omega)) co.px (by rfl) T.g_fewest_of (z4 (z3 0) (z4 (z3 1) z7)))))))))).cut
noncomputable def b__law_same (Frec : List D → Sto → Res D) : Sl → Sto → Res Fl :=
  (sSeq (sIf (tstB (dIsi ["tuple", "list"] (dVar 1))) (sSeq (sIf (tOrD (tNotD (tstB (dIsi ["tuple", "list"] (dVar 0)))) (d2T neD (dIsi ["list"] (dVar 0)) (dIsi ["list"] (dVar 1)))) (sRet (dC (.bl false))) sNext)
  (sSeq (sIf (d2T neD (dCall lenD (dCons (dVar 0) dNil)) (dCall lenD (dCons (dVar 1) dNil))) (sRet (dC (.bl false))) sNext)
  (sRet (d2 eqD (dFrz (dComp [2] (iRngD1 (dCall lenD (dCons (dVar 1) dNil))) (gVar 2) (tNotD (tstB (dCallF 2 Frec (dCons (d2 ixD (dVar 0) (dVar 2)) (dCons (d2 ixD (dVar 1) (dVar 2)) dNil))))) (dVar 2))) (dLstF dNil))))) sNext)
  (sSeq (sIf (d2T isD (dVar 1) (dC .non)) (sRet (d2 isD (dVar 0) (dC .non))) sNext)
  (sSeq (sIf (tstB (dIsi ["str"] (dVar 1))) (sRet (dAnd (dIsi ["str"] (dVar 0)) (d2 eqD (dVar 0) (dVar 1)))) sNext)
  (sSeq (sIf (tOrD (tstB (dIsi ["bool"] (dVar 1))) (tstB (dIsi ["bool"] (dVar 0)))) (sRet (dAnd (dIsi ["bool"] (dVar 1)) (dAnd (dIsi ["bool"] (dVar 0)) (d2 eqD (dVar 0) (dVar 1))))) sNext)
  (sRet (dAnd (dIsi ["int"] (dVar 0)) (d2 eqD (dVar 0) (dVar 1))))))))
noncomputable def F__law_same : Nat → List D → Sto → Res D
  | 0 => fun _ _ => .stuck
  | n + 1 => cutF (dFn 3 (b__law_same (F__law_same n)))
theorem d__law_same (T : Tx K mg w lm lb) : ∀ n : Nat, FnD P w (clL K w lm lb) K mg base (1 + n) (He.ga K "_law_same") 2 (F__law_same n)
  | 0 => by
    obtain ⟨fd, Fu⟩ := T.f__law_same
    exact fnD_stuck Fu (ps := ["_law_found", "_law_due"]) (fun _ _ _ _ _ _ us hl => match us, hl with | [_, _], _ => rfl)
  | n + 1 => by
    have hrec := d__law_same T n
    obtain ⟨fd, Fu⟩ := T.f__law_same
    exact (fnD_of (k := 1 + n) Fu sc__law_same (fun _ _ _ _ _ _ us hl => match us, hl with | [_, _], _ => rfl) (fun cdv A outer s H E co =>
      (z8 (ds_if (dt_val (de_isi2 (by rfl) T.z_isinstance (z3 1) (by rfl) T.z_tuple (by rfl) (by decide +kernel) (by rfl) T.z_list (by rfl) (by decide +kernel))) (z8 (ds_if (dt_bool (dw_or (dt_not (dt_val (de_isi2 (by rfl) T.z_isinstance (z3 0) (by rfl) T.z_tuple (by rfl) (by decide +kernel) (by rfl) T.z_list (by rfl) (by decide +kernel)))) (dw_or1 (ze (op_neDD co.hu) (de_isi (by rfl) T.z_isinstance (z3 0) (by rfl) T.z_list (by rfl) (by decide +kernel)) (de_isi (by rfl) T.z_isinstance (z3 1) (by rfl) T.z_list (by rfl) (by decide +kernel)) (nomark _))))) (z9 (zf de_bl)) dss_nil)
      (z8 (ds_if (ze (op_neDD co.hu) (de_callB cd_len (by rfl) T.z_len (by decide +kernel) (z4 (z3 0) z7)) (de_callB cd_len (by rfl) T.z_len (by decide +kernel) (z4 (z3 1) z7)) (nomark _)) (z9 (zf de_bl)) dss_nil)
      (z9 (zf (de_cmp (op_eqDD co.hu) (de_frz (de_comp (own := [("_law_k", 2)]) co.calm co.nd (di_range1 (by rfl) T.z_range (de_callB cd_len (by rfl) T.z_len (by decide +kernel) (z4 (z3 1) z7))) (blkOk_by (by kernel_rfl)) (fun _ _ _ _ _ => (dgw_name (i := 2) (by decide) (co.blk _ _ _ _ _).nd rfl (Or.inl rfl))) (fun _ _ _ _ _ => (dts_one (dt_not (dt_val (de_call hrec ((co.blk _ _ _ _ _).hr.mono (by omega)) (co.blk _ _ _ _ _).px (by rfl) T.g__law_same (z4 (de_ix (z3 0) (z3 2)) (z4 (de_ix (z3 1) (z3 2)) z7))))))) (fun _ _ _ _ _ => (z3 2)))) (de_lstF z7) (nomark _)))))) dss_nil)
      (z8 (ds_if (ze op_isD (z3 1) de_non (nomark _)) (z9 (zf (de_cmp op_isD (z3 0) de_non (nomark _)))) dss_nil)
      (z8 (ds_if (dt_val (de_isi (by rfl) T.z_isinstance (z3 1) (by rfl) T.z_str (by rfl) (by decide +kernel))) (z9 (zf (de_and (de_isi (by rfl) T.z_isinstance (z3 0) (by rfl) T.z_str (by rfl) (by decide +kernel)) (de_one (de_cmp (op_eqDD co.hu) (z3 0) (z3 1) (nomark _)))))) dss_nil)
      (z8 (ds_if (dt_bool (dw_or (dt_val (de_isi (by rfl) T.z_isinstance (z3 1) (by rfl) T.z_bool (by rfl) (by decide +kernel))) (dw_or1 (dt_val (de_isi (by rfl) T.z_isinstance (z3 0) (by rfl) T.z_bool (by rfl) (by decide +kernel)))))) (z9 (zf (de_and (de_isi (by rfl) T.z_isinstance (z3 1) (by rfl) T.z_bool (by rfl) (by decide +kernel)) (de_and (de_isi (by rfl) T.z_isinstance (z3 0) (by rfl) T.z_bool (by rfl) (by decide +kernel)) (de_one (de_cmp (op_eqDD co.hu) (z3 0) (z3 1) (nomark _))))))) dss_nil)
      (z9 (zf (de_and (de_isi (by rfl) T.z_isinstance (z3 0) (by rfl) T.z_int (by rfl) (by decide +kernel)) (de_one (de_cmp (op_eqDD co.hu) (z3 0) (z3 1) (nomark _)))))))))))).cut
noncomputable def b__law_far : Sl → Sto → Res Fl :=
  (sSeq (sAsg (d2 ixD (dLstF (dCons (dC (.int 1)) (dCons (dC (.int 20)) (dCons (d2 powD (dC (.int 10)) (dC (.int 29))) dNil)))) (dCallF 2 F__law_drawn (dCons (dVar 0) (dCons (dC (.int 3)) dNil)))) (gVar 3))
  (sRet (d2 ixD (dLstF (dCons (d2 subD (d2 subD (dVar 1) (dC (.int 1))) (dCallF 2 F__law_drawn (dCons (dVar 0) (dCons (dVar 3) dNil)))) (dCons (d2 addD (d2 addD (dVar 2) (dC (.int 1))) (dCallF 2 F__law_drawn (dCons (dVar 0) (dCons (dVar 3) dNil)))) dNil))) (dCallF 2 F__law_drawn (dCons (dVar 0) (dCons (dC (.int 2)) dNil))))))
noncomputable def F__law_far : List D → Sto → Res D := cutF (dFn 4 b__law_far)
theorem d__law_far (T : Tx K mg w lm lb) : FnD P w (clL K w lm lb) K mg base 2 (He.ga K "_law_far") 3 F__law_far := by
  obtain ⟨fd, Fu⟩ := T.f__law_far
  exact (fnD_of Fu sc__law_far (fun _ _ _ _ _ _ us hl => match us, hl with | [_, _, _], _ => rfl) (fun cdv A outer s H E co =>
      (z8 (zd (i := 3) co.nd rfl (Or.inl rfl) (de_ix (de_lstF (z4 za (z4 za (z4 (zb op_powD za za) z7)))) (de_call (d__law_drawn T) (co.hr.mono (by first | decide | omega)) co.px (by rfl) T.g__law_drawn (z4 (z3 0) (z4 za z7)))))
      (z9 (zf (de_ix (de_lstF (z4 (zb op_subD (zb op_subD (z3 1) za) (de_call (d__law_drawn T) (co.hr.mono (by first | decide | omega)) co.px (by rfl) T.g__law_drawn (z4 (z3 0) (z4 (z3 3) z7)))) (z4 (zb op_addD (zb op_addD (z3 2) za) (de_call (d__law_drawn T) (co.hr.mono (by first | decide | omega)) co.px (by rfl) T.g__law_drawn (z4 (z3 0) (z4 (z3 3) z7)))) z7))) (de_call (d__law_drawn T) (co.hr.mono (by first | decide | omega)) co.px (by rfl) T.g__law_drawn (z4 (z3 0) (z4 za z7))))))))).cut
noncomputable def b_Cover_first : Sl → Sto → Res Fl :=
  (sSeq (sAsg (dLst dNil) (gVar 2))
  (sSeq (whileD (d2T neD (dVar 1) (dTup dNil)) (sFor (iVal (dFld [21] "marks" (dVar 0))) (gTupD 2 (gsCons (gVar 3) (gsCons (gVar 4) gsNil))) (sSeq (sAsg (dMeth 21 "left" 3 F_Cover_left (dVar 0) (dCons (dVar 1) (dCons (dVar 4) dNil))) (gVar 5))
  (sIf (tAndD (d2T ltD (dCall lenD (dCons (dVar 5) dNil)) (dCall lenD (dCons (dVar 1) dNil))) (d2T eqD (d2 addD (dC (.int 1)) (dMeth 21 "many" 2 (F_Cover_many 40) (dVar 0) (dCons (dVar 5) dNil))) (dMeth 21 "many" 2 (F_Cover_many 40) (dVar 0) (dCons (dVar 1) dNil)))) (sSeq (sExpr (dBm "list" appendD (dVar 2) (dCons (dVar 3) dNil)))
  (sSeq (sAsg (dVar 5) (gVar 1))
  sBrk)) sNext))) fuelW)
  (sRet (dFrz (dVar 2)))))
noncomputable def F_Cover_first : List D → Sto → Res D := cutF (dFn 6 b_Cover_first)
theorem d_Cover_first (T : Tx K mg w lm lb) : FnD P w (clL K w lm lb) K mg base 43 (He.ma K (He.ga K "Cover") "first") 2 F_Cover_first := by
  obtain ⟨fd, Fu⟩ := T.f_Cover_first
  exact (fnD_of Fu sc_Cover_first (fun _ _ _ _ _ _ us hl => match us, hl with | [_, _], _ => rfl) (fun cdv A outer s H E co =>
      (z8 (zd (i := 2) co.nd rfl (Or.inl rfl) (de_lst z7))
      (z8 (ds_while fuelW co.po (ze (op_neDD co.hu) (z3 1) (de_tup z7) (nomark _)) (z9 (ds_for co.po co.calm (di_val (de_fld T.fl_Cover_marks (z3 0))) (dg_tup co.calm (dgs_cons (dg_name (i := 3) co.nd rfl (Or.inl rfl)) (dgs_cons (dg_name (i := 4) co.nd rfl (Or.inl rfl)) dgs_nil))) (z8 (zd (i := 5) co.nd rfl (Or.inl rfl) (de_meth (z3 0) T.c_Cover T.m_Cover_left (d_Cover_left T) (co.hr.mono (by first | decide | omega)) co.px (z4 (z3 1) (z4 (z3 4) z7))))
      (z9 (ds_if (dt_bool (dw_and (ze op_ltD (de_callB cd_len (by rfl) T.z_len (by decide +kernel) (z4 (z3 5) z7)) (de_callB cd_len (by rfl) T.z_len (by decide +kernel) (z4 (z3 1) z7)) (nomark _)) (dw_and1 (ze (op_eqDD co.hu) (zb op_addD za (de_meth (z3 0) T.c_Cover T.m_Cover_many (d_Cover_many T 40) (co.hr.mono (by first | decide | omega)) co.px (z4 (z3 5) z7))) (de_meth (z3 0) T.c_Cover T.m_Cover_many (d_Cover_many T 40) (co.hr.mono (by first | decide | omega)) co.px (z4 (z3 1) z7)) (nomark _))))) (z8 (ds_expr (de_bm PySem.F.plainAttrs_list PySem.F.slot_list_append PySem.F.type_list_append md_append (z3 2) (z4 (z3 3) z7)))
      (z8 (zd (i := 1) co.nd rfl (Or.inl rfl) (z3 5))
      (z9 ds_break))) dss_nil))))))
      (z9 (zf (de_frz (z3 2)))))))).cut
noncomputable def b_fewest_of : Sl → Sto → Res Fl :=
  (sRet (dMeth 21 "first" 2 F_Cover_first (dMake 21 2 F_Cover_init (dCons (dCallF 2 F_marks_of (dCons (dVar 0) (dCons (dVar 1) dNil))) dNil)) (dCons (dCall tupleD (dCons (dVar 1) dNil)) dNil)))
noncomputable def F_fewest_of : List D → Sto → Res D := cutF (dFn 2 b_fewest_of)
theorem d_fewest_of (T : Tx K mg w lm lb) : FnD P w (clL K w lm lb) K mg base 44 (He.ga K "fewest_of") 2 F_fewest_of := by
  obtain ⟨fd, Fu⟩ := T.f_fewest_of
  exact (fnD_of Fu sc_fewest_of (fun _ _ _ _ _ _ us hl => match us, hl with | [_, _], _ => rfl) (fun cdv A outer s H E co =>
      (z9 (zf (de_meth (de_make T.mk_Cover (d_Cover_init T) (co.hr.mono (by first | decide | omega)) co.px (by rfl) T.g_Cover (z4 (de_call (d_marks_of T) (co.hr.mono (by first | decide | omega)) co.px (by rfl) T.g_marks_of (z4 (z3 0) (z4 (z3 1) z7))) z7)) T.c_Cover T.m_Cover_first (d_Cover_first T) (co.hr.mono (by first | decide | omega)) co.px (z4 (de_callTy cd_tuple (by rfl) T.z_tuple (by decide +kernel) (z4 (z3 1) z7)) z7)))))).cut
noncomputable def b_fewest : Sl → Sto → Res Fl :=
  (sSeq (sIf (tNotD (d3T leD leD (dC (.int 1)) (dVar 0) (dC (.int 4)))) (sRaiseT 7) sNext)
  (sSeq (sExpr (dCallF 2 F_need_beats (dCons (dVar 0) (dCons (dVar 1) dNil))))
  (sSeq (sIf (d2T neD (dSortSetS (dVar 1)) (dCall listF (dCons (dVar 1) dNil))) (sRaiseT 7) sNext)
  (sRet (dCallF 2 F_fewest_of (dCons (dVar 0) (dCons (dVar 1) dNil)))))))
noncomputable def F_fewest : List D → Sto → Res D := cutF (dFn 2 b_fewest)
theorem d_fewest (T : Tx K mg w lm lb) : FnD P w (clL K w lm lb) K mg base 45 (He.ga K "fewest") 2 F_fewest := by
  obtain ⟨fd, Fu⟩ := T.f_fewest
  exact (fnD_of Fu sc_fewest (fun _ _ _ _ _ _ us hl => match us, hl with | [_, _], _ => rfl) (fun cdv A outer s H E co =>
      (z8 (ds_if (dt_not (dt_chain op_leD op_leD za (z3 0) (de_con T.k_MOST_INS (by rfl)))) (z9 (ds_raiseT T.xt_BadMarks co (by rfl) T.g_BadMarks)) dss_nil)
      (z8 (ds_expr (de_call (d_need_beats T) (co.hr.mono (by first | decide | omega)) co.px (by rfl) T.g_need_beats (z4 (z3 0) (z4 (z3 1) z7))))
      (z8 (ds_if (ze (op_neDD co.hu) (de_sortSetS co.hu5 co.calm (by rfl) T.z_sorted (by rfl) T.z_set (z3 1)) (de_callTy cd_listF (by rfl) T.z_list (by decide +kernel) (z4 (z3 1) z7)) (nomark _)) (z9 (ds_raiseT T.xt_BadMarks co (by rfl) T.g_BadMarks)) dss_nil)
      (z9 (zf (de_call (d_fewest_of T) (co.hr.mono (by first | decide | omega)) co.px (by rfl) T.g_fewest_of (z4 (z3 0) (z4 (z3 1) z7)))))))))).cut
noncomputable def b_law : Sl → Sto → Res Fl :=
  (sSeq (sAsg (dCallF 1 Fr__law_start (dCons (dFrz (dVar 0)) dNil)) (gVar 1))
  (sSeq (sFor (iRngD1 (dC (.int 4))) (gVar 2) (sSeq (sAsg (d2 addD (dC (.int 1)) (dCallF 2 F__law_drawn (dCons (dVar 1) (dCons (dC (.int 4)) dNil)))) (gVar 3))
  (sSeq (sAsg (dCallF 1 (F__law_beats 40) (dCons (dVar 3) dNil)) (gVar 4))
  (sSeq (sAsg (d2 addD (dC (.int 1)) (dCallF 2 F__law_drawn (dCons (dVar 1) (dCons (dC (.int 4)) dNil)))) (gVar 5))
  (sSeq (sAsg (dFrz (dComp [17] (iVal (dVar 4)) (gVar 17) (d2T eqD (dCallF 2 F__law_drawn (dCons (dVar 1) (dCons (dVar 5) dNil))) (dC (.int 0))) (dVar 17))) (gVar 6))
  (sSeq (sAsg (dSliceF (dVar 6) oNone (oSome (d2 ixD (dLstF (dCons (dC (.int 16)) (dCons (dC (.int 7)) dNil))) (dCall intD (dCons (d2 eqD (dVar 3) (dC (.int 4))) dNil))))) (gVar 6))
  (sSeq (sAsg (dFrz (dComp [18] (iVal (dCallF 1 (F__law_marks 40) (dCons (dVar 3) dNil))) (gVar 18) (d2T eqD (dFrz (dComp [20] (iVal (dVar 4)) (gVar 20) (tAndD (tstB (dCallF 2 F__law_lets (dCons (dVar 18) (dCons (dVar 20) dNil)))) (d2T notInD (dVar 20) (dVar 6))) (dVar 20))) (dLstF dNil)) (dVar 18))) (gVar 7))
  (sSeq (sAsg (dC .non) (gVar 8))
  (sSeq (sFor (iRngD1 (d2 addD (dCall lenD (dCons (dVar 6) dNil)) (dC (.int 1)))) (gVar 9) (sIf (d2T isD (dVar 8) (dC .non)) (sAsg (dCallF 3 (F__law_covers 40) (dCons (dVar 7) (dCons (dVar 6) (dCons (dVar 9) dNil)))) (gVar 8)) sNext))
  (sSeq (sAsg (dCall listF (dCons (dVar 6) dNil)) (gVar 10))
  (sSeq (sFor (iRngD1 (dC (.int 2))) (gVar 11) (sSeq (sAsg (dCallF 2 Fr_fewest (dCons (dVar 3) (dCons (dVar 10) dNil))) (gVar 16))
  (sSeq (sIf (tOrD (tNotD (tstB (dCallF 2 (F__law_same 40) (dCons (dVar 16) (dCons (dVar 8) dNil))))) (d2T neD (dVar 10) (dVar 6))) (sRet (dC (.bl false))) sNext)
  (sExpr (dBm "list" appendD (dVar 16) (dCons (dC (.str "")) dNil))))))
  (sSeq (sAsg (dCallF 3 F__law_far (dCons (dVar 1) (dCons (dC (.int 1)) (dCons (dC (.int 4)) dNil)))) (gVar 12))
  (sSeq (sAsg (dCallF 2 F__law_drawn (dCons (dVar 1) (dCons (d2 addD (dCall lenD (dCons (dVar 6) dNil)) (dC (.int 1))) dNil))) (gVar 13))
  (sSeq (sAsg (d2 addF (d2 addF (dSliceF (dVar 6) oNone (oSome (dVar 13))) (dLstF (dCons (d2 ixD (dLstF (dCons (dC (.str "")) (dCons (d2 mulD (dC (.str "0")) (d2 addD (dVar 3) (dC (.int 1)))) (dCons (d2 mulD (dC (.str "-")) (dVar 3)) (dCons (d2 mulD (dC (.str "2")) (dVar 3)) dNil))))) (dCallF 2 F__law_drawn (dCons (dVar 1) (dCons (dC (.int 4)) dNil)))) dNil))) (dSliceF (dVar 6) (oSome (dVar 13)) oNone)) (gVar 14))
  (sSeq (sAsg (dLstF (dCons (dLam 0) (dCons (dLam 1) dNil))) (gVar 15))
  (sSeq (sAsg (d2 addF (dVar 15) (dLstF (dCons (dLam 2) (dCons (dLam 3) dNil)))) (gVar 15))
  (sIf (tNotD (tstB (dCallF 2 (F__law_same 40) (dCons (dFrz (dCompE [19] (iVal (dVar 15)) (gVar 19) (fun sd0 => (dKindVE x_kind (fun i => [(dCallF 2 F_fewest (dCons (dVar 12) (dCons (dVar 14) dNil))), (dCallF 2 F_fewest (dCons (dVar 3) (dCons (dLstF (dCons (d2 mulD (dC (.str "1")) (dVar 3)) (dCons (d2 mulD (dC (.str "0")) (dVar 3)) dNil))) dNil))), (dCallF 2 F_fewest (dCons (dVar 3) (dCons (d2 mulF (dLstF (dCons (d2 mulD (dC (.str "0")) (dVar 3)) dNil)) (dC (.int 2))) dNil))), (dCallF 2 F_fewest (dCons (dVar 3) (dCons (dVar 14) dNil)))][i]?) (dVar 19) (wipeD sd0 [20]))))) (dCons (d2 addF (d2 mulF (dLstF (dCons (dC (.str "BadMarks")) dNil)) (dC (.int 3))) (dLstF (dCons (dTup (dCons (dC (.str "BadBeat")) (dCons (dVar 13) dNil))) dNil))) dNil))))) (sRet (dC (.bl false))) sNext)))))))))))))))))
  (sRet (dC (.bl true)))))
noncomputable def F_law : List D → Sto → Res D := dFn 21 b_law
theorem tx_lm {K : PySem.W.Frag} {mg : Str → Option Value} {w : World} {l1 l2 : LamK1} {b1 b2 : LamK2} (T : Tx K mg w l1 b1) : Tx K mg w l2 b2 := { g__law_start := T.g__law_start, g__law_drawn := T.g__law_drawn, g__law_beats := T.g__law_beats, g__law_marks := T.g__law_marks, g__law_lets := T.g__law_lets, g__law_covers := T.g__law_covers, g_is_word := T.g_is_word, g_need_beats := T.g_need_beats, g_all_beats := T.g_all_beats, g_all_marks := T.g_all_marks, g_fits := T.g_fits, g_wider := T.g_wider, g_marks_of := T.g_marks_of, g_fewest_of := T.g_fewest_of, g_fewest := T.g_fewest, g__law_same := T.g__law_same, g__law_far := T.g__law_far, g__law_kind := T.g__law_kind, g_law := T.g_law, g_BeatError := T.g_BeatError, g_BadMachine := T.g_BadMachine, g_NotSound := T.g_NotSound, g_BadBeat := T.g_BadBeat, g_BadPlain := T.g_BadPlain, g_TooLarge := T.g_TooLarge, g_BadMatch := T.g_BadMatch, g_BadMarks := T.g_BadMarks, g_BadTree := T.g_BadTree, g_BadProgram := T.g_BadProgram, g_Stuck := T.g_Stuck, g_BadCircuit := T.g_BadCircuit, g_BadPattern := T.g_BadPattern, g_BadPairs := T.g_BadPairs, g_BadNumbers := T.g_BadNumbers, g_BadRows := T.g_BadRows, g_BadText := T.g_BadText, g_Cover := T.g_Cover, z_isinstance := T.z_isinstance, z_ValueError := T.z_ValueError, z_range := T.z_range, z_len := T.z_len, z_int := T.z_int, z_list := T.z_list, z_enumerate := T.z_enumerate, z_sorted := T.z_sorted, z_set := T.z_set, z_tuple := T.z_tuple, z_min := T.z_min, z_str := T.z_str, z_bool := T.z_bool, k_MOST_INS := T.k_MOST_INS, xb := T.xb, xo_BadMachine := T.xo_BadMachine, xi_BadMachine := T.xi_BadMachine, xt_NotSound := T.xt_NotSound, xo_BadBeat := T.xo_BadBeat, xi_BadBeat := T.xi_BadBeat, xo_BadPlain := T.xo_BadPlain, xi_BadPlain := T.xi_BadPlain, xt_TooLarge := T.xt_TooLarge, xt_BadMatch := T.xt_BadMatch, xt_BadMarks := T.xt_BadMarks, xt_BadTree := T.xt_BadTree, xo_BadProgram := T.xo_BadProgram, xi_BadProgram := T.xi_BadProgram, xt_Stuck := T.xt_Stuck, xo_BadCircuit := T.xo_BadCircuit, xi_BadCircuit := T.xi_BadCircuit, xt_BadPattern := T.xt_BadPattern, xt_BadPairs := T.xt_BadPairs, xt_BadNumbers := T.xt_BadNumbers, xo_BadRows := T.xo_BadRows, xi_BadRows := T.xi_BadRows, xo_BadText := T.xo_BadText, xi_BadText := T.xi_BadText, c_Cover := T.c_Cover, mk_Cover := T.mk_Cover, m_Cover_left := T.m_Cover_left, m_Cover_many := T.m_Cover_many, m_Cover_first := T.m_Cover_first, tu := T.tu, ea := ⟨T.ea.exc, T.ea.exm, T.ea.kv, T.ea.kit⟩, fl_Cover_known := T.fl_Cover_known, fl_Cover_marks := T.fl_Cover_marks, f__law_start := T.f__law_start, f__law_drawn := T.f__law_drawn, f__law_beats := T.f__law_beats, f__law_marks := T.f__law_marks, f__law_lets := T.f__law_lets, f__law_covers := T.f__law_covers, f_is_word := T.f_is_word, f_need_beats := T.f_need_beats, f_Cover_left := T.f_Cover_left, f_Cover_many := T.f_Cover_many, f_Cover_first := T.f_Cover_first, f_Cover_init := T.f_Cover_init, f_all_beats := T.f_all_beats, f_all_marks := T.f_all_marks, f_fits := T.f_fits, f_wider := T.f_wider, f_marks_of := T.f_marks_of, f_fewest_of := T.f_fewest_of, f_fewest := T.f_fewest, f__law_same := T.f__law_same, f__law_far := T.f__law_far, f__law_kind := T.f__law_kind, f_law := T.f_law, f_x_BadMachine := T.f_x_BadMachine, f_x_BadBeat := T.f_x_BadBeat, f_x_BadPlain := T.f_x_BadPlain, f_x_BadProgram := T.f_x_BadProgram, f_x_BadCircuit := T.f_x_BadCircuit, f_x_BadRows := T.f_x_BadRows, f_x_BadText := T.f_x_BadText }
theorem d_law (T : Tx K mg w lm0 lb0) {fd : FuncData} (Fu : FunD K "law" "law" (defArgs st_law) (defBody st_law) (defScope st_law) [] [] (He.fAd K ("law", none)) fd) : (∀ (s : Shared) (u : Value), BindsTo s fd ⟨[u], []⟩ [("_law_script", u)]) ∧ ∀ base : Heap, TbA K mg base → FnOk P w K mg base (L2.CX P w) 49 (He.ga K "law") fd ["_law_script"] (spL (cl K w) K 1 F_law) :=
  fnD_lawL (lm := fun L => lamT lamTab (defScope st_law).names L) Fu sc_law (fun _ _ _ _ _ _ us hl => match us, hl with | [_], _ => rfl) (fun _ _ _ h => h) (fun base TB A outer s H E co =>
      have T : Tx K mg w (lamT lamTab (defScope st_law).names s.heap.objs.size) lb0 := tx_lm T
      (z8 (zd (i := 1) co.nd rfl (Or.inr rfl) (de_call (dr__law_start T) (co.hr.mono (by first | decide | omega)) co.px (by rfl) T.g__law_start (z4 (de_frz (z3 0)) z7)))
      (z8 (ds_for co.po co.calm (di_range1 (by rfl) T.z_range za) (dg_name (i := 2) co.nd rfl (Or.inl rfl)) (z8 (zd (i := 3) co.nd rfl (Or.inr rfl) (zb op_addD za (de_call (d__law_drawn T) (co.hr.mono (by first | decide | omega)) co.px (by rfl) T.g__law_drawn (z4 (z3 1) (z4 za z7)))))
      (z8 (zd (i := 4) co.nd rfl (Or.inr rfl) (de_call (d__law_beats T 40) (co.hr.mono (by first | decide | omega)) co.px (by rfl) T.g__law_beats (z4 (z3 3) z7)))
      (z8 (zd (i := 5) co.nd rfl (Or.inr rfl) (zb op_addD za (de_call (d__law_drawn T) (co.hr.mono (by first | decide | omega)) co.px (by rfl) T.g__law_drawn (z4 (z3 1) (z4 za z7)))))
      (z8 (zd (i := 6) co.nd rfl (Or.inr rfl) (de_frz (de_comp (own := [("_law_beat_here", 17)]) co.calm co.nd (di_val (z3 4)) (blkOk_by (by kernel_rfl)) (fun _ _ _ _ _ => (dgw_name (i := 17) (by decide) (co.blk _ _ _ _ _).nd rfl (Or.inl rfl))) (fun _ _ _ _ _ => (dts_one (ze (op_eqDD (co.blk _ _ _ _ _).hu) (de_call (d__law_drawn T) ((co.blk _ _ _ _ _).hr.mono (by first | decide | omega)) (co.blk _ _ _ _ _).px (by rfl) T.g__law_drawn (z4 (z3 1) (z4 (z3 5) z7))) za (nomark _)))) (fun _ _ _ _ _ => (z3 17)))))
      (z8 (zd (i := 6) co.nd rfl (Or.inr rfl) (de_sliceF (z3 6) dpo_none (dpo_some (de_ix (de_lstF (z4 za (z4 za z7))) (de_callTy cd_int (by rfl) T.z_int (by decide +kernel) (z4 (de_cmp (op_eqDD co.hu) (z3 3) za (nomark _)) z7))))))
      (z8 (ds_compF (i := 7) (own := [("_law_mark", 18)]) co.calm co.nd rfl rfl (sw_true rfl rfl rfl (by decide +kernel)) (di_val (de_call (d__law_marks T 40) (co.hr.mono (by first | decide | omega)) co.px (by rfl) T.g__law_marks (z4 (z3 3) z7))) (blkOk_by (by kernel_rfl)) (fun _ _ _ _ _ => (dgw_name (i := 18) (by decide) (co.blk _ _ _ _ _).nd rfl (Or.inr rfl))) (fun _ _ _ _ _ => (dts_one (ze (op_eqDD (co.blk _ _ _ _ _).hu) (de_frz (de_comp (own := [("_law_b", 20)]) (co.blk _ _ _ _ _).calm (co.blk _ _ _ _ _).nd (di_val (z3 4)) (blkOk_by (by kernel_rfl)) (fun _ _ _ _ _ => (dgw_name (i := 20) (by decide) ((co.blk _ _ _ _ _).blk _ _ _ _ _).nd rfl (Or.inl rfl))) (fun _ _ _ _ _ => (dts_one (dt_bool (dw_and (dt_val (de_call (d__law_lets T) (((co.blk _ _ _ _ _).blk _ _ _ _ _).hr.mono (by first | decide | omega)) ((co.blk _ _ _ _ _).blk _ _ _ _ _).px (by rfl) T.g__law_lets (z4 (z3 18) (z4 (z3 20) z7)))) (dw_and1 (ze (op_notInDD ((co.blk _ _ _ _ _).blk _ _ _ _ _).hu5) (z3 20) (z3 6))))))) (fun _ _ _ _ _ => (z3 20)))) (de_lstF z7) (nomark _)))) (fun _ _ _ _ _ => (z3 18)))
      (z8 (zd (i := 8) co.nd rfl (Or.inl rfl) de_non)
      (z8 (ds_for co.po co.calm (di_range1 (by rfl) T.z_range (zb op_addD (de_callB cd_len (by rfl) T.z_len (by decide +kernel) (z4 (z3 6) z7)) za)) (dg_name (i := 9) co.nd rfl (Or.inl rfl)) (z9 (ds_if (ze op_isD (z3 8) de_non (nomark _)) (z9 (zd (i := 8) co.nd rfl (Or.inl rfl) (de_call (d__law_covers T 40) (co.hr.mono (by first | decide | omega)) co.px (by rfl) T.g__law_covers (z4 (z3 7) (z4 (z3 6) (z4 (z3 9) z7)))))) dss_nil)))
      (z8 (zd (i := 10) co.nd rfl (Or.inl rfl) (de_callTy cd_listF (by rfl) T.z_list (by decide +kernel) (z4 (z3 6) z7)))
      (z8 (ds_for co.po co.calm (di_range1 (by rfl) T.z_range za) (dg_name (i := 11) co.nd rfl (Or.inl rfl)) (z8 (zd (i := 16) co.nd rfl (Or.inl rfl) (de_call (dr_fewest T) (co.hr.mono (by first | decide | omega)) co.px (by rfl) T.g_fewest (z4 (z3 3) (z4 (z3 10) z7))))
      (z8 (ds_if (dt_bool (dw_or (dt_not (dt_val (de_call (d__law_same T 40) (co.hr.mono (by first | decide | omega)) co.px (by rfl) T.g__law_same (z4 (z3 16) (z4 (z3 8) z7))))) (dw_or1 (ze (op_neDD co.hu) (z3 10) (z3 6) (nomark _))))) (z9 (zf de_bl)) dss_nil)
      (z9 (ds_expr (de_bm PySem.F.plainAttrs_list PySem.F.slot_list_append PySem.F.type_list_append md_append (z3 16) (z4 zc z7)))))))
      (z8 (zd (i := 12) co.nd rfl (Or.inr rfl) (de_call (d__law_far T) (co.hr.mono (by first | decide | omega)) co.px (by rfl) T.g__law_far (z4 (z3 1) (z4 za (z4 za z7)))))
      (z8 (zd (i := 13) co.nd rfl (Or.inl rfl) (de_call (d__law_drawn T) (co.hr.mono (by first | decide | omega)) co.px (by rfl) T.g__law_drawn (z4 (z3 1) (z4 (zb op_addD (de_callB cd_len (by rfl) T.z_len (by decide +kernel) (z4 (z3 6) z7)) za) z7))))
      (z8 (zd (i := 14) co.nd rfl (Or.inr rfl) (zb op_addF (zb op_addF (de_sliceF (z3 6) dpo_none (dpo_some (z3 13))) (de_lstF (z4 (de_ix (de_lstF (z4 zc (z4 (zb op_mulD zc (zb op_addD (z3 3) za)) (z4 (zb op_mulD zc (z3 3)) (z4 (zb op_mulD zc (z3 3)) z7))))) (de_call (d__law_drawn T) (co.hr.mono (by first | decide | omega)) co.px (by rfl) T.g__law_drawn (z4 (z3 1) (z4 za z7)))) z7))) (de_sliceF (z3 6) (dpo_some (z3 13)) dpo_none)))
      (z8 (zd (i := 15) co.nd rfl (Or.inl rfl) (de_lstF (z4 (de_lam0Z (i := 0) (TB _ (show (("law", none) : He.Defn) ∈ tf from by simp [tf, tq])) rfl (tab_mem (show ((("law", none), "law") : He.Defn × Str) ∈ tq from by simp [tq])) (tab_uniq T.tu (show ((("law", none), "law") : He.Defn × Str) ∈ tq from by simp [tq])) (lamD_by (by kernel_rfl)) rfl (fun _ _ h => ⟨_, rfl, h⟩)) (z4 (de_lam1Z (i := 1) (TB _ (show (("law", none) : He.Defn) ∈ tf from by simp [tf, tq])) rfl (tab_mem (show ((("law", none), "law") : He.Defn × Str) ∈ tq from by simp [tq])) (tab_uniq T.tu (show ((("law", none), "law") : He.Defn × Str) ∈ tq from by simp [tq])) (lamD_by (by kernel_rfl)) rfl rfl (fun _ _ h => ⟨_, rfl, h⟩)) z7))))
      (z8 (zd (i := 15) co.nd rfl (Or.inl rfl) (de_opL op_addF (z3 15) (de_lstF (z4 (de_lam1Z (i := 2) (TB _ (show (("law", none) : He.Defn) ∈ tf from by simp [tf, tq])) rfl (tab_mem (show ((("law", none), "law") : He.Defn × Str) ∈ tq from by simp [tq])) (tab_uniq T.tu (show ((("law", none), "law") : He.Defn × Str) ∈ tq from by simp [tq])) (lamD_by (by kernel_rfl)) rfl rfl (fun _ _ h => ⟨_, rfl, h⟩)) (z4 (de_lam1Z (i := 3) (TB _ (show (("law", none) : He.Defn) ∈ tf from by simp [tf, tq])) rfl (tab_mem (show ((("law", none), "law") : He.Defn × Str) ∈ tq from by simp [tq])) (tab_uniq T.tu (show ((("law", none), "law") : He.Defn × Str) ∈ tq from by simp [tq])) (lamD_by (by kernel_rfl)) rfl rfl (fun _ _ h => ⟨_, rfl, h⟩)) z7)))))
      (z9 (ds_if (dt_not (dt_val (de_call (d__law_same T 40) (co.hr.mono (by first | decide | omega)) co.px (by rfl) T.g__law_same (z4 (de_frz (de_compE (own := [("_law_work", 19)]) co.calm co.nd (di_val (z3 15)) (blkOk_by (by kernel_rfl)) (fun _ _ _ _ _ => (dgw_name (i := 19) (by decide) (co.blk _ _ _ _ _).nd rfl (Or.inl rfl))) (fun sd0 m0 σ0 pins0 sX HX CX cX fpX I0 rl0 nx => (de_kindVZ (ks := [20]) (k := 45) I0 rl0 nx ((co.blk _ _ _ _ _).at (by first | decide | omega)) (by rfl) T.g__law_kind T.f__law_kind.choose_spec sc__law_kind (fun _ _ _ _ _ _ us hl => match us, hl with | [_], _ => rfl) rfl (Or.inl rfl) (fun cdv => gives__law_kind (lm := lamT lamTab (defScope st_law).names s.heap.objs.size) (lb := lb0) (k := 0) T ((co.blk _ _ _ _ _).hr.mono (by first | decide | omega)) cdv) (lamLZ_set (lamLZ_cons lam_0 (fun _ _ h => lamT_at rfl h) (lamOk0 rfl (lamD_by (by kernel_rfl)) (fun _ _ _ _ _ => rfl)) (lamN_by (by kernel_rfl)) rfl (fun A2 outer2 s2 H2 E2 f2 c2 co2 => (de_call (d_fewest T) (co2.hr.mono (by first | decide | omega)) co2.px (by rfl) T.g_fewest (z4 (z3 12) (z4 (z3 14) z7)))) (lamLZ_cons lam_1 (fun _ _ h => lamT_at rfl h) (lamOk1 rfl (lamD_by (by kernel_rfl)) rfl (fun _ _ _ _ _ _ _ _ e => BindsTo.of_defaults rfl e rfl rfl rfl)) (lamN_by (by kernel_rfl)) rfl (fun A2 outer2 s2 H2 E2 f2 c2 co2 => (de_call (d_fewest T) (co2.hr.mono (by first | decide | omega)) co2.px (by rfl) T.g_fewest (z4 (z3 3) (z4 (de_lstF (z4 (zb op_mulD zc (z3 3)) (z4 (zb op_mulD zc (z3 3)) z7))) z7)))) (lamLZ_cons lam_2 (fun _ _ h => lamT_at rfl h) (lamOk1 rfl (lamD_by (by kernel_rfl)) rfl (fun _ _ _ _ _ _ _ _ e => BindsTo.of_defaults rfl e rfl rfl rfl)) (lamN_by (by kernel_rfl)) rfl (fun A2 outer2 s2 H2 E2 f2 c2 co2 => (de_call (d_fewest T) (co2.hr.mono (by first | decide | omega)) co2.px (by rfl) T.g_fewest (z4 (z3 3) (z4 (zb op_mulF (de_lstF (z4 (zb op_mulD zc (z3 3)) z7)) za) z7)))) (lamLZ_cons lam_3 (fun _ _ h => lamT_at rfl h) (lamOk1 rfl (lamD_by (by kernel_rfl)) rfl (fun _ _ _ _ _ _ _ _ e => BindsTo.of_defaults rfl e rfl rfl rfl)) (lamN_by (by kernel_rfl)) rfl (fun A2 outer2 s2 H2 E2 f2 c2 co2 => (de_call (d_fewest T) (co2.hr.mono (by first | decide | omega)) co2.px (by rfl) T.g_fewest (z4 (z3 3) (z4 (z3 14) z7)))) lamLZ_nil))))) (z3 19))))) (z4 (zb op_addF (zb op_mulF (de_lstF (z4 zc z7)) za) (de_lstF (z4 (de_tup (z4 zc (z4 (z3 13) z7))) z7))) z7))))) (z9 (zf de_bl)) dss_nil))))))))))))))))))
      (z9 (zf de_bl)))))
end
def fa : List He.Fa := [.glo "_law_start", .glo "_law_drawn", .glo "_law_beats", .glo "_law_marks", .glo "_law_lets", .glo "_law_covers", .glo "is_word", .glo "need_beats", .glo "all_beats", .glo "all_marks", .glo "fits", .glo "wider", .glo "marks_of", .glo "fewest_of", .glo "fewest", .glo "_law_same", .glo "_law_far", .glo "_law_kind", .glo "law", .glo "BeatError", .glo "BadMachine", .glo "NotSound", .glo "BadBeat", .glo "BadPlain", .glo "TooLarge", .glo "BadMatch", .glo "BadMarks", .glo "BadTree", .glo "BadProgram", .glo "Stuck", .glo "BadCircuit", .glo "BadPattern", .glo "BadPairs", .glo "BadNumbers", .glo "BadRows", .glo "BadText", .glo "Cover", .free "isinstance", .free "ValueError", .free "range", .free "len", .free "int", .free "list", .free "enumerate", .free "sorted", .free "set", .free "tuple", .free "min", .free "str", .free "bool", .exc "NotSound", .exc "TooLarge", .exc "BadMatch", .exc "BadMarks", .exc "BadTree", .exc "Stuck", .exc "BadPattern", .exc "BadPairs", .exc "BadNumbers", .cls "Cover", .mkr "Cover", .meth "Cover" "left", .meth "Cover" "many", .meth "Cover" "first", .noat "Cover" "known", .noat "Cover" "marks"]
def fn : List He.DefD := [⟨("_law_start", none), "_law_start", "_law_start", defArgs st__law_start, defBody st__law_start, defScope st__law_start, [], []⟩,
  ⟨("_law_drawn", none), "_law_drawn", "_law_drawn", defArgs st__law_drawn, defBody st__law_drawn, defScope st__law_drawn, [], []⟩,
  ⟨("_law_beats", none), "_law_beats", "_law_beats", defArgs st__law_beats, defBody st__law_beats, defScope st__law_beats, [], []⟩,
  ⟨("_law_marks", none), "_law_marks", "_law_marks", defArgs st__law_marks, defBody st__law_marks, defScope st__law_marks, [], []⟩,
  ⟨("_law_lets", none), "_law_lets", "_law_lets", defArgs st__law_lets, defBody st__law_lets, defScope st__law_lets, [], []⟩,
  ⟨("_law_covers", none), "_law_covers", "_law_covers", defArgs st__law_covers, defBody st__law_covers, defScope st__law_covers, [], []⟩,
  ⟨("is_word", none), "is_word", "is_word", defArgs st_is_word, defBody st_is_word, defScope st_is_word, [], []⟩,
  ⟨("need_beats", none), "need_beats", "need_beats", defArgs st_need_beats, defBody st_need_beats, defScope st_need_beats, [], []⟩,
  ⟨("Cover", some "left"), "left", "Cover.left", defArgs st_Cover_left, defBody st_Cover_left, defScope st_Cover_left, [], []⟩,
  ⟨("Cover", some "many"), "many", "Cover.many", defArgs st_Cover_many, defBody st_Cover_many, defScope st_Cover_many, [], []⟩,
  ⟨("Cover", some "first"), "first", "Cover.first", defArgs st_Cover_first, defBody st_Cover_first, defScope st_Cover_first, [], []⟩,
  ⟨("Cover", some "__init__"), "__init__", "Cover.__init__", defArgs st_Cover_init, defBody st_Cover_init, defScope st_Cover_init, [], []⟩,
  ⟨("all_beats", none), "all_beats", "all_beats", defArgs st_all_beats, defBody st_all_beats, defScope st_all_beats, [], []⟩,
  ⟨("all_marks", none), "all_marks", "all_marks", defArgs st_all_marks, defBody st_all_marks, defScope st_all_marks, [], []⟩,
  ⟨("fits", none), "fits", "fits", defArgs st_fits, defBody st_fits, defScope st_fits, [], []⟩,
  ⟨("wider", none), "wider", "wider", defArgs st_wider, defBody st_wider, defScope st_wider, [], []⟩,
  ⟨("marks_of", none), "marks_of", "marks_of", defArgs st_marks_of, defBody st_marks_of, defScope st_marks_of, [], []⟩,
  ⟨("fewest_of", none), "fewest_of", "fewest_of", defArgs st_fewest_of, defBody st_fewest_of, defScope st_fewest_of, [], []⟩,
  ⟨("fewest", none), "fewest", "fewest", defArgs st_fewest, defBody st_fewest, defScope st_fewest, [], []⟩,
  ⟨("_law_same", none), "_law_same", "_law_same", defArgs st__law_same, defBody st__law_same, defScope st__law_same, [], []⟩,
  ⟨("_law_far", none), "_law_far", "_law_far", defArgs st__law_far, defBody st__law_far, defScope st__law_far, [], []⟩,
  ⟨("_law_kind", none), "_law_kind", "_law_kind", defArgs st__law_kind, defBody st__law_kind, defScope st__law_kind, [], []⟩,
  ⟨("law", none), "law", "law", defArgs st_law, defBody st_law, defScope st_law, [], []⟩,
  ⟨("BadMachine", some "__init__"), "__init__", "BadMachine.__init__", defArgs st_x_BadMachine, defBody st_x_BadMachine, defScope st_x_BadMachine, [], []⟩,
  ⟨("BadBeat", some "__init__"), "__init__", "BadBeat.__init__", defArgs st_x_BadBeat, defBody st_x_BadBeat, defScope st_x_BadBeat, [], []⟩,
  ⟨("BadPlain", some "__init__"), "__init__", "BadPlain.__init__", defArgs st_x_BadPlain, defBody st_x_BadPlain, defScope st_x_BadPlain, [], []⟩,
  ⟨("BadProgram", some "__init__"), "__init__", "BadProgram.__init__", defArgs st_x_BadProgram, defBody st_x_BadProgram, defScope st_x_BadProgram, [], []⟩,
  ⟨("BadCircuit", some "__init__"), "__init__", "BadCircuit.__init__", defArgs st_x_BadCircuit, defBody st_x_BadCircuit, defScope st_x_BadCircuit, [], []⟩,
  ⟨("BadRows", some "__init__"), "__init__", "BadRows.__init__", defArgs st_x_BadRows, defBody st_x_BadRows, defScope st_x_BadRows, [], []⟩,
  ⟨("BadText", some "__init__"), "__init__", "BadText.__init__", defArgs st_x_BadText, defBody st_x_BadText, defScope st_x_BadText, [], []⟩]
def exl (K : PySem.W.Frag) : List Bool := [globB K "MOST_INS" (.int 4),
  exBB K (He.ga K "BeatError"),
  oexB K (He.ga K "BadMachine"),
  initB K (He.ga K "BadMachine") ["why", "spot"],
  oexB K (He.ga K "BadBeat"),
  initB K (He.ga K "BadBeat") ["number"],
  oexB K (He.ga K "BadPlain"),
  initB K (He.ga K "BadPlain") ["number"],
  oexB K (He.ga K "BadProgram"),
  initB K (He.ga K "BadProgram") ["number"],
  oexB K (He.ga K "BadCircuit"),
  initB K (He.ga K "BadCircuit") ["number"],
  oexB K (He.ga K "BadRows"),
  initB K (He.ga K "BadRows") ["number"],
  oexB K (He.ga K "BadText"),
  initB K (He.ga K "BadText") ["row"],
  tabU K tq,
  exAllB K (cl0 K) 17]
def exB (K : PySem.W.Frag) : Bool := (exl K).all id
theorem tx_of {K : PySem.W.Frag} {h : Heap} {mg : Str → Option Value} {w : World} (X : K.In h) (G : h.Ns mainGlobals mg) (c : He.SaysD fa fn K) (e : exB K = true) : Tx K mg w lm0 lb0 := by
  have exs : ∀ (i : Nat) {b : Bool}, (exl K)[i]? = some b → b = true := fun i b hb => List.all_eq_true.mp e b (List.mem_of_getElem? hb)
  refine {
    g__law_start := He.glo_ok X G (c.fact 0 rfl)
    g__law_drawn := He.glo_ok X G (c.fact 1 rfl)
    g__law_beats := He.glo_ok X G (c.fact 2 rfl)
    g__law_marks := He.glo_ok X G (c.fact 3 rfl)
    g__law_lets := He.glo_ok X G (c.fact 4 rfl)
    g__law_covers := He.glo_ok X G (c.fact 5 rfl)
    g_is_word := He.glo_ok X G (c.fact 6 rfl)
    g_need_beats := He.glo_ok X G (c.fact 7 rfl)
    g_all_beats := He.glo_ok X G (c.fact 8 rfl)
    g_all_marks := He.glo_ok X G (c.fact 9 rfl)
    g_fits := He.glo_ok X G (c.fact 10 rfl)
    g_wider := He.glo_ok X G (c.fact 11 rfl)
    g_marks_of := He.glo_ok X G (c.fact 12 rfl)
    g_fewest_of := He.glo_ok X G (c.fact 13 rfl)
    g_fewest := He.glo_ok X G (c.fact 14 rfl)
    g__law_same := He.glo_ok X G (c.fact 15 rfl)
    g__law_far := He.glo_ok X G (c.fact 16 rfl)
    g__law_kind := He.glo_ok X G (c.fact 17 rfl)
    g_law := He.glo_ok X G (c.fact 18 rfl)
    g_BeatError := He.glo_ok X G (c.fact 19 rfl)
    g_BadMachine := He.glo_ok X G (c.fact 20 rfl)
    g_NotSound := He.glo_ok X G (c.fact 21 rfl)
    g_BadBeat := He.glo_ok X G (c.fact 22 rfl)
    g_BadPlain := He.glo_ok X G (c.fact 23 rfl)
    g_TooLarge := He.glo_ok X G (c.fact 24 rfl)
    g_BadMatch := He.glo_ok X G (c.fact 25 rfl)
    g_BadMarks := He.glo_ok X G (c.fact 26 rfl)
    g_BadTree := He.glo_ok X G (c.fact 27 rfl)
    g_BadProgram := He.glo_ok X G (c.fact 28 rfl)
    g_Stuck := He.glo_ok X G (c.fact 29 rfl)
    g_BadCircuit := He.glo_ok X G (c.fact 30 rfl)
    g_BadPattern := He.glo_ok X G (c.fact 31 rfl)
    g_BadPairs := He.glo_ok X G (c.fact 32 rfl)
    g_BadNumbers := He.glo_ok X G (c.fact 33 rfl)
    g_BadRows := He.glo_ok X G (c.fact 34 rfl)
    g_BadText := He.glo_ok X G (c.fact 35 rfl)
    g_Cover := He.glo_ok X G (c.fact 36 rfl)
    z_isinstance := He.free_ok X G (c.fact 37 rfl)
    z_ValueError := He.free_ok X G (c.fact 38 rfl)
    z_range := He.free_ok X G (c.fact 39 rfl)
    z_len := He.free_ok X G (c.fact 40 rfl)
    z_int := He.free_ok X G (c.fact 41 rfl)
    z_list := He.free_ok X G (c.fact 42 rfl)
    z_enumerate := He.free_ok X G (c.fact 43 rfl)
    z_sorted := He.free_ok X G (c.fact 44 rfl)
    z_set := He.free_ok X G (c.fact 45 rfl)
    z_tuple := He.free_ok X G (c.fact 46 rfl)
    z_min := He.free_ok X G (c.fact 47 rfl)
    z_str := He.free_ok X G (c.fact 48 rfl)
    z_bool := He.free_ok X G (c.fact 49 rfl)
    k_MOST_INS := globB_ok X G (exs 0 rfl)
    xb := exBB_ok (exs 1 rfl)
    xo_BadMachine := oexB_ok (exs 2 rfl)
    xi_BadMachine := initB_ok (exs 3 rfl)
    xt_NotSound := exT_ok (c.fact 50 rfl)
    xo_BadBeat := oexB_ok (exs 4 rfl)
    xi_BadBeat := initB_ok (exs 5 rfl)
    xo_BadPlain := oexB_ok (exs 6 rfl)
    xi_BadPlain := initB_ok (exs 7 rfl)
    xt_TooLarge := exT_ok (c.fact 51 rfl)
    xt_BadMatch := exT_ok (c.fact 52 rfl)
    xt_BadMarks := exT_ok (c.fact 53 rfl)
    xt_BadTree := exT_ok (c.fact 54 rfl)
    xo_BadProgram := oexB_ok (exs 8 rfl)
    xi_BadProgram := initB_ok (exs 9 rfl)
    xt_Stuck := exT_ok (c.fact 55 rfl)
    xo_BadCircuit := oexB_ok (exs 10 rfl)
    xi_BadCircuit := initB_ok (exs 11 rfl)
    xt_BadPattern := exT_ok (c.fact 56 rfl)
    xt_BadPairs := exT_ok (c.fact 57 rfl)
    xt_BadNumbers := exT_ok (c.fact 58 rfl)
    xo_BadRows := oexB_ok (exs 12 rfl)
    xi_BadRows := initB_ok (exs 13 rfl)
    xo_BadText := oexB_ok (exs 14 rfl)
    xi_BadText := initB_ok (exs 15 rfl)
    c_Cover := He.cls_ok (c.fact 59 rfl)
    mk_Cover := He.mkr_ok (c.fact 60 rfl)
    m_Cover_left := He.meth_ok (c.fact 61 rfl)
    m_Cover_many := He.meth_ok (c.fact 62 rfl)
    m_Cover_first := He.meth_ok (c.fact 63 rfl)
    tu := exs 16 rfl
    ea := exAllB_ok (exs 17 rfl)
    fl_Cover_known := ?_
    fl_Cover_marks := ?_
    f__law_start := c.def_ 0 rfl
    f__law_drawn := c.def_ 1 rfl
    f__law_beats := c.def_ 2 rfl
    f__law_marks := c.def_ 3 rfl
    f__law_lets := c.def_ 4 rfl
    f__law_covers := c.def_ 5 rfl
    f_is_word := c.def_ 6 rfl
    f_need_beats := c.def_ 7 rfl
    f_Cover_left := c.def_ 8 rfl
    f_Cover_many := c.def_ 9 rfl
    f_Cover_first := c.def_ 10 rfl
    f_Cover_init := c.def_ 11 rfl
    f_all_beats := c.def_ 12 rfl
    f_all_marks := c.def_ 13 rfl
    f_fits := c.def_ 14 rfl
    f_wider := c.def_ 15 rfl
    f_marks_of := c.def_ 16 rfl
    f_fewest_of := c.def_ 17 rfl
    f_fewest := c.def_ 18 rfl
    f__law_same := c.def_ 19 rfl
    f__law_far := c.def_ 20 rfl
    f__law_kind := c.def_ 21 rfl
    f_law := c.def_ 22 rfl
    f_x_BadMachine := c.def_ 23 rfl
    f_x_BadBeat := c.def_ 24 rfl
    f_x_BadPlain := c.def_ 25 rfl
    f_x_BadProgram := c.def_ 26 rfl
    f_x_BadCircuit := c.def_ 27 rfl
    f_x_BadRows := c.def_ 28 rfl
    f_x_BadText := c.def_ 29 rfl }
  · exact fun z hz => by
      have hz2 : z = 21 := by simpa using hz
      subst hz2
      exact ⟨He.cls_ok (c.fact 59 rfl), He.noat_ok (c.fact 64 rfl)⟩
  · exact fun z hz => by
      have hz2 : z = 21 := by simpa using hz
      subst hz2
      exact ⟨He.cls_ok (c.fact 59 rfl), He.noat_ok (c.fact 65 rfl)⟩
abbrev R : PySem.W.OpenRow := PySem.W.OpenLaw.row PySem.Challenge.rw_tablebeat_k12_the_fewest_marks
abbrev hk : PySem.W.Hook := hookU 5 fa fn tf exB
def ob (s : PySem.W.SharedT) : He.AlD × Bool := obU 5 fa fn tf exB (HandSHeadRun.getT s)
theorem ob_eq (s : PySem.W.SharedT) : ob s = hk.obs s.abs := obU_eq (HandSHeadRun.getT_eq s)
def loose0 : List Str := ["__name__", "BeatError", "BadMachine", "NotSound", "BadBeat", "BadPlain", "TooLarge", "BadMatch", "BadMarks", "BadTree", "BadProgram", "Stuck"]
def loose1 : List Str := ["BadCircuit", "BadPattern", "BadPairs", "BadNumbers", "BadRows", "BadText", "MOST_INS", "is_word", "all_beats", "need_beats", "fits", "all_marks"]
def loose2 : List Str := ["wider", "marks_of", "Cover", "fewest_of", "fewest", "_law_start", "_law_drawn", "_law_same", "_law_kind", "_law_far", "_law_plain", "_law_deed"]
def loose3 : List Str := ["_law_beats", "_law_beat", "_law_at", "_law_lets", "_law_marks", "_law_covers"]
def loose : List Str := loose0 ++ loose1 ++ loose2 ++ loose3
end Lw

namespace Lw
open PySem PySem.Spec PyProof.Rows L2 DL
def isSt (o : DO) : Prop := ∃ (ns : List Int) (i mx lf : Int), o = .lst [.frl (ns.map .int), .int i, .int mx, .int lf] ∧ 0 ≤ i
def At (l : Nat) (S : Sto) : Prop := ∃ o, S[l]? = some o ∧ isSt o
def Dr (l : Nat) (S S' : Sto) : Prop := ∃ o, S' = S.set l o ∧ isSt o ∧ l < S.length
theorem At.lt {l : Nat} {S : Sto} (h : At l S) : l < S.length := by
  obtain ⟨o, e, _⟩ := h
  exact (List.getElem?_eq_some_iff.mp e).1
theorem At.self {l : Nat} {S : Sto} (h : At l S) : Dr l S S := by
  have hl := h.lt
  obtain ⟨o, e, hs⟩ := h
  refine ⟨o, ?_, hs, hl⟩
  obtain ⟨_, e2⟩ := List.getElem?_eq_some_iff.mp e
  rw [← e2, List.set_getElem_self]
theorem Dr.at {l : Nat} {S S' : Sto} (h : Dr l S S') : At l S' := by
  obtain ⟨o, rfl, hs, hl⟩ := h
  exact ⟨o, List.getElem?_set_self hl, hs⟩
theorem Dr.len {l : Nat} {S S' : Sto} (h : Dr l S S') : S'.length = S.length := by
  obtain ⟨o, rfl, _, _⟩ := h
  simp
theorem Dr.lt {l : Nat} {S S' : Sto} (h : Dr l S S') : l < S.length := h.choose_spec.2.2
theorem Dr.trans {l : Nat} {A B C : Sto} (a : Dr l A B) (b : Dr l B C) : Dr l A C := by
  obtain ⟨o, rfl, _, hl⟩ := a
  obtain ⟨o', rfl, hs, _⟩ := b
  exact ⟨o', by rw [List.set_set], hs, hl⟩
theorem Dr.get {l k : Nat} {S S' : Sto} (h : Dr l S S') (n : k ≠ l) : S'[k]? = S[k]? := by
  obtain ⟨o, rfl, _, _⟩ := h
  rw [List.getElem?_set_ne (Ne.symm n)]
theorem At.app {l : Nat} {S : Sto} (T : Sto) (h : At l S) : At l (S ++ T) := by
  have hl := h.lt
  obtain ⟨o, e, hs⟩ := h
  exact ⟨o, by rw [List.getElem?_append_left hl]; exact e, hs⟩
theorem Dr.app {l : Nat} {S T S' : Sto} (h : Dr l (S ++ T) S') (hl : l < S.length) : ∃ S1, S' = S1 ++ T ∧ Dr l S S1 := by
  obtain ⟨o, rfl, hs, _⟩ := h
  exact ⟨S.set l o, by rw [List.set_append_left _ _ hl], o, rfl, hs, hl⟩
theorem st_blw {n : Nat} {o : DO} (h : isSt o) : o.blw n = true := by
  obtain ⟨ns, i, mx, lf, rfl, _⟩ := h
  show (D.blw n (.frl (ns.map .int)) && _) = true
  have : D.blw n (.frl (ns.map .int)) = true := gd_blw (n := 1) _ (fun d hd => by obtain ⟨k, _, rfl⟩ := List.mem_map.mp hd; exact gd_int)
  rw [this]; rfl
def Gn (l : Nat) (S : Sto) (r : Res D) (P : D → Prop) : Prop := ∃ d S', r = .ok d S' ∧ Dr l S S' ∧ P d
theorem Gn.w {l : Nat} {S : Sto} {r : Res D} {P : D → Prop} {Q : D → Sto → Prop} {X : Exc → Sto → Prop} (h : Gn l S r P) (hq : ∀ d S', Dr l S S' → P d → Q d S') : Wp r Q X := by
  obtain ⟨d, S', rfl, hd, hp⟩ := h
  exact hq d S' hd hp
theorem Gn.wT {l : Nat} {S T : Sto} {r : Res D} {P : D → Prop} {Q : D → Sto → Prop} {X : Exc → Sto → Prop} (h : Gn l (S ++ T) r P) (hl : l < S.length) (hq : ∀ d S', Dr l S S' → P d → Q d (S' ++ T)) : Wp r Q X := by
  obtain ⟨d, S', rfl, hd, hp⟩ := h
  obtain ⟨S1, rfl, hd1⟩ := hd.app hl
  exact hq d S1 hd1 hp
theorem Gn.mono {l : Nat} {S : Sto} {r : Res D} {P P' : D → Prop} (h : Gn l S r P) (hp : ∀ d, P d → P' d) : Gn l S r P' := by
  obtain ⟨d, S', e, hd, h⟩ := h
  exact ⟨d, S', e, hd, hp d h⟩
theorem fn_gn {n l : Nat} {b : Sl → Sto → Res Fl} {ds : List D} {S : Sto} {P : D → Prop} (h : Wp (b (startD n ds) S) (kFn fun d S' => ∃ S1 T, S' = S1 ++ T ∧ Dr l S S1 ∧ d.blw S.length = true ∧ P d) NX) : Gn l S (cutF (dFn n b) ds S) P := by
  have h' : Wp (dFn n b ds S) (fun d S' => ∃ S1 T, S' = S1 ++ T ∧ Dr l S S1 ∧ d.blw S.length = true ∧ P d) NX := by rw [w_dFn]; exact h
  obtain ⟨d, S', e, S1, T, rfl, hd, hb, hp⟩ := Wp.ok h'
  refine ⟨d, S1, ?_, hd, hp⟩
  obtain ⟨o, rfl, hs, hl⟩ := hd
  unfold cutF
  rw [e, cut_set hb (st_blw hs)]
theorem Dr.out {l : Nat} {S S' : Sto} {d : D} {P : D → Prop} (h : Dr l S S') (hb : d.blw S.length = true) (hp : P d) : ∃ S1 T, S' = S1 ++ T ∧ Dr l S S1 ∧ d.blw S.length = true ∧ P d := ⟨S', [], by simp, h, hb, hp⟩
theorem pow18 {S : Sto} {Q : D → Sto → Prop} {X : Exc → Sto → Prop} : Wp (powD (.int 10) (.int 18) S) Q X = Q (.int 1000000000000000000) S := by
  have e : powD (.int 10) (.int 18) S = .ok (.int 1000000000000000000) S := by
    simp only [powD]
    rw [if_pos (powOk_of (by decide))]
    rfl
  rw [e]; rfl
theorem draw {l : Nat} {S : Sto} {many : Int} (h : At l S) (hm : 0 < many := by omega) (hl : many < 10 ^ 40 := by omega) :
    Gn l S (F__law_drawn [.ref l, .int many] S) (fun d => ∃ v, d = .int v ∧ 0 ≤ v ∧ v < many) := by
  have hlt := h.lt
  have hlg := fd_ok hm hl
  obtain ⟨o, hS, ns, i, mx, lf, rfl, hi⟩ := h
  have x1 : ixN 4 1 = some 1 := rfl
  have x2 : ixN 4 2 = some 2 := rfl
  have x3 : ixN 4 3 = some 3 := rfl
  have fin : ∀ (i' mx' lf' v : Int), 0 ≤ i' → 0 ≤ v → v < many → ∃ S1 T, (S.set l (.lst [.frl (ns.map .int), .int i', .int mx', .int lf'])) = S1 ++ T ∧ Dr l S S1 ∧ (D.int v).blw S.length = true ∧ ∃ w, D.int v = .int w ∧ 0 ≤ w ∧ w < many := fun i' mx' lf' v h h0 h1 =>
    Dr.out (P := fun d => ∃ w, d = .int w ∧ 0 ≤ w ∧ w < many) ⟨_, rfl, ⟨ns, i', mx', lf', rfl, h⟩, hlt⟩ rfl ⟨v, rfl, h0, h1⟩
  unfold F__law_drawn
  refine fn_gn ?_
  unfold b__law_drawn
  simp only [z6, z5, wq_a, wq_b, wq_c, wq_d, wq_e, wq_f, wq_g, Int.reduceToNat, Int.reduceLE, Int.reduceLT, Int.reduceNeg, startD, List.replicate, Nat.reduceAdd, Nat.reduceSub, Nat.reduceEqDiff, if_true, if_false, Int.reduceEq, Int.reduceAdd, Int.reduceSub, Int.reduceMul, eq_self, w_ixL2 hS]
  by_cases h1 : (0 : Int) < lf
  · simp only [h1, z6, z5, wq_a, wq_b, wq_c, wq_d, wq_e, wq_f, wq_g, Int.reduceToNat, Int.reduceLE, Int.reduceLT, Int.reduceNeg, startD, List.replicate, Nat.reduceAdd, Nat.reduceSub, Nat.reduceEqDiff, if_true, if_false, Int.reduceEq, Int.reduceAdd, Int.reduceSub, Int.reduceMul, eq_self, w_ixL2 hS, w_modI hm, w_fdivI hlg, w_setL2 hS, x3]
    exact fin i mx _ _ hi (Int.emod_nonneg _ (by omega)) (Int.emod_lt_of_pos _ hm)
  · have hS1 : (S.set l (.lst [.frl (ns.map .int), .int (i + 1), .int mx, .int lf]))[l]? = some (.lst [.frl (ns.map .int), .int (i + 1), .int mx, .int lf]) := set_same hlt
    simp only [h1, z6, z5, wq_a, wq_b, wq_c, wq_d, wq_e, wq_f, wq_g, Int.reduceToNat, Int.reduceLE, Int.reduceLT, Int.reduceNeg, startD, List.replicate, Nat.reduceAdd, Nat.reduceSub, Nat.reduceEqDiff, if_true, if_false, Int.reduceEq, Int.reduceAdd, Int.reduceSub, Int.reduceMul, eq_self, w_ixL2 hS, w_setL2 hS, x1, w_ixL2 hS1, w_lenF, List.length_map]
    by_cases h2 : i + 1 ≤ ((ns.length : Nat) : Int)
    · have h2' : i.toNat < ns.length := by omega
      have ea : atI (ns.map D.int) (i + 1 - 1) = some (.int ns[i.toNat]) := by
        rw [show i + 1 - 1 = i by omega, atI_pos hi]
        simp [h2']
      simp only [h2, z6, z5, wq_a, wq_b, wq_c, wq_d, wq_e, wq_f, wq_g, Int.reduceToNat, Int.reduceLE, Int.reduceLT, Int.reduceNeg, startD, List.replicate, Nat.reduceAdd, Nat.reduceSub, Nat.reduceEqDiff, if_true, if_false, Int.reduceEq, Int.reduceAdd, Int.reduceSub, Int.reduceMul, eq_self, w_ixL2 hS1, ea, pow18]
      generalize ns[i.toNat] = cc
      by_cases h3 : (1000000000000000000 : Int) ≤ cc
      · simp only [h3, z6, z5, wq_a, wq_b, wq_c, wq_d, wq_e, wq_f, wq_g, Int.reduceToNat, Int.reduceLE, Int.reduceLT, Int.reduceNeg, startD, List.replicate, Nat.reduceAdd, Nat.reduceSub, Nat.reduceEqDiff, if_true, if_false, Int.reduceEq, Int.reduceAdd, Int.reduceSub, Int.reduceMul, eq_self, w_fdivI hlg, w_setL2 hS1, x3, w_modI hm, List.set_set]
        exact fin (i + 1) mx _ _ (by omega) (Int.emod_nonneg _ (by omega)) (Int.emod_lt_of_pos _ hm)
      · simp only [h3, z6, z5, wq_a, wq_b, wq_c, wq_d, wq_e, wq_f, wq_g, Int.reduceToNat, Int.reduceLE, Int.reduceLT, Int.reduceNeg, startD, List.replicate, Nat.reduceAdd, Nat.reduceSub, Nat.reduceEqDiff, if_true, if_false, Int.reduceEq, Int.reduceAdd, Int.reduceSub, Int.reduceMul, eq_self, w_setL2 hS1, x3, w_modI hm, List.set_set]
        exact fin (i + 1) mx _ _ (by omega) (Int.emod_nonneg _ (by omega)) (Int.emod_lt_of_pos _ hm)
    · have hS2 : ∀ m, (S.set l (.lst [.frl (ns.map .int), .int (i + 1), .int m, .int lf]))[l]? = some (.lst [.frl (ns.map .int), .int (i + 1), .int m, .int lf]) := fun m => set_same hlt
      simp only [h2, z6, z5, wq_a, wq_b, wq_c, wq_d, wq_e, wq_f, wq_g, Int.reduceToNat, Int.reduceLE, Int.reduceLT, Int.reduceNeg, startD, List.replicate, Nat.reduceAdd, Nat.reduceSub, Nat.reduceEqDiff, if_true, if_false, Int.reduceEq, Int.reduceAdd, Int.reduceSub, Int.reduceMul, eq_self, w_ixL2 hS1, w_mulI (a := mx) (b := 48271) (mul_r (mul_okI (by decide) (by decide))), w_modI (show (0 : Int) < 2147483647 by decide), w_setL2 hS1, x2, List.set_set, w_ixL2 (hS2 _), w_fdivI (fd_ok (b := 7) (by decide) (by decide)), w_modI hm]
      exact fin (i + 1) _ lf _ (by omega) (Int.emod_nonneg _ (by omega)) (Int.emod_lt_of_pos _ hm)
theorem start_ok {ns : List Int} {S : Sto} : ∃ o, Fr__law_start [.frl (ns.map .int)] S = .ok (.ref S.length) (S ++ [o]) ∧ isSt o := by
  have h : Wp (dFn 3 br__law_start [.frl (ns.map .int)] S) (fun d S' => ∃ mx, d = .ref S.length ∧ S' = S ++ [.lst [.frl (ns.map .int), .int 0, .int mx, .int 0]]) NX := by
    rw [w_dFn]
    unfold br__law_start
    simp only [z6, z5, wq_a, wq_b, wq_c, wq_d, wq_e, wq_f, wq_g, Int.reduceToNat, Int.reduceLE, Int.reduceLT, Int.reduceNeg, startD, List.replicate, Nat.reduceAdd, Nat.reduceSub, Nat.reduceEqDiff, if_true, if_false, Int.reduceEq, Int.reduceAdd, Int.reduceSub, Int.reduceMul, eq_self, itemsD]
    refine w_loopP D.int (fun _ sd S' => S' = S ∧ ∃ a v, sd = [some (.frl (ns.map .int)), some (.int v), a]) ns (fun _ _ _ _ _ _ => rfl) ⟨rfl, none, 1, rfl⟩ ?_ ?_
    · rintro sd S' ⟨rfl, a, v, rfl⟩
      simp only [z6, z5, wq_a, wq_b, wq_c, wq_d, wq_e, wq_f, wq_g, Int.reduceToNat, Int.reduceLE, Int.reduceLT, Int.reduceNeg, startD, List.replicate, Nat.reduceAdd, Nat.reduceSub, Nat.reduceEqDiff, if_true, if_false, Int.reduceEq, Int.reduceAdd, Int.reduceSub, Int.reduceMul, eq_self]
      exact ⟨v, trivial, rfl⟩
    · rintro pre c post sd S' e ⟨rfl, a, v, rfl⟩
      simp only [z6, z5, wq_a, wq_b, wq_c, wq_d, wq_e, wq_f, wq_g, Int.reduceToNat, Int.reduceLE, Int.reduceLT, Int.reduceNeg, startD, List.replicate, Nat.reduceAdd, Nat.reduceSub, Nat.reduceEqDiff, if_true, if_false, Int.reduceEq, Int.reduceAdd, Int.reduceSub, Int.reduceMul, eq_self, w_mulI (a := v) (b := 48271) (mul_r (mul_okI (by decide) (by decide))), w_modI (show (0 : Int) < 2147483647 by decide)]
      exact ⟨trivial, _, _, rfl⟩
  obtain ⟨d, S', e, mx, rfl, rfl⟩ := Wp.ok h
  refine ⟨_, ?_, ns, 0, mx, 0, rfl, by decide⟩
  unfold Fr__law_start cutF
  rw [e]
  have hb : D.blws S.length [.frl (ns.map .int), .int 0, .int mx, .int 0] = true := st_blw (o := .lst [.frl (ns.map .int), .int 0, .int mx, .int 0]) ⟨ns, 0, mx, 0, rfl, by decide⟩
  simp only [cutR]
  rw [if_pos (cutOk_app S _), if_neg (by simp [D.blw]), get_last]
  simp only
  rw [if_pos ⟨hb, Nat.le_refl _⟩, List.take_left]
def cb (b : Bool) : Nat := if b then 49 else 48
def wB (l : List Bool) : List Nat := l.map cb
theorem wB_len (l : List Bool) : (wB l).length = l.length := by simp [wB]
theorem cb_lt (b : Bool) : cb b < 1114112 := by cases b <;> decide
theorem wB_ok (l : List Bool) : Wok (wB l) := fun c hc => by
  obtain ⟨b, _, rfl⟩ := List.mem_map.mp hc
  exact cb_lt b
theorem cb_mem (b : Bool) : cb b ∈ [48, 49] := by cases b <;> decide
theorem cb_inj {a b : Bool} (h : cb a = cb b) : a = b := by cases a <;> cases b <;> first | rfl | cases h
theorem wB_inj {a b : List Bool} (h : wB a = wB b) : a = b := List.map_inj_right (fun _ _ => cb_inj) |>.mp h
theorem strsD_W : ∀ ws : List (List Nat), strsD (ws.map fun w => D.str (W w)) = some (ws.map W)
  | [] => rfl
  | w :: ws => by
    rw [List.map_cons]
    show (strsD _).map _ = _
    rw [strsD_W ws]; rfl
theorem ix_W {l : List Nat} {i : Int} {S : Sto} {c : Nat} (hl : l.length ≤ sizeLine) (h : atI l i = some c) : ixD (.str (W l)) (.int i) S = .ok (.str (W [c])) S := by
  simp only [ixD]
  rw [if_pos (by rw [W_len]; exact hl), W_cps, h]
  rfl
theorem szn {n : Nat} (h : n ≤ 16777216) : n ≤ sizeLine := by rw [sizeLine_eq]; exact h
def isWord (w : List Nat) (many : Int) (signs : List Nat) : Bool := decide ((w.length : Int) = many) && w.all fun c => decide (c ∈ signs)
theorem is_word_ok {w signs : List Nat} {many : Int} {S : Sto} (hw : Wok w) (h : w.length ≤ 16777216) : F_is_word [.str (W w), .int many, .str (W signs)] S = .ok (.bl (isWord w many signs)) S := by
  unfold F_is_word
  refine fn_ok rfl ?_
  unfold b_is_word
  simp only [z6, z5, wq_a, wq_b, wq_c, wq_d, wq_e, wq_f, wq_g, Int.reduceToNat, Int.reduceLE, Int.reduceLT, Int.reduceNeg, startD, List.replicate, Nat.reduceAdd, Nat.reduceSub, Nat.reduceEqDiff, if_true, if_false, Int.reduceEq, Int.reduceAdd, Int.reduceSub, Int.reduceMul, eq_self, w_lenS (show (W w).length ≤ sizeLine by rw [W_len]; exact szn h), W_len]
  by_cases e : (w.length : Int) = many
  · simp only [e, z6, z5, wq_a, wq_b, wq_c, wq_d, wq_e, wq_f, wq_g, Int.reduceToNat, Int.reduceLE, Int.reduceLT, Int.reduceNeg, startD, List.replicate, Nat.reduceAdd, Nat.reduceSub, Nat.reduceEqDiff, if_true, if_false, Int.reduceEq, Int.reduceAdd, Int.reduceSub, Int.reduceMul, eq_self]
    have hc : dFrz (dComp [3] (iVal (dVar 0)) (gVar 3) (d2T notInD (dVar 3) (dVar 2)) (dVar 3)) [some (.str (W w)), some (.int many), some (.str (W signs)), none] S = .ok (.frl ((w.filter fun c => !decide (c ∈ signs)).map fun c => .str (W [c]))) S := by
      refine compF w (fun c => .str (W [c])) _ _ ?_ (Nat.le_trans (List.length_filter_le _ _) (szn h)) ?_ ?_
      · simp only [z6, z5, wq_a, wq_b, wq_c, wq_d, wq_e, wq_f, wq_g, Int.reduceToNat, Int.reduceLE, Int.reduceLT, Int.reduceNeg, startD, List.replicate, Nat.reduceAdd, Nat.reduceSub, Nat.reduceEqDiff, if_true, if_false, Int.reduceEq, Int.reduceAdd, Int.reduceSub, Int.reduceMul, eq_self, itemsD, signsD, W_cps]
        exact ⟨trivial, rfl, fun _ _ => rfl⟩
      · intro c _ S' _
        simp only [z6, z5, wq_a, wq_b, wq_c, wq_d, wq_e, wq_f, wq_g, Int.reduceToNat, Int.reduceLE, Int.reduceLT, Int.reduceNeg, startD, List.replicate, Nat.reduceAdd, Nat.reduceSub, Nat.reduceEqDiff, if_true, if_false, Int.reduceEq, Int.reduceAdd, Int.reduceSub, Int.reduceMul, eq_self, wipeD, notInD, has_sign]
        exact ⟨trivial, trivial, trivial, fun _ => ⟨trivial, trivial⟩⟩
      · intro c _ _; rfl
    simp only [hc, z6, z5, wq_a, wq_b, wq_c, wq_d, wq_e, wq_f, wq_g, Int.reduceToNat, Int.reduceLE, Int.reduceLT, Int.reduceNeg, startD, List.replicate, Nat.reduceAdd, Nat.reduceSub, Nat.reduceEqDiff, if_true, if_false, Int.reduceEq, Int.reduceAdd, Int.reduceSub, Int.reduceMul, eq_self]
    rw [w_eqNil (n := 0) fun c hc => gd_W fun x hx => by rw [List.mem_singleton] at hx; rw [hx]; exact hw c hc]
    simp only [z6, z5, wq_a, wq_b, wq_c, wq_d, wq_e, wq_f, wq_g, Int.reduceToNat, Int.reduceLE, Int.reduceLT, Int.reduceNeg, startD, List.replicate, Nat.reduceAdd, Nat.reduceSub, Nat.reduceEqDiff, if_true, if_false, Int.reduceEq, Int.reduceAdd, Int.reduceSub, Int.reduceMul, eq_self]
    refine ⟨?_, app_nil S⟩
    simp [isWord, e]
  · simp only [e, z6, z5, wq_a, wq_b, wq_c, wq_d, wq_e, wq_f, wq_g, Int.reduceToNat, Int.reduceLE, Int.reduceLT, Int.reduceNeg, startD, List.replicate, Nat.reduceAdd, Nat.reduceSub, Nat.reduceEqDiff, if_true, if_false, Int.reduceEq, Int.reduceAdd, Int.reduceSub, Int.reduceMul, eq_self]
    refine ⟨?_, app_nil S⟩
    simp [isWord, e]

def b01 : List Nat := [48, 49]
def allB : Nat → List (List Bool)
  | 0 => [[]]
  | n + 1 => (allB n).map (false :: ·) ++ (allB n).map (true :: ·)
theorem allB_len : ∀ (n : Nat) (b : List Bool), b ∈ allB n → b.length = n
  | 0, b, h => by simp [allB] at h; simp [h]
  | n + 1, b, h => by
    simp only [allB, List.mem_append, List.mem_map] at h
    rcases h with ⟨a, ha, rfl⟩ | ⟨a, ha, rfl⟩ <;> simp [allB_len n a ha]
theorem allB_many : ∀ n : Nat, (allB n).length = 2 ^ n
  | 0 => rfl
  | n + 1 => by simp only [allB, List.length_append, List.length_map, allB_many n]; omega
theorem allB_mem : ∀ b : List Bool, b ∈ allB b.length
  | [] => by simp [allB]
  | c :: b => by
    have := allB_mem b
    cases c <;> simp [allB, this]
def sW (b : List Bool) : D := .str (W (wB b))

theorem pow_le {ins : Nat} (h : ins ≤ 4) : 2 ^ ins ≤ 16 := by
  have : ins = 0 ∨ ins = 1 ∨ ins = 2 ∨ ins = 3 ∨ ins = 4 := by omega
  rcases this with rfl | rfl | rfl | rfl | rfl <;> decide
theorem get_mid {A T : Sto} {o : DO} {n : Nat} (h : A.length = n) : (A ++ o :: T)[n]? = some o := by
  subst h; simp
theorem set_mid {A T : Sto} {o o' : DO} {n : Nat} (h : A.length = n) : (A ++ o :: T).set n o' = A ++ o' :: T := by
  subst h
  rw [List.set_append_right _ _ (Nat.le_refl _)]
  simp
theorem isTy_lst {l : Nat} {xs : List D} {S : Sto} (h : S[l]? = some (.lst xs)) : isTy "list" (.ref l) S = true := by
  simp only [isTy, h]
  rfl
theorem w_tupF {xs : List D} {S : Sto} {Q : D → Sto → Prop} {X : Exc → Sto → Prop} : Wp (tupleD [.frl xs] S) Q X = Q (.tup xs) S := rfl
def allE : Nat → List (List Bool)
  | 0 => [[]]
  | n + 1 => (allE n).flatMap fun b => [b ++ [false], b ++ [true]]
theorem allE_eq {n : Nat} (h : n ≤ 4) : allE n = allB n := by
  have : n = 0 ∨ n = 1 ∨ n = 2 ∨ n = 3 ∨ n = 4 := by omega
  rcases this with rfl | rfl | rfl | rfl | rfl <;> decide
theorem allE_len : ∀ (n : Nat) (b : List Bool), b ∈ allE n → b.length = n
  | 0, b, h => by simp [allE] at h; simp [h]
  | n + 1, b, h => by
    simp only [allE, List.mem_flatMap, List.mem_cons, List.not_mem_nil, or_false] at h
    obtain ⟨a, ha, rfl | rfl⟩ := h <;> simp [allE_len n a ha]
theorem fl_len : ∀ pre : List (List Bool), (pre.flatMap fun b => [b ++ [false], b ++ [true]]).length = 2 * pre.length
  | [] => rfl
  | b :: pre => by
    have := fl_len pre
    rw [List.flatMap_cons, List.length_append, this, List.length_cons]
    simp
    omega
theorem w_extL {l k : Nat} {xs ys : List D} {S : Sto} {Q : D → Sto → Prop} {X : Exc → Sto → Prop} (hl : S[l]? = some (.lst xs)) (hk : S[k]? = some (.lst ys)) (hz : xs.length + ys.length ≤ sizeLine) : Wp (extendD (.ref l) [.ref k] S) Q X = Q .non (S.set l (.lst (xs ++ ys))) := by
  simp only [extendD, hl, hk]
  rw [if_pos hz]; rfl
theorem frz_at {l : Nat} {xs : List D} {S : Sto} (h : S[l]? = some (.lst xs)) : frzD S (.ref l) S = .ok (.frl xs) (S.set l .dead) := by
  have hl : l < S.length := (List.getElem?_eq_some_iff.mp h).1
  simp only [frzD, h]
  rw [if_neg (fun z => by have := z.1; omega)]
theorem sW_blw {k : Nat} {bs : List (List Bool)} : (D.frl (bs.map sW)).blw k = true := gd_blw (n := 1) _ (gd_frl (gd_map fun _ _ => gd_W (wB_ok _)))
theorem all_beats_ok {n : Nat} {S : Sto} (hn : n ≤ 4) : F_all_beats [.int ((n : Nat) : Int)] S = .ok (.frl ((allB n).map sW)) S := by
  rw [← allE_eq hn]
  unfold F_all_beats
  refine fn_ok sW_blw ?_
  unfold b_all_beats
  simp only [z6, z5, wq_a, wq_b, wq_c, wq_d, wq_e, wq_f, wq_g, Int.reduceToNat, Int.reduceLE, Int.reduceLT, Int.reduceNeg, startD, List.replicate, Nat.reduceAdd, Nat.reduceSub, Nat.reduceEqDiff, if_true, if_false, Int.reduceEq, Int.reduceAdd, Int.reduceSub, Int.reduceMul, eq_self]
  rw [w_ite (rng_ok (by omega))]
  simp only [z6, z5, wq_a, wq_b, wq_c, wq_d, wq_e, wq_f, wq_g, Int.reduceToNat, Int.reduceLE, Int.reduceLT, Int.reduceNeg, startD, List.replicate, Nat.reduceAdd, Nat.reduceSub, Nat.reduceEqDiff, if_true, if_false, Int.reduceEq, Int.reduceAdd, Int.reduceSub, Int.reduceMul, eq_self, Int.toNat_natCast]
  refine w_rangeP (fun i sd S' => ∃ (T : Sto) (a2 a3 a4 : Option D), S' = S ++ T ∧ sd = [some (.int ((n : Nat) : Int)), some (.frl ((allE i).map sW)), a2, a3, a4]) 0 n (fun _ _ _ _ _ => rfl) ⟨[], _, _, _, by simp, by simp only [allE, List.map_cons, List.map_nil, sW, W_empty]; rfl⟩ ?_ ?_
  · rintro sd S' ⟨T, a2, a3, a4, rfl, rfl⟩
    simp only [z6, z5, wq_a, wq_b, wq_c, wq_d, wq_e, wq_f, wq_g, Int.reduceToNat, Int.reduceLE, Int.reduceLT, Int.reduceNeg, startD, List.replicate, Nat.reduceAdd, Nat.reduceSub, Nat.reduceEqDiff, if_true, if_false, Int.reduceEq, Int.reduceAdd, Int.reduceSub, Int.reduceMul, eq_self]
    exact ⟨trivial, _, rfl⟩
  · rintro i sd S' hi ⟨T, a2, a3, a4, rfl, rfl⟩
    have p16 : ∀ k, k ≤ 4 → (allE k).length ≤ 16 := fun k hk => by
      rw [allE_eq hk, allB_many]; exact pow_le hk
    simp only [z6, z5, wq_a, wq_b, wq_c, wq_d, wq_e, wq_f, wq_g, Int.reduceToNat, Int.reduceLE, Int.reduceLT, Int.reduceNeg, startD, List.replicate, Nat.reduceAdd, Nat.reduceSub, Nat.reduceEqDiff, if_true, if_false, Int.reduceEq, Int.reduceAdd, Int.reduceSub, Int.reduceMul, eq_self, itemsD]
    have step : ∀ (pre : List (List Bool)) (x : List Bool), (pre ++ [x]).flatMap (fun b => [b ++ [false], b ++ [true]]) = pre.flatMap (fun b => [b ++ [false], b ++ [true]]) ++ [x ++ [false], x ++ [true]] := fun pre x => by simp
    refine w_loopP sW (fun pre sd S' => ∃ (U : Sto) (a4 : Option D), S' = (S ++ T) ++ .lst ((pre.flatMap fun b => [b ++ [false], b ++ [true]]).map sW) :: U ∧ sd = [some (.int ((n : Nat) : Int)), some (.frl ((allE i).map sW)), some (.int (0 + ((i : Nat) : Int))), some (.ref (S ++ T).length), a4]) (allE i) (fun _ _ _ _ _ _ => rfl) ⟨[], _, rfl, rfl⟩ ?_ ?_
    · rintro sd S' ⟨U, a4, rfl, rfl⟩
      simp only [z6, z5, wq_a, wq_b, wq_c, wq_d, wq_e, wq_f, wq_g, Int.reduceToNat, Int.reduceLE, Int.reduceLT, Int.reduceNeg, startD, List.replicate, Nat.reduceAdd, Nat.reduceSub, Nat.reduceEqDiff, if_true, if_false, Int.reduceEq, Int.reduceAdd, Int.reduceSub, Int.reduceMul, eq_self, w_dFrz]
      rw [frz_at (get_mid rfl)]
      exact ⟨T ++ .dead :: U, _, _, _, by rw [set_mid rfl, List.append_assoc], rfl⟩
    · rintro pre b post sd S' e ⟨U, a4, rfl, rfl⟩
      have hb : b ∈ allE i := by rw [e]; simp
      have hbl := allE_len i b hb
      have hpl : pre.length ≤ 16 := by
        have := p16 i (by omega)
        rw [e] at this
        simp at this
        omega
      have eW : ∀ (c : Bool), W (wB b ++ [cb c]) = W (wB (b ++ [c])) := fun c => by simp [wB]
      have get0 : ((S ++ T) ++ DO.lst ((pre.flatMap fun b => [b ++ [false], b ++ [true]]).map sW) :: U)[(S ++ T).length]? = some (.lst ((pre.flatMap fun b => [b ++ [false], b ++ [true]]).map sW)) := get_mid rfl
      simp only [z6, z5, wq_a, wq_b, wq_c, wq_d, wq_e, wq_f, wq_g, Int.reduceToNat, Int.reduceLE, Int.reduceLT, Int.reduceNeg, startD, List.replicate, Nat.reduceAdd, Nat.reduceSub, Nat.reduceEqDiff, if_true, if_false, Int.reduceEq, Int.reduceAdd, Int.reduceSub, Int.reduceMul, eq_self]
      rw [w_ite (isTy_lst get0)]
      simp only [z6, z5, wq_a, wq_b, wq_c, wq_d, wq_e, wq_f, wq_g, Int.reduceToNat, Int.reduceLE, Int.reduceLT, Int.reduceNeg, startD, List.replicate, Nat.reduceAdd, Nat.reduceSub, Nat.reduceEqDiff, if_true, if_false, Int.reduceEq, Int.reduceAdd, Int.reduceSub, Int.reduceMul, eq_self, sW, W_0, W_1]
      rw [w_addS (by rw [W_len, W_len, wB_len]; exact szn (by simp; omega)), W_app]
      simp only [z6, z5, wq_a, wq_b, wq_c, wq_d, wq_e, wq_f, wq_g, Int.reduceToNat, Int.reduceLE, Int.reduceLT, Int.reduceNeg, startD, List.replicate, Nat.reduceAdd, Nat.reduceSub, Nat.reduceEqDiff, if_true, if_false, Int.reduceEq, Int.reduceAdd, Int.reduceSub, Int.reduceMul, eq_self]
      rw [w_addS (by rw [W_len, W_len, wB_len]; exact szn (by simp; omega)), W_app]
      simp only [z6, z5, wq_a, wq_b, wq_c, wq_d, wq_e, wq_f, wq_g, Int.reduceToNat, Int.reduceLE, Int.reduceLT, Int.reduceNeg, startD, List.replicate, Nat.reduceAdd, Nat.reduceSub, Nat.reduceEqDiff, if_true, if_false, Int.reduceEq, Int.reduceAdd, Int.reduceSub, Int.reduceMul, eq_self]
      have e1 : ((S ++ T) ++ DO.lst ((pre.flatMap fun b => [b ++ [false], b ++ [true]]).map sW) :: U) ++ [DO.lst [.str (W (wB b ++ [48])), .str (W (wB b ++ [49]))]] = (S ++ T) ++ DO.lst ((pre.flatMap fun b => [b ++ [false], b ++ [true]]).map sW) :: (U ++ [DO.lst [.str (W (wB b ++ [48])), .str (W (wB b ++ [49]))]]) := by simp
      have hfl : ((pre.flatMap fun b => [b ++ [false], b ++ [true]]).map sW).length ≤ 100 := by
        rw [List.length_map, fl_len]
        omega
      have hl2 : (((S ++ T) ++ DO.lst ((pre.flatMap fun b => [b ++ [false], b ++ [true]]).map sW) :: U) ++ [DO.lst [.str (W (wB b ++ [48])), .str (W (wB b ++ [49]))]])[(S ++ T).length]? = some (.lst ((pre.flatMap fun b => [b ++ [false], b ++ [true]]).map sW)) := by rw [e1]; exact get_mid rfl
      rw [w_extL hl2 get_last (szn (by simp only [List.length_cons, List.length_nil]; omega)), e1, set_mid rfl]
      refine ⟨U ++ [DO.lst [.str (W (wB b ++ [48])), .str (W (wB b ++ [49]))]], some (D.str (W (wB b))), ?_, rfl⟩
      rw [step, List.map_append]
      have e2 : [D.str (W (wB b ++ [48])), D.str (W (wB b ++ [49]))] = [b ++ [false], b ++ [true]].map sW := by simp [sW, wB, cb]
      rw [e2]

theorem compR {α : Type} (xs : List α) (en : α → D) (P : α → Bool) (f : α → D) {vs : List Nat} {fi : Sl → Sto → Res ItD} {ga : D → Sl → Sto → Res Sl} {ft : Sl → Sto → Res Bool} {fe : Sl → Sto → Res D} {sd : Sl} {S : Sto}
    (hi : Wp (fi sd S) (fun it S1 => S1 = S ∧ it.items = xs.map en ∧ ∀ S', Grow S S' → it.chk S' = true) NX) (hl : (xs.filter P).length ≤ sizeLine)
    (hx : ∀ a ∈ xs, ∀ S', Grow S S' → Wp (ga (en a) (wipeD sd vs) S') (fun sd1 S1 => S1 = S' ∧ Wp (ft sd1 S') (fun b S2 => S2 = S' ∧ b = P a ∧ (P a = true → Wp (fe sd1 S') (fun y S3 => S3 = S' ∧ y = f a) NX)) NX) NX) : dComp vs fi ga ft fe sd S = .ok (.ref S.length) (S ++ [.lst ((xs.filter P).map f)]) := by
  obtain ⟨it, S1, e1, rfl, e2, e3⟩ := ok_of_wp hi
  have key : ∀ (ys : List α) (acc : List D), (∀ a ∈ ys, a ∈ xs) → acc.length + (ys.filter P).length ≤ sizeLine → compD it.chk ga ft fe S1.length (wipeD sd vs) (ys.map en) (S1 ++ [.lst acc]) = .ok () (S1 ++ [.lst (acc ++ (ys.filter P).map f)]) := by
    intro ys
    induction ys with
    | nil =>
      intro acc _ _
      show (if it.chk (S1 ++ [.lst acc]) = true then Res.ok () (S1 ++ [.lst acc]) else .stuck) = _
      rw [if_pos (e3 _ (Grow.one _ _))]
      simp
    | cons a ys ih =>
      intro acc hm hlen
      obtain ⟨sd1, S2, g1, rfl, h2⟩ := ok_of_wp (hx a (hm a (by simp)) (S1 ++ [.lst acc]) (Grow.one _ _))
      obtain ⟨b, S3, g2, rfl, rfl, h3⟩ := ok_of_wp h2
      rw [List.map_cons]
      unfold compD
      rw [if_pos (e3 _ (Grow.one _ _)), g1]
      simp only [Res.noExc, Res.bind, g2]
      cases hp : P a with
      | false =>
        rw [List.filter_cons_of_neg (by simp [hp])] at hlen ⊢
        rw [if_neg (by simp), ih acc (fun z hz => hm z (by simp [hz])) hlen]
      | true =>
        rw [List.filter_cons_of_pos hp] at hlen ⊢
        have hlen' : acc.length + 1 + (ys.filter P).length ≤ sizeLine := by simp at hlen; omega
        obtain ⟨y, S4, g3, rfl, rfl⟩ := ok_of_wp (h3 hp)
        rw [if_pos rfl, g3]
        simp only [Res.noExc, Res.bind]
        rw [List.getElem?_append_right (Nat.le_refl _)]
        simp only [Nat.sub_self, List.getElem?_cons_zero]
        rw [if_pos (by omega), set_last, ih (acc ++ [f a]) (fun z hz => hm z (by simp [hz])) (by simp; omega)]
        simp
  unfold dComp
  rw [e1]
  show ((compD it.chk ga ft fe S1.length (wipeD sd vs) it.items (S1 ++ [.lst []])).bind fun _ S2 => Res.ok (D.ref S1.length) S2) = _
  rw [e2, key xs [] (fun _ h => h) (by simpa using hl)]
  rfl

theorem compS {α : Type} (xs : List α) (en : α → D) (J : List α → List D → Sto → Prop) {vs : List Nat} {fi : Sl → Sto → Res ItD} {ga : D → Sl → Sto → Res Sl} {ft : Sl → Sto → Res Bool} {fe : Sl → Sto → Res D} {sd : Sl} {S : Sto} {Q : D → Sto → Prop} {X : Exc → Sto → Prop}
    (hi : Wp (fi sd S) (fun it S1 => it.items = xs.map en ∧ (∀ S', it.chk S' = true) ∧ J [] [] S1) NX) (hl : xs.length ≤ sizeLine) (hJ : ∀ pre ys S', J pre ys S' → S'.length = S.length)
    (hx : ∀ pre a post ys S' o, xs = pre ++ a :: post → J pre ys S' → Wp (ga (en a) (wipeD sd vs) (S' ++ [o])) (fun sd1 S2 => S2 = S' ++ [o] ∧ Wp (ft sd1 (S' ++ [o])) (fun b S3 => b = true ∧ S3 = S' ++ [o] ∧ Wp (fe sd1 (S' ++ [o])) (fun y S4 => ∃ S5, S4 = S5 ++ [o] ∧ J (pre ++ [a]) (ys ++ [y]) S5) NX) NX) NX)
    (hq : ∀ ys S', ys.length = xs.length → J xs ys S' → cutOk S S' = true ∧ D.blws S.length ys = true ∧ Q (.frl ys) S') : Wp (dFrz (dComp vs fi ga ft fe) sd S) Q X := by
  obtain ⟨it, S1, e1, e2, hc, j0⟩ := ok_of_wp hi
  have key : ∀ (post pre : List α) (acc : List D) (S2 : Sto), xs = pre ++ post → acc.length = pre.length → J pre acc S2 → ∃ zs S3, compD it.chk ga ft fe S1.length (wipeD sd vs) (post.map en) (S2 ++ [.lst acc]) = .ok () (S3 ++ [.lst zs]) ∧ zs.length = xs.length ∧ J xs zs S3 := by
    intro post
    induction post with
    | nil =>
      intro pre acc S2 e hlen hj
      rw [List.append_nil] at e
      subst e
      refine ⟨acc, S2, ?_, hlen, hj⟩
      show (if it.chk (S2 ++ [.lst acc]) = true then Res.ok () (S2 ++ [.lst acc]) else .stuck) = _
      rw [if_pos (hc _)]
    | cons a post ih =>
      intro pre acc S2 e hlen hj
      have hlt : acc.length < sizeLine := by
        have := congrArg List.length e
        simp at this
        omega
      obtain ⟨sd1, S3, g1, rfl, h2⟩ := ok_of_wp (hx pre a post acc S2 (.lst acc) e hj)
      obtain ⟨b, S4, g2, rfl, rfl, h3⟩ := ok_of_wp h2
      obtain ⟨y, S5, g3, S6, rfl, j6⟩ := ok_of_wp h3
      have hS : S6.length = S1.length := by rw [hJ _ _ _ j6, hJ _ _ _ j0]
      obtain ⟨zs, S7, g4, l7, j7⟩ := ih (pre ++ [a]) (acc ++ [y]) S6 (by rw [e]; simp) (by simp [hlen]) j6
      refine ⟨zs, S7, ?_, l7, j7⟩
      rw [List.map_cons]
      unfold compD
      rw [if_pos (hc _), g1]
      simp only [Res.noExc, Res.bind, g2, if_true, g3]
      rw [← hS, get_last]
      simp only
      rw [if_pos hlt, set_last, hS, g4]
  obtain ⟨zs, S3, g, l3, j3⟩ := key xs [] [] S1 rfl rfl j0
  obtain ⟨hcut, hb, hfin⟩ := hq zs S3 l3 j3
  have hS : S3.length = S1.length := by rw [hJ _ _ _ j3, hJ _ _ _ j0]
  have hS0 : S3.length = S.length := hJ _ _ _ j3
  have hcut' : cutOk S (S3 ++ [.lst zs]) = true := by
    unfold cutOk at hcut ⊢
    rw [Bool.and_eq_true] at hcut ⊢
    refine ⟨decide_eq_true (by simp; omega), List.all_eq_true.mpr fun i hi => ?_⟩
    have hi' := List.mem_range.mp hi
    rw [List.getElem?_append_left (by omega)]
    exact List.all_eq_true.mp hcut.2 i hi
  have e : dFrz (dComp vs fi ga ft fe) sd S = .ok (.frl zs) S3 := by
    unfold dFrz dComp
    rw [e1]
    show ((compD it.chk ga ft fe S1.length (wipeD sd vs) it.items (S1 ++ [.lst []])).bind fun _ S2 => Res.ok (D.ref S1.length) S2).bind _ = _
    rw [e2, g]
    show frzD S (.ref S1.length) (S3 ++ [.lst zs]) = _
    unfold frzD
    rw [← hS]
    simp only [get_last]
    rw [if_pos ⟨by omega, hcut', hb⟩, ← hS0]
    simp
  rw [e]
  exact hfin

abbrev Mk : Type := List (Option Bool)
def cM : Option Bool → Nat
  | none => 45
  | some b => cb b
def wM (m : Mk) : List Nat := m.map cM
def mW (m : Mk) : D := .str (W (wM m))
theorem wM_len (m : Mk) : (wM m).length = m.length := by simp [wM]
theorem cM_lt (o : Option Bool) : cM o < 1114112 := by cases o with
  | none => decide
  | some b => exact cb_lt b
theorem wM_ok (m : Mk) : Wok (wM m) := fun c hc => by
  obtain ⟨b, _, rfl⟩ := List.mem_map.mp hc
  exact cM_lt b
theorem cM_inj {a b : Option Bool} (h : cM a = cM b) : a = b := by
  cases a <;> cases b
  · rfl
  · rename_i b; cases b <;> cases h
  · rename_i b; cases b <;> cases h
  · exact congrArg some (cb_inj h)
theorem wM_inj {a b : Mk} (h : wM a = wM b) : a = b := List.map_inj_right (fun _ _ => cM_inj) |>.mp h
def fk (m : Mk) (b : List Bool) (k : Nat) : Bool := match m.getD k none with
  | none => true
  | some x => x == b.getD k false
def ft (m : Mk) (b : List Bool) : Bool := (List.range m.length).all (fk m b)
theorem ft_iff {m : Mk} {b : List Bool} : ft m b = true ↔ ∀ k, k < m.length → fk m b k = true := by
  unfold ft
  rw [List.all_eq_true]
  exact ⟨fun h k hk => h k (List.mem_range.mpr hk), fun h k hk => h k (List.mem_range.mp hk)⟩
theorem at_wM {m : Mk} {k : Nat} (h : k < m.length) : atI (wM m) ((k : Nat) : Int) = some (cM (m.getD k none)) := by
  rw [atI_pos (by omega)]
  simp [wM, h]
theorem at_wB {b : List Bool} {k : Nat} (h : k < b.length) : atI (wB b) ((k : Nat) : Int) = some (cb (b.getD k false)) := by
  rw [atI_pos (by omega)]
  simp [wB, h]
theorem fk_dec {m : Mk} {b : List Bool} {k : Nat} : decide ([cM (m.getD k none)] = [45] ∨ [cM (m.getD k none)] = [cb (b.getD k false)]) = fk m b k := by
  unfold fk
  cases m.getD k none with
  | none => rfl
  | some x => cases x <;> cases b.getD k false <;> rfl
theorem fits_ok {m : Mk} {b : List Bool} {S : Sto} (hl : m.length ≤ b.length) (hb : b.length ≤ 100) : F_fits [.str (W (wM m)), .str (W (wB b))] S = .ok (.bl (ft m b)) S := by
  unfold F_fits
  refine fn_ok rfl ?_
  unfold b_fits
  have hc : dFrz (dComp [2] (iRngD1 (dCall lenD (dCons (dVar 0) dNil))) (gVar 2) (d2T notInD (d2 ixD (dVar 0) (dVar 2)) (dTup (dCons (dC (.str "-")) (dCons (d2 ixD (dVar 1) (dVar 2)) dNil)))) (dVar 2)) [some (.str (W (wM m))), some (.str (W (wB b))), none] S = .ok (.frl (((List.range m.length).filter fun k => !fk m b k).map fun k => .int ((k : Nat) : Int))) S := by
    refine compF (List.range m.length) (fun k => .int ((k : Nat) : Int)) _ _ ?_ (Nat.le_trans (List.length_filter_le _ _) (szn (by simp; omega))) ?_ ?_
    · simp only [z6, z5, wq_a, wq_b, wq_c, wq_d, wq_e, wq_f, wq_g, Int.reduceToNat, Int.reduceLE, Int.reduceLT, Int.reduceNeg, startD, List.replicate, Nat.reduceAdd, Nat.reduceSub, Nat.reduceEqDiff, if_true, if_false, Int.reduceEq, Int.reduceAdd, Int.reduceSub, Int.reduceMul, eq_self, w_lenS (show (W (wM m)).length ≤ sizeLine by rw [W_len, wM_len]; exact szn (by omega)), W_len, wM_len]
      rw [w_ite (rng_ok (by omega))]
      simp only [z6, z5, wq_a, wq_b, wq_c, wq_d, wq_e, wq_f, wq_g, Int.reduceToNat, Int.reduceLE, Int.reduceLT, Int.reduceNeg, startD, List.replicate, Nat.reduceAdd, Nat.reduceSub, Nat.reduceEqDiff, if_true, if_false, Int.reduceEq, Int.reduceAdd, Int.reduceSub, Int.reduceMul, eq_self]
      exact ⟨trivial, by simp [rangeL], fun _ _ => rfl⟩
    · intro k hk S' _
      have hk := List.mem_range.mp hk
      simp only [z6, z5, wq_a, wq_b, wq_c, wq_d, wq_e, wq_f, wq_g, Int.reduceToNat, Int.reduceLE, Int.reduceLT, Int.reduceNeg, startD, List.replicate, Nat.reduceAdd, Nat.reduceSub, Nat.reduceEqDiff, if_true, if_false, Int.reduceEq, Int.reduceAdd, Int.reduceSub, Int.reduceMul, eq_self, wipeD, ix_W (show (wM m).length ≤ sizeLine by rw [wM_len]; exact szn (by omega)) (at_wM hk), ix_W (show (wB b).length ≤ sizeLine by rw [wB_len]; exact szn (by omega)) (at_wB (show k < b.length by omega)), W_dash, notInD, has_two, fk_dec]
      exact ⟨trivial, trivial, trivial, fun _ => ⟨trivial, trivial⟩⟩
    · intro c _ _; rfl
  simp only [z6, z5, wq_a, wq_b, wq_c, wq_d, wq_e, wq_f, wq_g, Int.reduceToNat, Int.reduceLE, Int.reduceLT, Int.reduceNeg, startD, List.replicate, Nat.reduceAdd, Nat.reduceSub, Nat.reduceEqDiff, if_true, if_false, Int.reduceEq, Int.reduceAdd, Int.reduceSub, Int.reduceMul, eq_self, hc]
  rw [w_eqNil (n := 0) fun c hc => gd_int]
  refine ⟨?_, app_nil S⟩
  simp [ft]
theorem lets_ok {m : Mk} {b : List Bool} {S : Sto} (hl : m.length ≤ b.length) (hb : b.length ≤ 100) : F__law_lets [.str (W (wM m)), .str (W (wB b))] S = .ok (.bl (ft m b)) S := by
  unfold F__law_lets
  refine fn_ok rfl ?_
  unfold b__law_lets
  simp only [z6, z5, wq_a, wq_b, wq_c, wq_d, wq_e, wq_f, wq_g, Int.reduceToNat, Int.reduceLE, Int.reduceLT, Int.reduceNeg, startD, List.replicate, Nat.reduceAdd, Nat.reduceSub, Nat.reduceEqDiff, if_true, if_false, Int.reduceEq, Int.reduceAdd, Int.reduceSub, Int.reduceMul, eq_self, w_lenS (show (W (wM m)).length ≤ sizeLine by rw [W_len, wM_len]; exact szn (by omega)), W_len, wM_len]
  rw [w_ite (rng_ok (by omega))]
  simp only [z6, z5, wq_a, wq_b, wq_c, wq_d, wq_e, wq_f, wq_g, Int.reduceToNat, Int.reduceLE, Int.reduceLT, Int.reduceNeg, startD, List.replicate, Nat.reduceAdd, Nat.reduceSub, Nat.reduceEqDiff, if_true, if_false, Int.reduceEq, Int.reduceAdd, Int.reduceSub, Int.reduceMul, eq_self, Int.toNat_natCast]
  refine w_rangeP (fun i sd S' => S' = S ∧ (∀ k, k < i → fk m b k = true) ∧ ∃ a2, sd = [some (.str (W (wM m))), some (.str (W (wB b))), a2]) 0 m.length (fun _ _ _ _ _ => rfl) ⟨rfl, fun k hk => by omega, _, rfl⟩ ?_ ?_
  · rintro sd S' ⟨rfl, hk, a2, rfl⟩
    simp only [z6, z5, wq_a, wq_b, wq_c, wq_d, wq_e, wq_f, wq_g, Int.reduceToNat, Int.reduceLE, Int.reduceLT, Int.reduceNeg, startD, List.replicate, Nat.reduceAdd, Nat.reduceSub, Nat.reduceEqDiff, if_true, if_false, Int.reduceEq, Int.reduceAdd, Int.reduceSub, Int.reduceMul, eq_self]
    exact ⟨by rw [ft_iff.mpr hk], app_nil _⟩
  · rintro i sd S' hi ⟨rfl, hk, a2, rfl⟩
    have e1 : (0 : Int) + ((i : Nat) : Int) = ((i : Nat) : Int) := by omega
    simp only [z6, z5, wq_a, wq_b, wq_c, wq_d, wq_e, wq_f, wq_g, Int.reduceToNat, Int.reduceLE, Int.reduceLT, Int.reduceNeg, startD, List.replicate, Nat.reduceAdd, Nat.reduceSub, Nat.reduceEqDiff, if_true, if_false, Int.reduceEq, Int.reduceAdd, Int.reduceSub, Int.reduceMul, eq_self, e1, ix_W (show (wM m).length ≤ sizeLine by rw [wM_len]; exact szn (by omega)) (at_wM hi), ix_W (show (wB b).length ≤ sizeLine by rw [wB_len]; exact szn (by omega)) (at_wB (show i < b.length by omega)), W_dash, W_inj]
    have xa := fun S' : Sto => ix_W (S := S') (show (wM m).length ≤ sizeLine by rw [wM_len]; exact szn (by omega)) (at_wM hi)
    have xb := fun S' : Sto => ix_W (S := S') (show (wB b).length ≤ sizeLine by rw [wB_len]; exact szn (by omega)) (at_wB (show i < b.length by omega))
    have hd := fk_dec (m := m) (b := b) (k := i)
    by_cases z1 : [cM (m.getD i none)] = [45]
    · simp only [eq_true z1, z6, z5, wq_a, wq_b, wq_c, wq_d, wq_e, wq_f, wq_g, Int.reduceToNat, Int.reduceLE, Int.reduceLT, Int.reduceNeg, startD, List.replicate, Nat.reduceAdd, Nat.reduceSub, Nat.reduceEqDiff, if_true, if_false, Int.reduceEq, Int.reduceAdd, Int.reduceSub, Int.reduceMul, eq_self, decide_true, Bool.not_true]
      refine ⟨trivial, fun k hk' => ?_, _, rfl⟩
      by_cases e : k = i
      · subst e
        rw [← hd, z1]; simp
      · exact hk k (by omega)
    · by_cases z2 : [cM (m.getD i none)] = [cb (b.getD i false)]
      · simp only [eq_false z1, eq_true z2, xa, xb, W_inj, z6, z5, wq_a, wq_b, wq_c, wq_d, wq_e, wq_f, wq_g, Int.reduceToNat, Int.reduceLE, Int.reduceLT, Int.reduceNeg, startD, List.replicate, Nat.reduceAdd, Nat.reduceSub, Nat.reduceEqDiff, if_true, if_false, Int.reduceEq, Int.reduceAdd, Int.reduceSub, Int.reduceMul, eq_self, decide_true, decide_false, Bool.not_true, Bool.not_false]
        refine ⟨trivial, fun k hk' => ?_, _, rfl⟩
        by_cases e : k = i
        · subst e
          rw [← hd, z2]; simp
        · exact hk k (by omega)
      · simp only [eq_false z1, eq_false z2, xa, xb, W_inj, z6, z5, wq_a, wq_b, wq_c, wq_d, wq_e, wq_f, wq_g, Int.reduceToNat, Int.reduceLE, Int.reduceLT, Int.reduceNeg, startD, List.replicate, Nat.reduceAdd, Nat.reduceSub, Nat.reduceEqDiff, if_true, if_false, Int.reduceEq, Int.reduceAdd, Int.reduceSub, Int.reduceMul, eq_self, decide_false, Bool.not_false]
        have : ft m b = false := by
          rw [Bool.eq_false_iff]
          intro h
          have := ft_iff.mp h i hi
          rw [← hd] at this
          simp only [decide_eq_true_eq] at this
          exact this.elim z1 z2
        exact ⟨by rw [this], app_nil _⟩

end Lw

namespace Lw
open PySem PySem.Spec PyProof.Rows L2 DL
abbrev Bt : Type := List Bool
abbrev Pk : Type := Mk × List Bt
def lft (rest bs : List Bt) : List Bt := rest.filter fun b => !decide (b ∈ bs)
theorem lft_mem {rest bs : List Bt} {b : Bt} : b ∈ lft rest bs ↔ b ∈ rest ∧ b ∉ bs := by
  unfold lft
  rw [List.mem_filter]
  simp
theorem lft_len (rest bs : List Bt) : (lft rest bs).length ≤ rest.length := List.length_filter_le _ _
theorem lft_lt {rest bs : List Bt} {b : Bt} (h : b ∈ rest) (hb : b ∈ bs) : (lft rest bs).length < rest.length := by
  refine Nat.lt_of_le_of_ne (lft_len _ _) fun e => ?_
  have e2 := List.length_filter_eq_length_iff.mp e b h
  simp [hb] at e2
def mnL : List Nat → Nat
  | [] => 0
  | [n] => n
  | n :: m :: r => if n ≤ mnL (m :: r) then n else mnL (m :: r)
theorem mnL_low : ∀ {ns : List Nat}, ∀ y ∈ ns, mnL ns ≤ y
  | [n], y, h => by rw [List.mem_singleton.mp h]; exact Nat.le_refl _
  | n :: m :: r, y, h => by
    have ih := @mnL_low (m :: r)
    unfold mnL
    rcases List.mem_cons.mp h with rfl | h
    · split <;> omega
    · have := ih y h
      split <;> omega
theorem mnL_mem : ∀ {ns : List Nat}, ns ≠ [] → mnL ns ∈ ns
  | [n], _ => by simp [mnL]
  | n :: m :: r, _ => by
    have ih := @mnL_mem (m :: r) (by simp)
    unfold mnL
    split
    · simp
    · exact List.mem_cons_of_mem _ ih
def nZ (n : Nat) : Int := ((n : Nat) : Int)
theorem mnL_int : ∀ ns : List Nat, minL (ns.map nZ) = ((mnL ns : Nat) : Int)
  | [] => rfl
  | [n] => rfl
  | n :: m :: r => by
    have ih := mnL_int (m :: r)
    show (if nZ n ≤ minL ((m :: r).map nZ) then nZ n else minL ((m :: r).map nZ)) = _
    have e : mnL (n :: m :: r) = if n ≤ mnL (m :: r) then n else mnL (m :: r) := rfl
    rw [ih, e]
    by_cases h : n ≤ mnL (m :: r)
    · rw [if_pos h, if_pos (show nZ n ≤ ((mnL (m :: r) : Nat) : Int) from Int.ofNat_le.mpr h)]
      rfl
    · rw [if_neg h, if_neg (show ¬ nZ n ≤ ((mnL (m :: r) : Nat) : Int) from fun z => h (Int.ofNat_le.mp z))]
def mnF (ps : List Pk) : Nat → List Bt → Nat
  | 0, _ => 0
  | _ + 1, [] => 0
  | n + 1, b :: r => 1 + mnL ((ps.filter fun q => decide (b ∈ q.2)).map fun q => mnF ps n (lft (b :: r) q.2))
def mn (ps : List Pk) (rest : List Bt) : Nat := mnF ps rest.length rest
theorem mnF_eq {ps : List Pk} : ∀ (n m : Nat) (rest : List Bt), rest.length ≤ n → rest.length ≤ m → mnF ps n rest = mnF ps m rest
  | 0, m, rest, h, _ => by
    have : rest = [] := List.length_eq_zero_iff.mp (by omega)
    subst this
    cases m <;> rfl
  | n + 1, 0, rest, _, h => by
    have : rest = [] := List.length_eq_zero_iff.mp (by omega)
    subst this
    rfl
  | n + 1, m + 1, [], _, _ => rfl
  | n + 1, m + 1, b :: r, h1, h2 => by
    show 1 + mnL _ = 1 + mnL _
    congr 2
    refine List.map_congr_left fun q hq => ?_
    have hb := of_decide_eq_true (List.mem_filter.mp hq).2
    have := lft_lt (rest := b :: r) (List.mem_cons_self) hb
    exact mnF_eq n m _ (by simp at h1 this; omega) (by simp at h2 this; omega)
theorem mn_nil {ps : List Pk} : mn ps [] = 0 := rfl
theorem mn_cons {ps : List Pk} {b : Bt} {r : List Bt} : mn ps (b :: r) = 1 + mnL ((ps.filter fun q => decide (b ∈ q.2)).map fun q => mn ps (lft (b :: r) q.2)) := by
  show 1 + mnL _ = _
  congr 2
  refine List.map_congr_left fun q hq => ?_
  have hb := of_decide_eq_true (List.mem_filter.mp hq).2
  have := lft_lt (rest := b :: r) (List.mem_cons_self) hb
  exact mnF_eq _ _ _ (by simp at this; omega) (Nat.le_refl _)
def Cov (ps : List Pk) (rest : List Bt) : Prop := ∀ b ∈ rest, ∃ q ∈ ps, b ∈ q.2
theorem Cov.lft {ps : List Pk} {rest bs : List Bt} (h : Cov ps rest) : Cov ps (lft rest bs) := fun b hb => h b (lft_mem.mp hb).1
theorem mn_le {ps : List Pk} : ∀ (n : Nat) {rest : List Bt} {cs : List Pk}, rest.length ≤ n → (∀ q ∈ cs, q ∈ ps) → Cov cs rest → mn ps rest ≤ cs.length
  | _, [], _, _, _, _ => Nat.zero_le _
  | 0, _ :: _, _, h, _, _ => by simp at h
  | n + 1, b :: r, cs, h, hs, hc => by
    obtain ⟨q, hq, hb⟩ := hc b (List.mem_cons_self)
    have hlt := lft_lt (rest := b :: r) (List.mem_cons_self) hb
    have ih := mn_le n (rest := Lw.lft (b :: r) q.2) (cs := cs.erase q) (by simp at h hlt; omega) (fun x hx => hs x (List.mem_of_mem_erase hx)) (fun x hx => by
      obtain ⟨h1, h2⟩ := lft_mem.mp hx
      obtain ⟨p, hp, hpx⟩ := hc x h1
      refine ⟨p, (List.mem_erase_of_ne (fun z => h2 (by rw [← z]; exact hpx))).mpr hp, hpx⟩)
    have hl : (cs.erase q).length = cs.length - 1 := List.length_erase_of_mem hq
    have hpos : 0 < cs.length := List.length_pos_of_mem hq
    have hm := mnL_low (ns := (ps.filter fun q => decide (b ∈ q.2)).map fun q => mn ps (lft (b :: r) q.2)) (mn ps (lft (b :: r) q.2)) (List.mem_map.mpr ⟨q, List.mem_filter.mpr ⟨hs q hq, decide_eq_true hb⟩, rfl⟩)
    rw [mn_cons]
    omega
theorem mn_pick {ps : List Pk} {rest : List Bt} (hne : rest ≠ []) (hc : Cov ps rest) : ∃ q ∈ ps, (lft rest q.2).length < rest.length ∧ 1 + mn ps (lft rest q.2) = mn ps rest := by
  cases rest with
  | nil => exact absurd rfl hne
  | cons b r =>
    obtain ⟨q0, hq0, hb0⟩ := hc b (List.mem_cons_self)
    have hm := mnL_mem (ns := (ps.filter fun q => decide (b ∈ q.2)).map fun q => mn ps (lft (b :: r) q.2)) (fun z => by
      have : mn ps (lft (b :: r) q0.2) ∈ ([] : List Nat) := by
        rw [← z]
        exact List.mem_map.mpr ⟨q0, List.mem_filter.mpr ⟨hq0, decide_eq_true hb0⟩, rfl⟩
      cases this)
    obtain ⟨q, hq, e⟩ := List.mem_map.mp hm
    obtain ⟨hq1, hq2⟩ := List.mem_filter.mp hq
    exact ⟨q, hq1, lft_lt (List.mem_cons_self) (of_decide_eq_true hq2), by rw [mn_cons, e]⟩
def okP (ps : List Pk) (rest : List Bt) (q : Pk) : Bool := decide ((lft rest q.2).length < rest.length) && decide (1 + mn ps (lft rest q.2) = mn ps rest)
def fsF (ps : List Pk) : Nat → List Bt → List Pk
  | 0, _ => []
  | n + 1, rest => if rest = [] then [] else match ps.find? (okP ps rest) with
    | some q => q :: fsF ps n (lft rest q.2)
    | none => []
def fs (ps : List Pk) (rest : List Bt) : List Pk := fsF ps rest.length rest
theorem okP_some {ps : List Pk} {rest : List Bt} (hne : rest ≠ []) (hc : Cov ps rest) : ∃ q, ps.find? (okP ps rest) = some q ∧ q ∈ ps ∧ (lft rest q.2).length < rest.length ∧ 1 + mn ps (lft rest q.2) = mn ps rest := by
  obtain ⟨q0, h0, h1, h2⟩ := mn_pick hne hc
  cases e : ps.find? (okP ps rest) with
  | none =>
    have := List.find?_eq_none.mp e q0 h0
    exact absurd (by unfold okP; rw [decide_eq_true h1, decide_eq_true h2]; rfl) this
  | some q =>
    have hq := List.find?_some e
    unfold okP at hq
    rw [Bool.and_eq_true] at hq
    exact ⟨q, rfl, List.mem_of_find?_eq_some e, of_decide_eq_true hq.1, of_decide_eq_true hq.2⟩
theorem fsF_ok {ps : List Pk} : ∀ (n : Nat) {rest : List Bt}, rest.length ≤ n → Cov ps rest → (∀ q ∈ fsF ps n rest, q ∈ ps) ∧ Cov (fsF ps n rest) rest ∧ (fsF ps n rest).length = mn ps rest
  | 0, rest, h, _ => by
    have : rest = [] := List.length_eq_zero_iff.mp (by omega)
    subst this
    exact ⟨fun q hq => (by cases hq), fun b hb => (by cases hb), rfl⟩
  | n + 1, rest, h, hc => by
    unfold fsF
    by_cases hne : rest = []
    · subst hne
      rw [if_pos rfl]
      exact ⟨fun q hq => (by cases hq), fun b hb => (by cases hb), rfl⟩
    · rw [if_neg hne]
      obtain ⟨q, e, hq, h1, h2⟩ := okP_some hne hc
      rw [e]
      obtain ⟨i1, i2, i3⟩ := fsF_ok n (rest := Lw.lft rest q.2) (by omega) hc.lft
      refine ⟨fun x hx => ?_, fun b hb => ?_, ?_⟩
      · rcases List.mem_cons.mp hx with rfl | hx
        · exact hq
        · exact i1 x hx
      · by_cases hbq : b ∈ q.2
        · exact ⟨q, List.mem_cons_self, hbq⟩
        · obtain ⟨p, hp, hpb⟩ := i2 b (lft_mem.mpr ⟨hb, hbq⟩)
          exact ⟨p, List.mem_cons_of_mem _ hp, hpb⟩
      · rw [List.length_cons, i3]
        omega

theorem sub_few {α : Type} [BEq α] [LawfulBEq α] : ∀ {l r : List α}, l.Nodup → (∀ x ∈ l, x ∈ r) → l.length ≤ r.length
  | [], _, _, _ => Nat.zero_le _
  | x :: l, r, h, hs => by
    obtain ⟨h1, h2⟩ := List.nodup_cons.mp h
    have hx := hs x (by simp)
    have ih := sub_few (l := l) (r := r.erase x) h2 fun y hy => (List.mem_erase_of_ne (fun z => h1 (by rw [← z]; exact hy))).mpr (hs y (List.mem_cons_of_mem _ hy))
    rw [List.length_erase_of_mem hx] at ih
    have := List.length_pos_of_mem hx
    simp
    omega
def rsD (r : List Bt) : D := .tup (r.map sW)
def pkD (q : Pk) : D := .tup [mW q.1, .tup (q.2.map sW)]
theorem sW_inj {a b : Bt} (h : sW a = sW b) : a = b := by
  unfold sW at h
  rw [D.str.injEq, W_inj] at h
  exact wB_inj h
theorem rsD_inj (a b : List Bt) (h : rsD a = rsD b) : a = b := by
  unfold rsD at h
  rw [D.tup.injEq] at h
  exact (List.map_inj_right fun _ _ => sW_inj).mp h
theorem sW_td (b : Bt) : TD 0 (sW b) := td_W (wB_ok b)
theorem rsD_nok (r : List Bt) : nokD (rsD r) = true := td_nok (n := 1) (td_map fun b _ => sW_td b)
theorem sW_gd0 {bs : List Bt} : ∀ d ∈ bs.map sW, GD 0 d := fun d hd => by
  obtain ⟨b, _, rfl⟩ := List.mem_map.mp hd
  exact gd_W (wB_ok b)
theorem has_bt {b : Bt} {bs : List Bt} {S : Sto} : hasD (sW b) (.tup (bs.map sW)) S = some (decide (b ∈ bs)) := by
  have h := has_strs (x := wB b) (ys := bs.map wB) (S := S)
  rw [List.map_map] at h
  have e : decide (wB b ∈ bs.map wB) = decide (b ∈ bs) := decide_eq_decide.mpr ⟨fun z => by
    obtain ⟨c, hc, e⟩ := List.mem_map.mp z
    rw [← wB_inj e]
    exact hc, fun z => List.mem_map.mpr ⟨b, z, rfl⟩⟩
  rw [e] at h
  exact h
theorem left_ok {x : D} {rest bs : List Bt} {S : Sto} (hl : rest.length ≤ 100) : F_Cover_left [x, rsD rest, .tup (bs.map sW)] S = .ok (rsD (lft rest bs)) S := by
  unfold F_Cover_left
  refine fn_ok (gd_blw (n := 1) _ (gd_tup sW_gd0)) ?_
  unfold b_Cover_left
  have hc : dFrz (dComp [3] (iVal (dVar 1)) (gVar 3) (d2T notInD (dVar 3) (dVar 2)) (dVar 3)) [some x, some (rsD rest), some (.tup (bs.map sW)), none] S = .ok (.frl ((rest.filter fun b => !decide (b ∈ bs)).map sW)) S := by
    refine compF rest sW _ _ ?_ (Nat.le_trans (List.length_filter_le _ _) (szn (by omega))) ?_ ?_
    · simp only [wq_a, wq_b, wq_c, wq_d, wq_e, wq_f, wq_g, Int.reduceToNat, Int.reduceLE, Int.reduceLT, Int.reduceNeg, startD, List.replicate, Nat.reduceAdd, Nat.reduceSub, Nat.reduceEqDiff, if_true, if_false, Int.reduceEq, Int.reduceAdd, Int.reduceSub, Int.reduceMul, eq_self, itemsD, rsD]
      exact ⟨by first | rfl | trivial, by first | rfl | trivial, fun _ _ => rfl⟩
    · intro b _ S' _
      simp only [wq_a, wq_b, wq_c, wq_d, wq_e, wq_f, wq_g, Int.reduceToNat, Int.reduceLE, Int.reduceLT, Int.reduceNeg, startD, List.replicate, Nat.reduceAdd, Nat.reduceSub, Nat.reduceEqDiff, if_true, if_false, Int.reduceEq, Int.reduceAdd, Int.reduceSub, Int.reduceMul, eq_self, wipeD, notInD, has_bt]
      exact ⟨trivial, trivial, trivial, fun _ => ⟨trivial, trivial⟩⟩
    · intro b _ _; rfl
  simp only [hc, wq_a, wq_b, wq_c, wq_d, wq_e, wq_f, wq_g, Int.reduceToNat, Int.reduceLE, Int.reduceLT, Int.reduceNeg, startD, List.replicate, Nat.reduceAdd, Nat.reduceSub, Nat.reduceEqDiff, if_true, if_false, Int.reduceEq, Int.reduceAdd, Int.reduceSub, Int.reduceMul, eq_self]
  rw [w_tupF]
  exact ⟨rfl, app_nil S⟩
def cvO (ps : List Pk) (k : Nat) : DO := .ins 21 [("marks", .frl (ps.map pkD)), ("known", .ref k)]
theorem cv_marks {ps : List Pk} {k r : Nat} {S : Sto} {Q : D → Sto → Prop} {X : Exc → Sto → Prop} (hr : S[r]? = some (cvO ps k)) : Wp (getF [21] "marks" (.ref r) S) Q X = Q (.frl (ps.map pkD)) S := by
  unfold cvO at hr
  rw [w_getF hr (by simp) rfl]
theorem cv_known {ps : List Pk} {k r : Nat} {S : Sto} {Q : D → Sto → Prop} {X : Exc → Sto → Prop} (hr : S[r]? = some (cvO ps k)) : Wp (getF [21] "known" (.ref r) S) Q X = Q (.ref k) S := by
  unfold cvO at hr
  rw [w_getF hr (by simp) rfl]
def subs : List Bt → List (List Bt)
  | [] => [[]]
  | b :: bs => subs bs ++ (subs bs).map (b :: ·)
theorem subs_len : ∀ l : List Bt, (subs l).length = 2 ^ l.length
  | [] => rfl
  | b :: bs => by
    rw [subs, List.length_append, List.length_map, subs_len bs, List.length_cons, Nat.pow_succ]
    omega
theorem subs_of : ∀ {l r : List Bt}, r.Sublist l → r ∈ subs l
  | [], r, h => by
    rw [List.sublist_nil.mp h]
    simp [subs]
  | b :: bs, r, h => by
    unfold subs
    rw [List.mem_append]
    cases h with
    | cons _ h => exact .inl (subs_of h)
    | cons_cons _ h => exact .inr (List.mem_map.mpr ⟨_, subs_of h, rfl⟩)
structure KN (ps : List Pk) (base : List Bt) (kn : List (List Bt × D)) : Prop where
  val : ∀ p ∈ kn, p.2 = .int ((mn ps p.1 : Nat) : Int) ∧ p.1.Sublist base
  nd : (kn.map (·.1)).Nodup
  nil : [] ∈ kn.map (·.1)
theorem KN.few {ps : List Pk} {base : List Bt} {kn : List (List Bt × D)} (h : KN ps base kn) (hb : base.length ≤ 16) : kn.length ≤ 65536 := by
  have h1 := sub_few h.nd (r := subs base) fun x hx => by
    obtain ⟨p, hp, rfl⟩ := List.mem_map.mp hx
    exact subs_of (h.val p hp).2
  rw [List.length_map, subs_len] at h1
  have : 2 ^ base.length ≤ 2 ^ 16 := Nat.pow_le_pow_right (by decide) hb
  omega
theorem getE_some {ps : List Pk} {base : List Bt} {kn : List (List Bt × D)} (h : KN ps base kn) {r : List Bt} (hr : r ∈ kn.map (·.1)) : getE kn r = some (.int ((mn ps r : Nat) : Int)) := by
  unfold getE
  cases e : kn.find? fun p => decide (p.1 = r) with
  | none =>
    obtain ⟨p, hp, rfl⟩ := List.mem_map.mp hr
    have := List.find?_eq_none.mp e p hp
    simp at this
  | some p =>
    have h1 := List.find?_some e
    have h2 := List.mem_of_find?_eq_some e
    have h3 := of_decide_eq_true h1
    show some p.2 = _
    rw [(h.val p h2).1, h3]
theorem kn_blw {ps : List Pk} {base : List Bt} {kn : List (List Bt × D)} {n : Nat} (h : KN ps base kn) : (DO.dic 2 (kvE rsD kn)).blw n = true := by
  show ((kn.map fun p => (rsD p.1, p.2)).all fun p => p.2.blw n) = true
  rw [List.all_eq_true]
  intro p hp
  obtain ⟨q, hq, rfl⟩ := List.mem_map.mp hp
  show D.blw n q.2 = true
  rw [(h.val q hq).1]
  rfl
theorem lft_sub {rest bs base : List Bt} (h : rest.Sublist base) : (lft rest bs).Sublist base := List.Sublist.trans List.filter_sublist h
theorem set_same {S : Sto} {k : Nat} {o : DO} (h : S[k]? = some o) : S.set k o = S := by
  apply List.ext_getElem?
  intro i
  by_cases e : k = i
  · subst e
    rw [h]
    simp [(List.getElem?_eq_some_iff.mp h).1]
  · rw [List.getElem?_set_ne e]
theorem ints_nZ : ∀ ns : List Nat, intsD (ns.map fun (n : Nat) => D.int ((n : Nat) : Int)) = some (ns.map nZ)
  | [] => rfl
  | n :: ns => by
    rw [List.map_cons]
    show (intsD _).map _ = _
    rw [ints_nZ ns]
    rfl
theorem minIs_ok {ns : List Nat} {S : Sto} (h : ns ≠ []) : minIs [.frl (ns.map fun (n : Nat) => D.int ((n : Nat) : Int))] S = .ok (.int ((mnL ns : Nat) : Int)) S := by
  simp only [minIs, lsD, ints_nZ]
  rw [if_neg (by simpa using h), mnL_int]
theorem lk_many {x y : D} : ([(Str.ofString "marks", x), (Str.ofString "known", y)] : List (Str × D)).lookup (Str.ofString "many") = none := by
  simp only [List.lookup, show ((Str.ofString "many") == (Str.ofString "marks")) = false by decide +kernel, show ((Str.ofString "many") == (Str.ofString "known")) = false by decide +kernel]
theorem lk_left {x y : D} : ([(Str.ofString "marks", x), (Str.ofString "known", y)] : List (Str × D)).lookup (Str.ofString "left") = none := by
  simp only [List.lookup, show ((Str.ofString "left") == (Str.ofString "marks")) = false by decide +kernel, show ((Str.ofString "left") == (Str.ofString "known")) = false by decide +kernel]
theorem many_ok {ps : List Pk} {base : List Bt} {self k : Nat} (hb : base.length ≤ 16) (hps : ps.length ≤ 1000) (hq : ∀ q ∈ ps, q.2.length ≤ 100) (hc : Cov ps base) (hsk : self ≠ k) :
    ∀ (n : Nat) {rest : List Bt} {kn : List (List Bt × D)} {S : Sto}, rest.length < n → rest.Sublist base → KN ps base kn → S[self]? = some (cvO ps k) → S[k]? = some (.dic 2 (kvE rsD kn)) →
      ∃ kn', F_Cover_many n [.ref self, rsD rest] S = .ok (.int ((mn ps rest : Nat) : Int)) (S.set k (.dic 2 (kvE rsD kn'))) ∧ KN ps base kn' ∧ ∀ p ∈ kn', p ∈ kn ∨ p.1.length ≤ rest.length
  | 0, rest, _, _, h, _, _, _, _ => by omega
  | n + 1, rest, kn, S, hn, hsub, K, hs, hk => by
    have ih := fun {rest : List Bt} {kn : List (List Bt × D)} {S : Sto} => many_ok (self := self) hb hps hq hc hsk n (rest := rest) (kn := kn) (S := S)
    have hkl : k < S.length := (List.getElem?_eq_some_iff.mp hk).1
    have hrl : rest.length ≤ 16 := by have := hsub.length_le; omega
    have main : Wp (dFn 5 (b_Cover_many (F_Cover_many n)) [.ref self, rsD rest] S) (fun d S' => d = .int ((mn ps rest : Nat) : Int) ∧ ∃ kn', (∃ T, S' = S.set k (.dic 2 (kvE rsD kn')) ++ T) ∧ KN ps base kn' ∧ ∀ p ∈ kn', p ∈ kn ∨ p.1.length ≤ rest.length) NX := by
      rw [w_dFn]
      unfold b_Cover_many
      simp only [wq_a, wq_b, wq_c, wq_d, wq_e, wq_f, wq_g, Int.reduceToNat, Int.reduceLE, Int.reduceLT, Int.reduceNeg, startD, List.replicate, Nat.reduceAdd, Nat.reduceSub, Nat.reduceEqDiff, if_true, if_false, Int.reduceEq, Int.reduceAdd, Int.reduceSub, Int.reduceMul, eq_self, cv_known hs]
      rw [w_notInN (dicN_at hk (rsD_nok _)), getK_E rsD_inj]
      by_cases hm : rest ∈ kn.map (·.1)
      · simp only [getE_some K hm, wq_a, wq_b, wq_c, wq_d, wq_e, wq_f, wq_g, Int.reduceToNat, Int.reduceLE, Int.reduceLT, Int.reduceNeg, startD, List.replicate, Nat.reduceAdd, Nat.reduceSub, Nat.reduceEqDiff, if_true, if_false, Int.reduceEq, Int.reduceAdd, Int.reduceSub, Int.reduceMul, eq_self, Option.isSome_some, Bool.not_true, cv_known hs]
        rw [w_ixN (dicN_at hk (rsD_nok _) |>.trans (by rw [getK_E rsD_inj, getE_some K hm]))]
        refine ⟨rfl, kn, ⟨[], ?_⟩, K, fun p hp => .inl hp⟩
        rw [List.append_nil, set_same hk]
      · have hne : rest ≠ [] := fun z => hm (by rw [z]; exact K.nil)
        obtain ⟨b, r, rfl⟩ := List.exists_cons_of_ne_nil hne
        have hsome : dFrz (dComp [3, 4] (iVal (dFld [21] "marks" (dVar 0))) (gTupD 2 (gsCons (gVar 3) (gsCons (gVar 4) gsNil))) (d2T inD (d2 ixD (dVar 1) (dC (.int 0))) (dVar 4)) (dVar 4)) [some (.ref self), some (rsD (b :: r)), none, none, none] S = .ok (.frl ((ps.filter fun q => decide (b ∈ q.2)).map fun q => .tup (q.2.map sW))) S := by
          refine compF ps pkD _ _ ?_ (Nat.le_trans (List.length_filter_le _ _) (szn (by omega))) ?_ ?_
          · simp only [wq_a, wq_b, wq_c, wq_d, wq_e, wq_f, wq_g, Int.reduceToNat, Int.reduceLE, Int.reduceLT, Int.reduceNeg, startD, List.replicate, Nat.reduceAdd, Nat.reduceSub, Nat.reduceEqDiff, if_true, if_false, Int.reduceEq, Int.reduceAdd, Int.reduceSub, Int.reduceMul, eq_self, cv_marks hs, itemsD]
            exact ⟨by first | rfl | trivial, by first | rfl | trivial, fun _ _ => rfl⟩
          · intro q _ S' _
            simp only [wq_a, wq_b, wq_c, wq_d, wq_e, wq_f, wq_g, Int.reduceToNat, Int.reduceLE, Int.reduceLT, Int.reduceNeg, startD, List.replicate, Nat.reduceAdd, Nat.reduceSub, Nat.reduceEqDiff, if_true, if_false, Int.reduceEq, Int.reduceAdd, Int.reduceSub, Int.reduceMul, eq_self, wipeD, gTupD, pkD, rsD, inD, has_bt]
            exact ⟨trivial, trivial, trivial, fun _ => ⟨trivial, trivial⟩⟩
          · intro q _ _
            exact gd_blw (n := 1) _ (gd_tup sW_gd0)
        simp only [getE_none hm, wq_a, wq_b, wq_c, wq_d, wq_e, wq_f, wq_g, Int.reduceToNat, Int.reduceLE, Int.reduceLT, Int.reduceNeg, startD, List.replicate, Nat.reduceAdd, Nat.reduceSub, Nat.reduceEqDiff, if_true, if_false, Int.reduceEq, Int.reduceAdd, Int.reduceSub, Int.reduceMul, eq_self, Option.isSome_none, Bool.not_false, hsome]
        refine compS (ps.filter fun q => decide (b ∈ q.2)) (fun q => .tup (q.2.map sW)) (fun pre ys S' => ∃ kn', S' = S.set k (.dic 2 (kvE rsD kn')) ∧ KN ps base kn' ∧ (∀ p ∈ kn', p ∈ kn ∨ p.1.length < (b :: r).length) ∧ ys = pre.map fun q => .int ((mn ps (lft (b :: r) q.2) : Nat) : Int)) ?_ (Nat.le_trans (List.length_filter_le _ _) (szn (by omega))) ?_ ?_ ?_
        · simp only [wq_a, wq_b, wq_c, wq_d, wq_e, wq_f, wq_g, Int.reduceToNat, Int.reduceLE, Int.reduceLT, Int.reduceNeg, startD, List.replicate, Nat.reduceAdd, Nat.reduceSub, Nat.reduceEqDiff, if_true, if_false, Int.reduceEq, Int.reduceAdd, Int.reduceSub, Int.reduceMul, eq_self, itemsD]
          exact ⟨by first | rfl | trivial, fun _ => rfl, kn, (set_same hk).symm, K, fun p hp => .inl hp, by first | rfl | trivial⟩
        · rintro pre ys S' ⟨kn', rfl, _⟩
          simp
        · rintro pre q post ys S' o e ⟨kn', rfl, K', up', rfl⟩
          have hq1 : q ∈ ps.filter fun q => decide (b ∈ q.2) := by rw [e]; simp
          have hq2 := of_decide_eq_true (List.mem_filter.mp hq1).2
          have hs' : (S.set k (.dic 2 (kvE rsD kn')) ++ [o])[self]? = some (cvO ps k) := by
            rw [List.getElem?_append_left (by simp; exact (List.getElem?_eq_some_iff.mp hs).1), List.getElem?_set_ne (Ne.symm hsk)]
            exact hs
          have hk' : (S.set k (.dic 2 (kvE rsD kn')) ++ [o])[k]? = some (.dic 2 (kvE rsD kn')) := by
            rw [List.getElem?_append_left (by simpa using hkl)]
            simp [hkl]
          have hlt := lft_lt (rest := b :: r) (List.mem_cons_self) hq2
          obtain ⟨kn2, e2, K2, up2⟩ := ih (rest := lft (b :: r) q.2) (kn := kn') (S := S.set k (.dic 2 (kvE rsD kn')) ++ [o]) (by omega) (lft_sub hsub) K' hs' hk'
          have hs2 : (S.set k (.dic 2 (kvE rsD kn')) ++ [o])[self]? = some (.ins 21 [("marks", .frl (ps.map pkD)), ("known", .ref k)]) := hs'
          have lo := fun (x : D) (S : Sto) => left_ok (x := x) (rest := b :: r) (bs := q.2) (S := S) (by omega)
          simp only [wq_a, wq_b, wq_c, wq_d, wq_e, wq_f, wq_g, Int.reduceToNat, Int.reduceLE, Int.reduceLT, Int.reduceNeg, startD, List.replicate, Nat.reduceAdd, Nat.reduceSub, Nat.reduceEqDiff, if_true, if_false, Int.reduceEq, Int.reduceAdd, Int.reduceSub, Int.reduceMul, eq_self, wipeD, hs2, lk_many, lk_left, and_self, lo, e2]
          refine ⟨trivial, trivial, trivial, S.set k (.dic 2 (kvE rsD kn2)), ?_, kn2, rfl, K2, fun p hp => ?_, by simp⟩
          · rw [List.set_append_left _ _ (by simpa using hkl), List.set_set]
          · rcases up2 p hp with h | h
            · exact up' p h
            · exact .inr (Nat.lt_of_le_of_lt h hlt)
        · rintro ys S' hl ⟨kn', rfl, K', up', rfl⟩
          refine ⟨?_, ?_, ?_⟩
          · have := cutOk_set S [] k (.dic 2 (kvE rsD kn')) (kn_blw K')
            rw [List.append_nil] at this
            exact this
          · exact gd_blws (n := 0) _ fun d hd => by
              obtain ⟨q, _, rfl⟩ := List.mem_map.mp hd
              exact gd_int
          · have hk' : (S.set k (.dic 2 (kvE rsD kn')))[k]? = some (.dic 2 (kvE rsD kn')) := by simp [hkl]
            have hs' : (S.set k (.dic 2 (kvE rsD kn')))[self]? = some (cvO ps k) := by
              rw [List.getElem?_set_ne (Ne.symm hsk)]
              exact hs
            have hnot : (b :: r) ∉ kn'.map (·.1) := fun z => by
              obtain ⟨p, hp, e⟩ := List.mem_map.mp z
              rcases up' p hp with h | h
              · exact hm (List.mem_map.mpr ⟨p, h, e⟩)
              · rw [e] at h
                exact Nat.lt_irrefl _ h
            have ne0 : ((ps.filter fun q => decide (b ∈ q.2)).map fun q => mn ps (lft (b :: r) q.2)) ≠ [] := fun z => by
              obtain ⟨q, hq, hbq⟩ := hc b (hsub.subset (List.mem_cons_self))
              have : mn ps (lft (b :: r) q.2) ∈ ([] : List Nat) := by
                rw [← z]
                exact List.mem_map.mpr ⟨q, List.mem_filter.mpr ⟨hq, decide_eq_true hbq⟩, rfl⟩
              cases this
            have el : (ps.filter fun q => decide (b ∈ q.2)).map (fun q => D.int ((mn ps (lft (b :: r) q.2) : Nat) : Int)) = ((ps.filter fun q => decide (b ∈ q.2)).map fun q => mn ps (lft (b :: r) q.2)).map fun (n : Nat) => D.int ((n : Nat) : Int) := by rw [List.map_map]; rfl
            have ev : (1 : Int) + ((mnL ((ps.filter fun q => decide (b ∈ q.2)).map fun q => mn ps (lft (b :: r) q.2)) : Nat) : Int) = ((mn ps (b :: r) : Nat) : Int) := by
              rw [mn_cons]
              omega
            have few := K'.few hb
            rw [el]
            simp only [wq_a, wq_b, wq_c, wq_d, wq_e, wq_f, wq_g, Int.reduceToNat, Int.reduceLE, Int.reduceLT, Int.reduceNeg, startD, List.replicate, Nat.reduceAdd, Nat.reduceSub, Nat.reduceEqDiff, if_true, if_false, Int.reduceEq, Int.reduceAdd, Int.reduceSub, Int.reduceMul, eq_self, minIs_ok ne0, ev, cv_known hs']
            rw [w_setN hk' (rsD_nok _) (szn (by simp [kvE]; omega)), putD_E rsD_inj hnot, List.set_set]
            have K2 : KN ps base (kn' ++ [(b :: r, .int ((mn ps (b :: r) : Nat) : Int))]) := by
              refine ⟨fun p hp => ?_, ?_, ?_⟩
              · rcases List.mem_append.mp hp with h | h
                · exact K'.val p h
                · rw [List.mem_singleton] at h
                  rw [h]
                  exact ⟨rfl, hsub⟩
              · rw [List.map_append, List.nodup_append]
                refine ⟨K'.nd, by simp, fun x hx y hy e => ?_⟩
                have : y = b :: r := by simpa using hy
                rw [e, this] at hx
                exact hnot hx
              · rw [List.map_append]
                exact List.mem_append.mpr (.inl K'.nil)
            have hs3 : (S.set k (.dic 2 (kvE rsD (kn' ++ [(b :: r, .int ((mn ps (b :: r) : Nat) : Int))]))))[self]? = some (cvO ps k) := by
              rw [List.getElem?_set_ne (Ne.symm hsk)]
              exact hs
            have hk3 : (S.set k (.dic 2 (kvE rsD (kn' ++ [(b :: r, .int ((mn ps (b :: r) : Nat) : Int))]))))[k]? = some (.dic 2 (kvE rsD (kn' ++ [(b :: r, .int ((mn ps (b :: r) : Nat) : Int))]))) := by simp [hkl]
            simp only [wq_a, wq_b, wq_c, wq_d, wq_e, wq_f, wq_g, Int.reduceToNat, Int.reduceLE, Int.reduceLT, Int.reduceNeg, startD, List.replicate, Nat.reduceAdd, Nat.reduceSub, Nat.reduceEqDiff, if_true, if_false, Int.reduceEq, Int.reduceAdd, Int.reduceSub, Int.reduceMul, eq_self, cv_known hs3]
            rw [w_ixN (dicN_at hk3 (rsD_nok _) |>.trans (by rw [getK_E rsD_inj, getE_some K2 (by simp)]))]
            refine ⟨rfl, _, ⟨[], by rw [List.append_nil]⟩, K2, fun p hp => ?_⟩
            rcases List.mem_append.mp hp with h | h
            · rcases up' p h with h | h
              · exact .inl h
              · exact .inr (Nat.le_of_lt h)
            · rw [List.mem_singleton] at h
              rw [h]
              exact .inr (Nat.le_refl _)
    obtain ⟨d, S', e, rfl, kn', ⟨T, rfl⟩, K', up⟩ := Wp.ok main
    refine ⟨kn', ?_, K', up⟩
    show cutF (dFn 5 (b_Cover_many (F_Cover_many n))) [.ref self, rsD rest] S = _
    unfold cutF
    rw [e, cut_set rfl (kn_blw K')]

theorem fsF_eq {ps : List Pk} : ∀ (n m : Nat) {rest : List Bt}, rest.length ≤ n → rest.length ≤ m → fsF ps n rest = fsF ps m rest
  | 0, m, rest, h, _ => by
    have : rest = [] := List.length_eq_zero_iff.mp (by omega)
    subst this
    cases m <;> rfl
  | n + 1, 0, rest, _, h => by
    have : rest = [] := List.length_eq_zero_iff.mp (by omega)
    subst this
    rfl
  | n + 1, m + 1, rest, h1, h2 => by
    unfold fsF
    by_cases e : rest = []
    · rw [if_pos e, if_pos e]
    · rw [if_neg e, if_neg e]
      cases hf : ps.find? (okP ps rest) with
      | none => rfl
      | some q =>
        have hq := List.find?_some hf
        unfold okP at hq
        rw [Bool.and_eq_true] at hq
        have := of_decide_eq_true hq.1
        show q :: fsF ps n (lft rest q.2) = q :: fsF ps m (lft rest q.2)
        rw [fsF_eq n m (by omega) (by omega)]
theorem fs_step {ps : List Pk} {rest : List Bt} {q : Pk} (hne : rest ≠ []) (h : ps.find? (okP ps rest) = some q) : fs ps rest = q :: fs ps (lft rest q.2) := by
  have hq := List.find?_some h
  unfold okP at hq
  rw [Bool.and_eq_true] at hq
  have hl := of_decide_eq_true hq.1
  have hpos : 0 < rest.length := by omega
  unfold fs
  obtain ⟨n, hn⟩ : ∃ n, rest.length = n + 1 := ⟨rest.length - 1, by omega⟩
  rw [hn]
  show (if rest = [] then [] else match ps.find? (okP ps rest) with | some q => q :: fsF ps n (lft rest q.2) | none => []) = _
  rw [if_neg hne, h]
  show q :: fsF ps n (lft rest q.2) = _
  rw [fsF_eq n (lft rest q.2).length (by omega) (Nat.le_refl _)]
theorem find_at {α : Type} {f : α → Bool} {l pre post : List α} {q : α} (e : l = pre ++ q :: post) (h : ∀ x ∈ pre, f x = false) (hq : f q = true) : l.find? f = some q := by
  rw [e, List.find?_append, List.find?_eq_none.mpr (fun x hx => by rw [h x hx]; simp)]
  simp [List.find?_cons, hq]
theorem first_raw {ps : List Pk} {base : List Bt} {self k : Nat} {kn : List (List Bt × D)} {S : Sto} (hb : base.length ≤ 16) (hps : ps.length ≤ 1000) (hq : ∀ q ∈ ps, q.2.length ≤ 100) (hc : Cov ps base) (hsk : self ≠ k) (K : KN ps base kn) (hs : S[self]? = some (cvO ps k)) (hk : S[k]? = some (.dic 2 (kvE rsD kn))) :
    ∃ kn', Fr_Cover_first [.ref self, rsD base] S = .ok (.ref S.length) (S.set k (.dic 2 (kvE rsD kn')) ++ [.lst ((fs ps base).map fun q => mW q.1)]) ∧ KN ps base kn' := by
  have hkl : k < S.length := (List.getElem?_eq_some_iff.mp hk).1
  have hsl : self < S.length := (List.getElem?_eq_some_iff.mp hs).1
  have main : Wp (dFn 6 br_Cover_first [.ref self, rsD base] S) (fun d S' => d = .ref S.length ∧ ∃ kn', S' = S.set k (.dic 2 (kvE rsD kn')) ++ [.lst ((fs ps base).map fun q => mW q.1)] ∧ KN ps base kn') NX := by
    rw [w_dFn]
    unfold br_Cover_first
    simp only [wq_a, wq_b, wq_c, wq_d, wq_e, wq_f, wq_g, Int.reduceToNat, Int.reduceLE, Int.reduceLT, Int.reduceNeg, startD, List.replicate, Nat.reduceAdd, Nat.reduceSub, Nat.reduceEqDiff, if_true, if_false, Int.reduceEq, Int.reduceAdd, Int.reduceSub, Int.reduceMul, eq_self]
    have at_s : ∀ (kn' : List (List Bt × D)) (L : List D), (S.set k (.dic 2 (kvE rsD kn')) ++ [DO.lst L])[self]? = some (.ins 21 [("marks", .frl (ps.map pkD)), ("known", .ref k)]) := fun kn' L => by
      rw [List.getElem?_append_left (by simpa using hsl), List.getElem?_set_ne (Ne.symm hsk)]
      exact hs
    have at_k : ∀ (kn' : List (List Bt × D)) (L : List D), (S.set k (.dic 2 (kvE rsD kn')) ++ [DO.lst L])[k]? = some (.dic 2 (kvE rsD kn')) := fun kn' L => by
      rw [List.getElem?_append_left (by simpa using hkl)]
      simp [hkl]
    have at_l : ∀ (kn' : List (List Bt × D)) (L : List D), (S.set k (.dic 2 (kvE rsD kn')) ++ [DO.lst L])[S.length]? = some (.lst L) := fun kn' L => by
      have e : S.length = (S.set k (.dic 2 (kvE rsD kn'))).length := by simp
      rw [e]
      exact get_last
    have set_k : ∀ (kn' kn2 : List (List Bt × D)) (L : List D), (S.set k (.dic 2 (kvE rsD kn')) ++ [DO.lst L]).set k (.dic 2 (kvE rsD kn2)) = S.set k (.dic 2 (kvE rsD kn2)) ++ [DO.lst L] := fun kn' kn2 L => by
      rw [List.set_append_left _ _ (by simpa using hkl), List.set_set]
    have set_l : ∀ (kn' : List (List Bt × D)) (L L' : List D), (S.set k (.dic 2 (kvE rsD kn')) ++ [DO.lst L]).set S.length (.lst L') = S.set k (.dic 2 (kvE rsD kn')) ++ [DO.lst L'] := fun kn' L L' => by
      have e : S.length = (S.set k (.dic 2 (kvE rsD kn'))).length := by simp
      rw [e]
      exact set_last
    have mk := fun (kn' : List (List Bt × D)) (L : List D) (rest : List Bt) (h1 : rest.Sublist base) (K' : KN ps base kn') => many_ok (self := self) hb hps hq hc hsk 40 (rest := rest) (kn := kn') (S := S.set k (.dic 2 (kvE rsD kn')) ++ [DO.lst L]) (by have := h1.length_le; omega) h1 K' (at_s kn' L) (at_k kn' L)
    refine w_while (fun n sd S' => ∃ (rest : List Bt) (out : List Pk) (kn' : List (List Bt × D)) (a3 a4 a5 : Option D), S' = S.set k (.dic 2 (kvE rsD kn')) ++ [.lst (out.map fun q => mW q.1)] ∧ KN ps base kn' ∧ rest.Sublist base ∧ out ++ fs ps rest = fs ps base ∧ out.length + rest.length ≤ base.length ∧ n = rest.length ∧ sd = [some (.ref self), some (rsD rest), some (.ref S.length), a3, a4, a5]) ?_ fuelW base.length _ _ (by unfold fuelW; omega) ⟨base, [], kn, _, _, _, by rw [set_same hk]; rfl, K, List.Sublist.refl _, rfl, by simp, rfl, rfl⟩
    rintro n sd S' ⟨rest, out, kn', a3, a4, a5, rfl, K', hsub, hfs, hlen, rfl, rfl⟩
    have hrl := hsub.length_le
    have gr : GD 1 (rsD rest) := gd_tup sW_gd0
    simp only [wq_a, wq_b, wq_c, wq_d, wq_e, wq_f, wq_g, Int.reduceToNat, Int.reduceLE, Int.reduceLT, Int.reduceNeg, startD, List.replicate, Nat.reduceAdd, Nat.reduceSub, Nat.reduceEqDiff, if_true, if_false, Int.reduceEq, Int.reduceAdd, Int.reduceSub, Int.reduceMul, eq_self]
    rw [w_neG gr (gd_tup (n := 0) fun d hd => by cases hd)]
    by_cases hnil : rest = []
    · subst hnil
      have e0 : rsD [] = .tup [] := rfl
      have hfin : fs ps [] = [] := rfl
      rw [hfin, List.append_nil] at hfs
      simp only [wq_a, wq_b, wq_c, wq_d, wq_e, wq_f, wq_g, Int.reduceToNat, Int.reduceLE, Int.reduceLT, Int.reduceNeg, startD, List.replicate, Nat.reduceAdd, Nat.reduceSub, Nat.reduceEqDiff, if_true, if_false, Int.reduceEq, Int.reduceAdd, Int.reduceSub, Int.reduceMul, eq_self, e0, decide_true]
      exact ⟨trivial, kn', by rw [hfs], K'⟩
    · have hne : ¬ rsD rest = .tup [] := fun z => hnil (by unfold rsD at z; simpa using z)
      have hcr : Cov ps rest := fun b hb => hc b (hsub.subset hb)
      obtain ⟨q0, hf, hq0, hlt0, hmn0⟩ := okP_some hnil hcr
      simp only [wq_a, wq_b, wq_c, wq_d, wq_e, wq_f, wq_g, Int.reduceToNat, Int.reduceLE, Int.reduceLT, Int.reduceNeg, startD, List.replicate, Nat.reduceAdd, Nat.reduceSub, Nat.reduceEqDiff, if_true, if_false, Int.reduceEq, Int.reduceAdd, Int.reduceSub, Int.reduceMul, eq_self, decide_eq_false hne, cv_marks (at_s _ _), itemsD]
      refine w_loopP pkD (fun pre sd S' => (∀ q ∈ pre, okP ps rest q = false) ∧ ∃ (kn' : List (List Bt × D)) (a3 a4 a5 : Option D), S' = S.set k (.dic 2 (kvE rsD kn')) ++ [.lst (out.map fun q => mW q.1)] ∧ KN ps base kn' ∧ sd = [some (.ref self), some (rsD rest), some (.ref S.length), a3, a4, a5]) ps (fun _ _ _ _ _ _ => rfl) ⟨fun q hq => (by cases hq), kn', _, _, _, rfl, K', rfl⟩ ?_ ?_
      · rintro sd S' ⟨hall, _⟩
        have h1 := hall q0 hq0
        have h2 := List.find?_some hf
        rw [h1] at h2
        cases h2
      · rintro pre q post sd S' ep ⟨hall, kn', a3, a4, a5, rfl, K', rfl⟩
        have hqm : q ∈ ps := by rw [ep]; simp
        have lo := fun (x : D) (S : Sto) => left_ok (x := x) (rest := rest) (bs := q.2) (S := S) (by omega)
        have len_rs : ∀ (r : List Bt) (S : Sto), lenD [rsD r] S = .ok (.int ((r.length : Nat) : Int)) S := fun r S => by
          show Res.ok (D.int (((r.map sW).length : Nat) : Int)) S = _
          rw [List.length_map]
        simp only [wq_a, wq_b, wq_c, wq_d, wq_e, wq_f, wq_g, Int.reduceToNat, Int.reduceLE, Int.reduceLT, Int.reduceNeg, startD, List.replicate, Nat.reduceAdd, Nat.reduceSub, Nat.reduceEqDiff, if_true, if_false, Int.reduceEq, Int.reduceAdd, Int.reduceSub, Int.reduceMul, eq_self, gTupD, pkD, at_s, lk_left, and_self, lo, len_rs]
        have no : okP ps rest q = false → ∀ q' ∈ pre ++ [q], okP ps rest q' = false := fun h q' hq' => by
          rcases List.mem_append.mp hq' with z | z
          · exact hall q' z
          · rw [List.mem_singleton.mp z]
            exact h
        by_cases h1 : (lft rest q.2).length < rest.length
        · have h1' : (((lft rest q.2).length : Nat) : Int) < ((rest.length : Nat) : Int) := by omega
          obtain ⟨kn2, e2, K2, _⟩ := mk kn' (out.map fun q => mW q.1) (lft rest q.2) (lft_sub hsub) K'
          obtain ⟨kn3, e3, K3, _⟩ := mk kn2 (out.map fun q => mW q.1) rest hsub K2
          simp only [decide_eq_true h1', wq_a, wq_b, wq_c, wq_d, wq_e, wq_f, wq_g, Int.reduceToNat, Int.reduceLE, Int.reduceLT, Int.reduceNeg, startD, List.replicate, Nat.reduceAdd, Nat.reduceSub, Nat.reduceEqDiff, if_true, if_false, Int.reduceEq, Int.reduceAdd, Int.reduceSub, Int.reduceMul, eq_self, at_s, lk_many, and_self, e2, set_k]
          simp only [wq_a, wq_b, wq_c, wq_d, wq_e, wq_f, wq_g, Int.reduceToNat, Int.reduceLE, Int.reduceLT, Int.reduceNeg, startD, List.replicate, Nat.reduceAdd, Nat.reduceSub, Nat.reduceEqDiff, if_true, if_false, Int.reduceEq, Int.reduceAdd, Int.reduceSub, Int.reduceMul, eq_self, at_s, lk_many, and_self, e3, set_k]
          by_cases h2 : 1 + mn ps (lft rest q.2) = mn ps rest
          · have h2' : (1 : Int) + ((mn ps (lft rest q.2) : Nat) : Int) = ((mn ps rest : Nat) : Int) := by omega
            have hok : okP ps rest q = true := by unfold okP; rw [decide_eq_true h1, decide_eq_true h2]; rfl
            have hfq : ps.find? (okP ps rest) = some q := find_at ep hall hok
            simp only [decide_eq_true h2', wq_a, wq_b, wq_c, wq_d, wq_e, wq_f, wq_g, Int.reduceToNat, Int.reduceLE, Int.reduceLT, Int.reduceNeg, startD, List.replicate, Nat.reduceAdd, Nat.reduceSub, Nat.reduceEqDiff, if_true, if_false, Int.reduceEq, Int.reduceAdd, Int.reduceSub, Int.reduceMul, eq_self]
            rw [if_pos (isTy_lst (at_l _ _))]
            simp only [wq_a, wq_b, wq_c, wq_d, wq_e, wq_f, wq_g, Int.reduceToNat, Int.reduceLE, Int.reduceLT, Int.reduceNeg, startD, List.replicate, Nat.reduceAdd, Nat.reduceSub, Nat.reduceEqDiff, if_true, if_false, Int.reduceEq, Int.reduceAdd, Int.reduceSub, Int.reduceMul, eq_self]
            have hbl := hb
            rw [w_appL (at_l _ _) (szn (by rw [List.length_map]; omega)), set_l]
            simp only [wq_a, wq_b, wq_c, wq_d, wq_e, wq_f, wq_g, Int.reduceToNat, Int.reduceLE, Int.reduceLT, Int.reduceNeg, startD, List.replicate, Nat.reduceAdd, Nat.reduceSub, Nat.reduceEqDiff, if_true, if_false, Int.reduceEq, Int.reduceAdd, Int.reduceSub, Int.reduceMul, eq_self]
            refine ⟨(lft rest q.2).length, h1, lft rest q.2, out ++ [q], kn3, _, _, _, by simp [mW], K3, lft_sub hsub, ?_, by simp; omega, rfl, rfl⟩
            rw [List.append_assoc, List.singleton_append, ← fs_step hnil hfq]
            exact hfs
          · have h2' : ¬ (1 : Int) + ((mn ps (lft rest q.2) : Nat) : Int) = ((mn ps rest : Nat) : Int) := by omega
            simp only [decide_eq_false h2', wq_a, wq_b, wq_c, wq_d, wq_e, wq_f, wq_g, Int.reduceToNat, Int.reduceLE, Int.reduceLT, Int.reduceNeg, startD, List.replicate, Nat.reduceAdd, Nat.reduceSub, Nat.reduceEqDiff, if_true, if_false, Int.reduceEq, Int.reduceAdd, Int.reduceSub, Int.reduceMul, eq_self]
            exact ⟨no (by unfold okP; rw [decide_eq_false h2, Bool.and_false]), kn3, _, _, _, rfl, K3, rfl⟩
        · have h1' : ¬ (((lft rest q.2).length : Nat) : Int) < ((rest.length : Nat) : Int) := by omega
          simp only [decide_eq_false h1', wq_a, wq_b, wq_c, wq_d, wq_e, wq_f, wq_g, Int.reduceToNat, Int.reduceLE, Int.reduceLT, Int.reduceNeg, startD, List.replicate, Nat.reduceAdd, Nat.reduceSub, Nat.reduceEqDiff, if_true, if_false, Int.reduceEq, Int.reduceAdd, Int.reduceSub, Int.reduceMul, eq_self]
          exact ⟨no (by unfold okP; rw [decide_eq_false h1, Bool.false_and]), kn', _, _, _, rfl, K', rfl⟩
  obtain ⟨d, S', e, rfl, kn', rfl, K'⟩ := Wp.ok main
  refine ⟨kn', ?_, K'⟩
  unfold Fr_Cover_first cutF
  have hblw : D.blws S.length ((fs ps base).map fun q => mW q.1) = true := gd_blws (n := 0) _ (gd_map fun q _ => gd_W (wM_ok q.1))
  have hx : (S.set k (.dic 2 (kvE rsD kn')) ++ [DO.lst ((fs ps base).map fun q => mW q.1)])[S.length]? = some (.lst ((fs ps base).map fun q => mW q.1)) := by
    have e : S.length = (S.set k (.dic 2 (kvE rsD kn'))).length := by simp
    rw [e]
    exact get_last
  rw [e]
  simp only [cutR]
  rw [if_pos (cutOk_set S _ k _ (kn_blw K')), if_neg (by show ¬ decide (S.length < S.length) = true; simp), hx]
  simp only
  rw [if_pos ⟨hblw, Nat.le_refl _⟩]
  congr 2
  have : S.length = (S.set k (.dic 2 (kvE rsD kn'))).length := by simp
  rw [this, List.take_left]

end Lw

namespace Lw
open PySem PySem.Spec PyProof.Rows L2 DL
def ext3 (m : Mk) : List Mk := [m ++ [none], m ++ [some false], m ++ [some true]]
def allM : Nat → List Mk
  | 0 => [[]]
  | n + 1 => (allM n).flatMap ext3
theorem allM_many : ∀ n, (allM n).length = 3 ^ n
  | 0 => rfl
  | n + 1 => by
    have key : ∀ l : List Mk, (l.flatMap ext3).length = 3 * l.length := fun l => by
      induction l with
      | nil => rfl
      | cons a l ih =>
        rw [List.flatMap_cons, List.length_append, ih, List.length_cons]
        show 3 + _ = _
        omega
    rw [allM, key, allM_many n, Nat.pow_succ]
    omega
theorem allM_len : ∀ (n : Nat) {m : Mk}, m ∈ allM n → m.length = n
  | 0, m, h => by
    rw [List.mem_singleton.mp h]
    rfl
  | n + 1, m, h => by
    obtain ⟨a, ha, hm⟩ := List.mem_flatMap.mp h
    have := allM_len n ha
    have hm' : m = a ++ [none] ∨ m = a ++ [some false] ∨ m = a ++ [some true] := by simpa [ext3] using hm
    rcases hm' with rfl | rfl | rfl <;> simp [this]
theorem allM_mem : ∀ {n : Nat} {m : Mk}, m.length = n → m ∈ allM n
  | 0, m, h => by
    rw [List.length_eq_zero_iff.mp h]
    exact List.mem_singleton_self _
  | n + 1, m, h => by
    have hne : m ≠ [] := fun z => by rw [z] at h; cases h
    have e : m.dropLast ++ [m.getLast hne] = m := List.dropLast_concat_getLast hne
    have hd : m.dropLast ∈ allM n := allM_mem (by rw [List.length_dropLast, h]; rfl)
    refine List.mem_flatMap.mpr ⟨_, hd, ?_⟩
    rw [← e]
    cases m.getLast hne with
    | none => simp [ext3]
    | some b => cases b <;> simp [ext3]
theorem W_d01 : Str.ofString "-01" = W [45, 48, 49] := by decide +kernel
theorem W_dash' : Str.ofString "-" = W [45] := by decide +kernel
theorem mW_gds {l : List Mk} : ∀ d ∈ l.map mW, GD 0 d := fun d hd => by
  obtain ⟨m, _, rfl⟩ := List.mem_map.mp hd
  exact gd_W (wM_ok m)
theorem ext3_eq (m : Mk) : [45, 48, 49].map (fun c => D.str (W (wM m ++ [c]))) = (ext3 m).map mW := by simp [ext3, mW, wM, cM, cb]
theorem all_marks_ok {n : Nat} {S : Sto} (hn : n ≤ 4) : F_all_marks [.int ((n : Nat) : Int)] S = .ok (.frl ((allM n).map mW)) S := by
  unfold F_all_marks
  refine fn_ok (gd_blw (n := 1) _ (gd_frl mW_gds)) ?_
  unfold b_all_marks
  simp only [z6, z5, wq_a, wq_b, wq_c, wq_d, wq_e, wq_f, wq_g, Int.reduceToNat, Int.reduceLE, Int.reduceLT, Int.reduceNeg, startD, List.replicate, Nat.reduceAdd, Nat.reduceSub, Nat.reduceEqDiff, if_true, if_false, Int.reduceEq, Int.reduceAdd, Int.reduceSub, Int.reduceMul, eq_self]
  rw [w_ite (rng_ok (by omega))]
  simp only [z6, z5, wq_a, wq_b, wq_c, wq_d, wq_e, wq_f, wq_g, Int.reduceToNat, Int.reduceLE, Int.reduceLT, Int.reduceNeg, startD, List.replicate, Nat.reduceAdd, Nat.reduceSub, Nat.reduceEqDiff, if_true, if_false, Int.reduceEq, Int.reduceAdd, Int.reduceSub, Int.reduceMul, eq_self, Int.toNat_natCast]
  refine w_rangeP (fun i sd S' => ∃ (T : Sto) (a2 a3 a4 : Option D), S' = S ++ T ∧ sd = [some (.int ((n : Nat) : Int)), some (.frl ((allM i).map mW)), a2, a3, a4, none]) 0 n (fun _ _ _ _ _ => rfl) ⟨[], _, _, _, by simp, by simp only [allM, List.map_cons, List.map_nil, mW, show Str.ofString "" = W (wM []) by decide +kernel]; rfl⟩ ?_ ?_
  · rintro sd S' ⟨T, a2, a3, a4, rfl, rfl⟩
    simp only [z6, z5, wq_a, wq_b, wq_c, wq_d, wq_e, wq_f, wq_g, Int.reduceToNat, Int.reduceLE, Int.reduceLT, Int.reduceNeg, startD, List.replicate, Nat.reduceAdd, Nat.reduceSub, Nat.reduceEqDiff, if_true, if_false, Int.reduceEq, Int.reduceAdd, Int.reduceSub, Int.reduceMul, eq_self]
    exact ⟨trivial, _, rfl⟩
  · rintro i sd S' hi ⟨T, a2, a3, a4, rfl, rfl⟩
    have p81 : (allM i).length ≤ 81 := by
      rw [allM_many]
      exact Nat.pow_le_pow_right (n := 3) (by decide) (show i ≤ 4 by omega)
    simp only [wq_a, wq_b, wq_c, wq_d, wq_e, wq_f, wq_g, Int.reduceToNat, Int.reduceLE, Int.reduceLT, Int.reduceNeg, startD, List.replicate, Nat.reduceAdd, Nat.reduceSub, Nat.reduceEqDiff, if_true, if_false, Int.reduceEq, Int.reduceAdd, Int.reduceSub, Int.reduceMul, eq_self, itemsD]
    refine w_loopP mW (fun pre sd S' => ∃ (U : Sto) (a4 : Option D), S' = (S ++ T) ++ .lst ((pre.flatMap ext3).map mW) :: U ∧ sd = [some (.int ((n : Nat) : Int)), some (.frl ((allM i).map mW)), some (.int (0 + ((i : Nat) : Int))), some (.ref (S ++ T).length), a4, none]) (allM i) (fun _ _ _ _ _ _ => rfl) ⟨[], _, by simp, rfl⟩ ?_ ?_
    · rintro sd S' ⟨U, a4, rfl, rfl⟩
      simp only [wq_a, wq_b, wq_c, wq_d, wq_e, wq_f, wq_g, Int.reduceToNat, Int.reduceLE, Int.reduceLT, Int.reduceNeg, startD, List.replicate, Nat.reduceAdd, Nat.reduceSub, Nat.reduceEqDiff, if_true, if_false, Int.reduceEq, Int.reduceAdd, Int.reduceSub, Int.reduceMul, eq_self, w_dFrz]
      rw [frz_at (get_mid rfl)]
      exact ⟨T ++ .dead :: U, _, _, _, by rw [set_mid rfl, List.append_assoc], rfl⟩
    · rintro pre m post sd S' e ⟨U, a4, rfl, rfl⟩
      have hm : m ∈ allM i := by rw [e]; simp
      have hml := allM_len i hm
      have hpl : pre.length ≤ 81 := by
        rw [e] at p81
        simp at p81
        omega
      have hcomp : ∀ (S' : Sto) (x0 x1 x2 x3 x5 : Option D), dComp [5] (iVal (dC (.str "-01"))) (gVar 5) tYesD (d2 addD (dVar 4) (dVar 5)) [x0, x1, x2, x3, some (mW m), x5] S' = .ok (.ref S'.length) (S' ++ [.lst ((ext3 m).map mW)]) := fun S' x0 x1 x2 x3 x5 => by
        have := compR (S := S') (sd := [x0, x1, x2, x3, some (mW m), x5]) (vs := [5]) (fi := iVal (dC (.str "-01"))) (ga := gVar 5) (ft := tYesD) (fe := d2 addD (dVar 4) (dVar 5)) [45, 48, 49] (fun c => .str (W [c])) (fun _ => true) (fun c => .str (W (wM m ++ [c]))) (by
          simp only [wq_a, wq_b, wq_c, wq_d, wq_e, wq_f, wq_g, Int.reduceToNat, Int.reduceLE, Int.reduceLT, Int.reduceNeg, startD, List.replicate, Nat.reduceAdd, Nat.reduceSub, Nat.reduceEqDiff, if_true, if_false, Int.reduceEq, Int.reduceAdd, Int.reduceSub, Int.reduceMul, eq_self, itemsD, W_d01, signsD, W_cps]
          exact ⟨by first | rfl | trivial, by first | rfl | trivial, fun _ _ => rfl⟩) (szn (by simp)) (fun c _ S2 _ => by
          simp only [wq_a, wq_b, wq_c, wq_d, wq_e, wq_f, wq_g, Int.reduceToNat, Int.reduceLE, Int.reduceLT, Int.reduceNeg, startD, List.replicate, Nat.reduceAdd, Nat.reduceSub, Nat.reduceEqDiff, if_true, if_false, Int.reduceEq, Int.reduceAdd, Int.reduceSub, Int.reduceMul, eq_self, wipeD, mW]
          refine ⟨trivial, trivial, trivial, fun _ => ?_⟩
          try simp only [wq_a, wq_b, wq_c, wq_d, wq_e, wq_f, wq_g, Int.reduceToNat, Int.reduceLE, Int.reduceLT, Int.reduceNeg, startD, List.replicate, Nat.reduceAdd, Nat.reduceSub, Nat.reduceEqDiff, if_true, if_false, Int.reduceEq, Int.reduceAdd, Int.reduceSub, Int.reduceMul, eq_self]
          rw [w_addS (by rw [W_len, W_len, wM_len]; exact szn (by simp; omega)), W_app]
          exact ⟨by first | rfl | trivial, by first | rfl | trivial⟩)
        rw [this, List.filter_eq_self.mpr (fun _ _ => rfl), ext3_eq]
      simp only [wq_a, wq_b, wq_c, wq_d, wq_e, wq_f, wq_g, Int.reduceToNat, Int.reduceLE, Int.reduceLT, Int.reduceNeg, startD, List.replicate, Nat.reduceAdd, Nat.reduceSub, Nat.reduceEqDiff, if_true, if_false, Int.reduceEq, Int.reduceAdd, Int.reduceSub, Int.reduceMul, eq_self]
      rw [w_ite (isTy_lst (get_mid rfl))]
      simp only [hcomp, wq_a, wq_b, wq_c, wq_d, wq_e, wq_f, wq_g, Int.reduceToNat, Int.reduceLE, Int.reduceLT, Int.reduceNeg, startD, List.replicate, Nat.reduceAdd, Nat.reduceSub, Nat.reduceEqDiff, if_true, if_false, Int.reduceEq, Int.reduceAdd, Int.reduceSub, Int.reduceMul, eq_self]
      have ex : ∀ {A U : Sto} {xs ys : List D} {Q : D → Sto → Prop} {X : Exc → Sto → Prop}, xs.length + ys.length ≤ sizeLine → Wp (extendD (.ref A.length) [.ref (A ++ DO.lst xs :: U).length] (A ++ DO.lst xs :: U ++ [DO.lst ys])) Q X = Q .non (A ++ DO.lst (xs ++ ys) :: (U ++ [DO.lst ys])) := fun {A T xs ys Q X} hz => by
        have e : A ++ DO.lst xs :: T ++ [DO.lst ys] = A ++ DO.lst xs :: (T ++ [DO.lst ys]) := by simp
        rw [w_extL (xs := xs) (ys := ys) (by rw [e]; exact get_mid rfl) get_last hz, e, set_mid rfl]
      have hfl : (pre.flatMap ext3).length ≤ 300 := by
        have : ∀ l : List Mk, (l.flatMap ext3).length = 3 * l.length := fun l => by
          induction l with
          | nil => rfl
          | cons a l ih =>
            rw [List.flatMap_cons, List.length_append, ih, List.length_cons]
            show 3 + _ = _
            omega
        rw [this]
        omega
      rw [ex (szn (by rw [List.length_map, List.length_map]; show _ + 3 ≤ _; omega))]
      refine ⟨U ++ [DO.lst ((ext3 m).map mW)], some (mW m), ?_, rfl⟩
      rw [List.flatMap_append, List.map_append]
      simp

theorem cutS_take {w : List Nat} {k : Nat} : cutS (W w) none (some ((k : Nat) : Int)) = W (w.take k) := by
  unfold cutS
  rw [W_cps, W_len]
  have e : HT.sIx w.length 0 none = 0 := rfl
  have e2 : HT.sIx w.length w.length (some ((k : Nat) : Int)) = min k w.length := by
    show (if ((k : Nat) : Int) < 0 then (((k : Nat) : Int) + (w.length : Int)).toNat else min ((k : Nat) : Int).toNat w.length) = _
    rw [if_neg (by omega)]
    simp
  rw [e, e2]
  show W _ = _
  congr 1
  rw [List.drop_zero, Nat.sub_zero]
  by_cases h : k ≤ w.length
  · rw [Nat.min_eq_left h]
  · rw [Nat.min_eq_right (by omega), List.take_of_length_le (by omega), List.take_of_length_le (by omega)]
theorem cutS_drop {w : List Nat} {k : Nat} : cutS (W w) (some ((k : Nat) : Int)) none = W (w.drop k) := by
  unfold cutS
  rw [W_cps, W_len]
  have e : HT.sIx w.length w.length none = w.length := rfl
  have e2 : HT.sIx w.length 0 (some ((k : Nat) : Int)) = min k w.length := by
    show (if ((k : Nat) : Int) < 0 then (((k : Nat) : Int) + (w.length : Int)).toNat else min ((k : Nat) : Int).toNat w.length) = _
    rw [if_neg (by omega)]
    simp
  rw [e, e2]
  show W _ = _
  congr 1
  by_cases h : k ≤ w.length
  · rw [Nat.min_eq_left h, List.take_of_length_le (by simp)]
  · rw [Nat.min_eq_right (by omega), List.drop_eq_nil_of_le (by omega), List.drop_eq_nil_of_le (by omega)]; simp
theorem w_sliceSW {w : List Nat} {lo hi : Option Int} {S : Sto} {Q : D → Sto → Prop} {X : Exc → Sto → Prop} (h : w.length ≤ 16777216) : Wp (sliceD (.str (W w)) lo hi S) Q X = Q (.str (cutS (W w) lo hi)) S := by
  simp only [sliceD]
  rw [w_ite (by rw [W_len]; exact szn h), w_ok]
theorem w_addSW {v w : List Nat} {S : Sto} {Q : D → Sto → Prop} {X : Exc → Sto → Prop} (h : v.length + w.length ≤ 16777216) : Wp (addD (.str (W v)) (.str (W w)) S) Q X = Q (.str (W (v ++ w))) S := by
  simp only [addD]
  rw [w_ite (by rw [W_len, W_len]; exact szn h), w_ok]
  rw [W_app]

theorem mW_inj {a b : Mk} (h : mW a = mW b) : a = b := by
  unfold mW at h
  rw [D.str.injEq, W_inj] at h
  exact wM_inj h
theorem allM_nodup : ∀ n : Nat, (allM n).Nodup
  | 0 => by simp [allM]
  | n + 1 => by
    have key : ∀ l : List Mk, l.Nodup → (l.flatMap ext3).Nodup := fun l => by
      induction l with
      | nil => intro _; exact List.nodup_nil
      | cons a l ih =>
        intro h
        obtain ⟨h1, h2⟩ := List.nodup_cons.mp h
        rw [List.flatMap_cons, List.nodup_append]
        refine ⟨by simp [ext3], ih h2, fun x hx y hy e => ?_⟩
        subst e
        obtain ⟨c, hc, hx2⟩ := List.mem_flatMap.mp hy
        have d1 : x.dropLast = a := by
          have : x = a ++ [none] ∨ x = a ++ [some false] ∨ x = a ++ [some true] := by simpa [ext3] using hx
          rcases this with rfl | rfl | rfl <;> simp
        have d2 : x.dropLast = c := by
          have : x = c ++ [none] ∨ x = c ++ [some false] ∨ x = c ++ [some true] := by simpa [ext3] using hx2
          rcases this with rfl | rfl | rfl <;> simp
        rw [d1] at d2
        exact h1 (d2 ▸ hc)
    exact key _ (allM_nodup n)
def wd (m : Mk) (k : Nat) : Mk := m.take k ++ none :: m.drop (k + 1)
def fixd (m : Mk) (k : Nat) : Bool := !decide (m.getD k none = none)
def wid (m : Mk) : List Mk := ((List.range m.length).filter (fixd m)).map (wd m)
theorem cM45 {x : Option Bool} : ([cM x] = [45]) ↔ x = none := by
  cases x with
  | none => simp [cM]
  | some b => cases b <;> simp [cM, cb]
theorem cutS_takeM {m : Mk} {k : Nat} : cutS (W (wM m)) none (some ((k : Nat) : Int)) = W (wM (m.take k)) := by
  rw [cutS_take]
  unfold wM
  rw [List.map_take]
theorem cutS_dropM {m : Mk} {k : Nat} : cutS (W (wM m)) (some ((k : Nat) : Int)) none = W (wM (m.drop k)) := by
  rw [cutS_drop]
  unfold wM
  rw [List.map_drop]
theorem wider_ok {m : Mk} {S : Sto} (hl : m.length ≤ 100) : F_wider [mW m] S = .ok (.frl ((wid m).map mW)) S := by
  unfold F_wider
  refine fn_ok (gd_blw (n := 1) _ (gd_frl mW_gds)) ?_
  unfold b_wider
  have hc : dFrz (dComp [1] (iRngD1 (dCall lenD (dCons (dVar 0) dNil))) (gVar 1) (d2T neD (d2 ixD (dVar 0) (dVar 1)) (dC (.str "-"))) (d2 addD (d2 addD (dSlice (dVar 0) oNone (oSome (dVar 1))) (dC (.str "-"))) (dSlice (dVar 0) (oSome (d2 addD (dVar 1) (dC (.int 1)))) oNone))) [some (mW m), none] S = .ok (.frl (((List.range m.length).filter (fixd m)).map fun k => mW (wd m k))) S := by
    refine compF (List.range m.length) (fun k => .int ((k : Nat) : Int)) _ _ ?_ (Nat.le_trans (List.length_filter_le _ _) (szn (by simp; omega))) ?_ ?_
    · simp only [wq_a, wq_b, wq_c, wq_d, wq_e, wq_f, wq_g, Int.reduceToNat, Int.reduceLE, Int.reduceLT, Int.reduceNeg, startD, List.replicate, Nat.reduceAdd, Nat.reduceSub, Nat.reduceEqDiff, if_true, if_false, Int.reduceEq, Int.reduceAdd, Int.reduceSub, Int.reduceMul, eq_self, mW, w_lenS (show (W (wM m)).length ≤ sizeLine by rw [W_len, wM_len]; exact szn (by omega)), W_len, wM_len]
      rw [w_ite (rng_ok (by omega))]
      simp only [wq_a, wq_b, wq_c, wq_d, wq_e, wq_f, wq_g, Int.reduceToNat, Int.reduceLE, Int.reduceLT, Int.reduceNeg, startD, List.replicate, Nat.reduceAdd, Nat.reduceSub, Nat.reduceEqDiff, if_true, if_false, Int.reduceEq, Int.reduceAdd, Int.reduceSub, Int.reduceMul, eq_self]
      exact ⟨trivial, by simp [rangeL], fun _ _ => rfl⟩
    · intro k hk S' _
      have hk := List.mem_range.mp hk
      have hk1 : ((k : Nat) : Int) + 1 = ((k + 1 : Nat) : Int) := by omega
      simp only [wq_a, wq_b, wq_c, wq_d, wq_e, wq_f, wq_g, Int.reduceToNat, Int.reduceLE, Int.reduceLT, Int.reduceNeg, startD, List.replicate, Nat.reduceAdd, Nat.reduceSub, Nat.reduceEqDiff, if_true, if_false, Int.reduceEq, Int.reduceAdd, Int.reduceSub, Int.reduceMul, eq_self, wipeD, mW, ix_W (show (wM m).length ≤ sizeLine by rw [wM_len]; exact szn (by omega)) (at_wM hk), W_dash', W_inj, cM45]
      refine ⟨trivial, trivial, by unfold fixd; rfl, fun _ => ?_⟩
      simp only [wq_a, wq_b, wq_c, wq_d, wq_e, wq_f, wq_g, Int.reduceToNat, Int.reduceLE, Int.reduceLT, Int.reduceNeg, startD, List.replicate, Nat.reduceAdd, Nat.reduceSub, Nat.reduceEqDiff, if_true, if_false, Int.reduceEq, Int.reduceAdd, Int.reduceSub, Int.reduceMul, eq_self, w_sliceSW (show (wM m).length ≤ 16777216 by rw [wM_len]; omega), cutS_takeM, hk1, cutS_dropM]
      rw [w_addSW (by rw [wM_len]; simp; omega)]
      simp only [wq_a, wq_b, wq_c, wq_d, wq_e, wq_f, wq_g, Int.reduceToNat, Int.reduceLE, Int.reduceLT, Int.reduceNeg, startD, List.replicate, Nat.reduceAdd, Nat.reduceSub, Nat.reduceEqDiff, if_true, if_false, Int.reduceEq, Int.reduceAdd, Int.reduceSub, Int.reduceMul, eq_self, w_sliceSW (show (wM m).length ≤ 16777216 by rw [wM_len]; omega), cutS_takeM, hk1, cutS_dropM]
      rw [w_addSW (by rw [List.length_append, wM_len, wM_len]; simp; omega)]
      refine ⟨by first | rfl | trivial, ?_⟩
      show D.str _ = D.str _
      congr 2
      simp [wd, wM, cM]
    · intro k _ _; rfl
  simp only [hc, wq_a, wq_b, wq_c, wq_d, wq_e, wq_f, wq_g, Int.reduceToNat, Int.reduceLE, Int.reduceLT, Int.reduceNeg, startD, List.replicate, Nat.reduceAdd, Nat.reduceSub, Nat.reduceEqDiff, if_true, if_false, Int.reduceEq, Int.reduceAdd, Int.reduceSub, Int.reduceMul, eq_self]
  refine ⟨?_, app_nil S⟩
  unfold wid
  rw [List.map_map]
  rfl

theorem compL {vs : List Nat} {fi : Sl → Sto → Res ItD} {ga : D → Sl → Sto → Res Sl} {ft : Sl → Sto → Res Bool} {fe : Sl → Sto → Res D} {sd : Sl} {S S1 : Sto} {it : ItD} {ys : List D} (e : fi sd S = .ok it S1) (hlen : S1.length = S.length) (hcut : ∀ T, cutOk S (S1 ++ T) = true) (hb : D.blws S.length ys = true)
    (h : dComp vs (fun _ S => .ok it S) ga ft fe sd S1 = .ok (.ref S1.length) (S1 ++ [.lst ys])) : dFrz (dComp vs fi ga ft fe) sd S = .ok (.frl ys) S1 := by
  have e2 : dComp vs fi ga ft fe sd S = .ok (.ref S1.length) (S1 ++ [.lst ys]) := by
    rw [← h]
    unfold dComp
    rw [e]
    try rfl
  unfold dFrz
  rw [e2]
  show frzD S (.ref S1.length) (S1 ++ [.lst ys]) = _
  unfold frzD
  simp only [get_last]
  rw [if_pos ⟨by omega, hcut _, hb⟩, ← hlen, List.take_left]
theorem w_setDic' {l : Nat} {kvs : List (D × D)} {k v : D} {S : Sto} {Q : Unit → Sto → Prop} {X : Exc → Sto → Prop} (hl : S[l]? = some (.dic 0 kvs)) (hk : (key0 k).isSome = true) (hz : kvs.length < sizeLine) : Wp (setDic (.ref l) k v S) Q X = Q () (S.set l (.dic 0 (putD kvs k v))) := by
  simp only [setDic, hl, hk, decide_eq_true hz, Bool.and_self]
  rfl
def btsM (ins : Nat) (m : Mk) : List Bt := (allB ins).filter (ft m)
def knM (ins : Nat) (l : List Mk) : List (Mk × D) := l.map fun m => (m, D.tup ((btsM ins m).map sW))
def goodM (ins : Nat) (some : List Bt) : List Mk := (allM ins).filter fun m => (btsM ins m).all fun b => decide (b ∈ some)
def mks (ins : Nat) (some : List Bt) : List Pk := ((goodM ins some).filter fun m => (wid m).all fun x => !decide (x ∈ goodM ins some)).map fun m => (m, btsM ins m)
theorem knM_keys {ins : Nat} {l : List Mk} : (knM ins l).map (·.1) = l := by
  unfold knM
  rw [List.map_map]
  exact List.map_id l
theorem knM_get {ins : Nat} {l : List Mk} {m : Mk} (h : m ∈ l) : getE (knM ins l) m = some (.tup ((btsM ins m).map sW)) := by
  unfold getE
  cases e : (knM ins l).find? fun p => decide (p.1 = m) with
  | none =>
    have := List.find?_eq_none.mp e (m, D.tup ((btsM ins m).map sW)) (List.mem_map.mpr ⟨m, h, rfl⟩)
    simp at this
  | some p =>
    have h0 := List.find?_some e
    have h1 := of_decide_eq_true h0
    obtain ⟨x, _, rfl⟩ := List.mem_map.mp (List.mem_of_find?_eq_some e)
    have h1 : x = m := h1
    subst h1
    rfl
theorem btsM_len {ins : Nat} {m : Mk} (h : ins ≤ 4) : (btsM ins m).length ≤ 16 := by
  have h1 := List.length_filter_le (ft m) (allB ins)
  rw [allB_many] at h1
  have := pow_le h
  unfold btsM
  omega
theorem in_sW {b : Bt} {l : List Bt} : (sW b ∈ l.map sW) ↔ b ∈ l := ⟨fun z => by
  obtain ⟨c, hc, e⟩ := List.mem_map.mp z
  rw [← sW_inj e]
  exact hc, fun z => List.mem_map.mpr ⟨b, z, rfl⟩⟩
theorem in_mW {b : Mk} {l : List Mk} : (mW b ∈ l.map mW) ↔ b ∈ l := ⟨fun z => by
  obtain ⟨c, hc, e⟩ := List.mem_map.mp z
  rw [← mW_inj e]
  exact hc, fun z => List.mem_map.mpr ⟨b, z, rfl⟩⟩
theorem marks_of_ok {ins : Nat} {some' : List Bt} {S : Sto} (i4 : ins ≤ 4) (hl : some'.length ≤ 100) : F_marks_of [.int ((ins : Nat) : Int), .frl (some'.map sW)] S = .ok (.frl ((mks ins some').map pkD)) S := by
  unfold F_marks_of
  have hpk : D.blw S.length (.frl ((mks ins some').map pkD)) = true := gd_blw (n := 3) _ (gd_frl (gd_map fun q _ => gd_tup fun d hd => by
    have : d = mW q.1 ∨ d = .tup (q.2.map sW) := by simpa [pkD] using hd
    rcases this with rfl | rfl
    · exact gd_W (wM_ok q.1)
    · exact gd_tup sW_gd0))
  refine fn_ok hpk ?_
  unfold b_marks_of
  have p81 : (allM ins).length ≤ 81 := by
    rw [allM_many]
    exact Nat.pow_le_pow_right (n := 3) (by decide) i4
  have hbl : ∀ b ∈ allB ins, b.length = ins := fun b hb => allB_len ins b hb
  have hB16 : (allB ins).length ≤ 16 := by rw [allB_many]; exact pow_le i4
  simp only [wq_a, wq_b, wq_c, wq_d, wq_e, wq_f, wq_g, Int.reduceToNat, Int.reduceLE, Int.reduceLT, Int.reduceNeg, startD, List.replicate, Nat.reduceAdd, Nat.reduceSub, Nat.reduceEqDiff, if_true, if_false, Int.reduceEq, Int.reduceAdd, Int.reduceSub, Int.reduceMul, eq_self, all_beats_ok i4, w_dDisp0, all_marks_ok i4, itemsD]
  refine w_loopP mW (fun pre sd S' => S' = S ++ [.dic 0 (kvE mW (knM ins pre))] ∧ ∃ a4, sd = [some (.int ((ins : Nat) : Int)), some (.frl (some'.map sW)), some (.frl ((allB ins).map sW)), some (.ref S.length), a4, none, none, none]) (allM ins) (fun _ _ _ _ _ _ => rfl) ⟨rfl, _, rfl⟩ ?_ ?_
  · rintro sd S' ⟨rfl, a4, rfl⟩
    have gk : ∀ {m : Mk}, m ∈ allM ins → getK (kvE mW (knM ins (allM ins))) (mW m) = some (.tup ((btsM ins m).map sW)) := fun {m} hm => by rw [getK_E (fun a b => mW_inj), knM_get hm]
    have keys : (kvE mW (knM ins (allM ins))).map (·.1) = (allM ins).map mW := by
      unfold kvE knM
      rw [List.map_map, List.map_map]
      rfl
    generalize hkv : kvE mW (knM ins (allM ins)) = kv at gk keys
    have at3 : ∀ {S'' : Sto}, Grow (S ++ [DO.dic 3 kv]) S'' → S''[S.length]? = some (.dic 3 kv) := fun {S''} g => by
      obtain ⟨T, rfl⟩ := g
      rw [List.append_assoc]
      exact get_mid rfl
    have hkb : (DO.dic 3 kv).blw (S ++ [DO.dic 0 kv]).length = true := by
      rw [← hkv]
      show ((kvE mW (knM ins (allM ins))).all fun p => p.2.blw _) = true
      rw [List.all_eq_true]
      intro p hp
      obtain ⟨q, hq, rfl⟩ := List.mem_map.mp hp
      obtain ⟨x, _, rfl⟩ := List.mem_map.mp hq
      exact gd_blw (n := 1) _ (gd_tup sW_gd0)
    have g_some : ∀ d ∈ some'.map sW, GD 0 d := sW_gd0
    have hin : ∀ {m : Mk} {S'' : Sto} {x0 x2 x5 x6 x7 : Option D}, m ∈ allM ins → Grow (S ++ [DO.dic 3 kv]) S'' → dFrz (dComp [6] (iVal (d2 ixDic3 (dVar 3) (dVar 4))) (gVar 6) (d2T notInD (dVar 6) (dVar 1)) (dVar 6)) [x0, some (.frl (some'.map sW)), x2, some (.ref S.length), some (mW m), x5, x6, x7] S'' = .ok (.frl (((btsM ins m).filter fun b => !decide (b ∈ some')).map sW)) S'' := fun {m S'' x0 x2 x5 x6 x7} hm g => by
      have hb16 := btsM_len (m := m) i4
      refine compF (btsM ins m) sW _ _ ?_ (Nat.le_trans (List.length_filter_le _ _) (szn (by omega))) ?_ ?_
      · simp only [wq_a, wq_b, wq_c, wq_d, wq_e, wq_f, wq_g, Int.reduceToNat, Int.reduceLE, Int.reduceLT, Int.reduceNeg, startD, List.replicate, Nat.reduceAdd, Nat.reduceSub, Nat.reduceEqDiff, if_true, if_false, Int.reduceEq, Int.reduceAdd, Int.reduceSub, Int.reduceMul, eq_self]
        rw [w_ixDic3 (at3 g) rfl (gk hm)]
        simp only [wq_a, wq_b, wq_c, wq_d, wq_e, wq_f, wq_g, Int.reduceToNat, Int.reduceLE, Int.reduceLT, Int.reduceNeg, startD, List.replicate, Nat.reduceAdd, Nat.reduceSub, Nat.reduceEqDiff, if_true, if_false, Int.reduceEq, Int.reduceAdd, Int.reduceSub, Int.reduceMul, eq_self, itemsD]
        exact ⟨by first | rfl | trivial, by first | rfl | trivial, fun _ _ => rfl⟩
      · intro b _ S3 _
        simp only [wq_a, wq_b, wq_c, wq_d, wq_e, wq_f, wq_g, Int.reduceToNat, Int.reduceLE, Int.reduceLT, Int.reduceNeg, startD, List.replicate, Nat.reduceAdd, Nat.reduceSub, Nat.reduceEqDiff, if_true, if_false, Int.reduceEq, Int.reduceAdd, Int.reduceSub, Int.reduceMul, eq_self, wipeD]
        have e : decide (sW b ∈ some'.map sW) = decide (b ∈ some') := decide_eq_decide.mpr in_sW
        rw [w_notInL (x := sW b) (y := .frl (some'.map sW)) (ds := some'.map sW) rfl (show GD 0 (sW b) from gd_W (wB_ok b)) g_some, e]
        simp only [wq_a, wq_b, wq_c, wq_d, wq_e, wq_f, wq_g, Int.reduceToNat, Int.reduceLE, Int.reduceLT, Int.reduceNeg, startD, List.replicate, Nat.reduceAdd, Nat.reduceSub, Nat.reduceEqDiff, if_true, if_false, Int.reduceEq, Int.reduceAdd, Int.reduceSub, Int.reduceMul, eq_self]
        exact ⟨by first | rfl | trivial, by first | rfl | trivial, by first | rfl | trivial, fun _ => ⟨by first | rfl | trivial, by first | rfl | trivial⟩⟩
      · intro b _ _; rfl
    have gS : ∀ {m : Mk}, ∀ b ∈ btsM ins m, GD 0 (sW b) := fun {m} b _ => gd_W (wB_ok b)
    have e5 : ∀ {a4 : Option D}, dFrz (dComp [4] (iKeysD (dLockD (dVar 3))) (gVar 4) (d2T eqD (dFrz (dComp [6] (iVal (d2 ixDic3 (dVar 3) (dVar 4))) (gVar 6) (d2T notInD (dVar 6) (dVar 1)) (dVar 6))) (dLstF dNil)) (dVar 4)) [some (.int ((ins : Nat) : Int)), some (.frl (some'.map sW)), some (.frl ((allB ins).map sW)), some (.ref S.length), a4, none, none, none] (S ++ [DO.dic 0 kv]) = .ok (.frl ((goodM ins some').map mW)) (S ++ [DO.dic 3 kv]) := fun {a4} => by
      refine compL (it := ⟨kv.map (·.1), chk3 S.length kv⟩) ?_ (by simp) (fun T => ?_) (gd_blws (n := 0) _ mW_gds) ?_
      · unfold iKeysD dLockD lockD
        simp only [dVar, List.getElem?_cons_succ, List.getElem?_cons_zero, Res.bind, get_last, set_last]
      · have := cutOk_set (S ++ [DO.dic 0 kv]) T S.length (.dic 3 kv) hkb
        rw [set_last] at this
        exact this
      · exact compR (S := S ++ [DO.dic 3 kv]) (sd := [some (.int ((ins : Nat) : Int)), some (.frl (some'.map sW)), some (.frl ((allB ins).map sW)), some (.ref S.length), a4, none, none, none]) (vs := [4]) (fi := fun _ S' => .ok ⟨kv.map (·.1), chk3 S.length kv⟩ S') (ga := gVar 4) (ft := d2T eqD (dFrz (dComp [6] (iVal (d2 ixDic3 (dVar 3) (dVar 4))) (gVar 6) (d2T notInD (dVar 6) (dVar 1)) (dVar 6))) (dLstF dNil)) (fe := dVar 4) (allM ins) mW (fun m => (btsM ins m).all fun b => decide (b ∈ some')) mW
          ⟨rfl, keys, fun S' g => decide_eq_true (at3 g)⟩ (Nat.le_trans (List.length_filter_le _ _) (szn (by omega))) (fun m hm S3 g => by
            simp only [wq_a, wq_b, wq_c, wq_d, wq_e, wq_f, wq_g, Int.reduceToNat, Int.reduceLE, Int.reduceLT, Int.reduceNeg, startD, List.replicate, Nat.reduceAdd, Nat.reduceSub, Nat.reduceEqDiff, if_true, if_false, Int.reduceEq, Int.reduceAdd, Int.reduceSub, Int.reduceMul, eq_self, wipeD, hin hm g]
            rw [w_eqNil (n := 0) gS]
            simp only [wq_a, wq_b, wq_c, wq_d, wq_e, wq_f, wq_g, Int.reduceToNat, Int.reduceLE, Int.reduceLT, Int.reduceNeg, startD, List.replicate, Nat.reduceAdd, Nat.reduceSub, Nat.reduceEqDiff, if_true, if_false, Int.reduceEq, Int.reduceAdd, Int.reduceSub, Int.reduceMul, eq_self, Bool.not_not]
            exact ⟨by first | rfl | trivial, by first | rfl | trivial, by first | rfl | trivial, fun _ => ⟨by first | rfl | trivial, by first | rfl | trivial⟩⟩)
    simp only [wq_a, wq_b, wq_c, wq_d, wq_e, wq_f, wq_g, Int.reduceToNat, Int.reduceLE, Int.reduceLT, Int.reduceNeg, startD, List.replicate, Nat.reduceAdd, Nat.reduceSub, Nat.reduceEqDiff, if_true, if_false, Int.reduceEq, Int.reduceAdd, Int.reduceSub, Int.reduceMul, eq_self, e5]
    have hgl : (goodM ins some').length ≤ 81 := Nat.le_trans (List.length_filter_le _ _) p81
    have hgm : ∀ {m : Mk}, m ∈ goodM ins some' → m ∈ allM ins := fun {m} h => (List.mem_filter.mp h).1
    have hw : ∀ {m : Mk} {S3 : Sto} {x0 x1 x2 x3 x6 x7 : Option D}, m ∈ allM ins → dFrz (dComp [7] (iVal (dCallF 1 F_wider (dCons (dVar 4) dNil))) (gVar 7) (d2T inD (dVar 7) (dVar 5)) (dVar 7)) [x0, x1, x2, x3, some (mW m), some (.frl ((goodM ins some').map mW)), x6, x7] S3 = .ok (.frl (((wid m).filter fun x => decide (x ∈ goodM ins some')).map mW)) S3 := fun {m S3 x0 x1 x2 x3 x6 x7} hm => by
      have hml := allM_len ins hm
      have hwl : (wid m).length ≤ 100 := by
        unfold wid
        rw [List.length_map]
        exact Nat.le_trans (List.length_filter_le _ _) (by simp; omega)
      refine compF (wid m) mW _ _ ?_ (Nat.le_trans (List.length_filter_le _ _) (szn (by omega))) ?_ ?_
      · simp only [wq_a, wq_b, wq_c, wq_d, wq_e, wq_f, wq_g, Int.reduceToNat, Int.reduceLE, Int.reduceLT, Int.reduceNeg, startD, List.replicate, Nat.reduceAdd, Nat.reduceSub, Nat.reduceEqDiff, if_true, if_false, Int.reduceEq, Int.reduceAdd, Int.reduceSub, Int.reduceMul, eq_self, wider_ok (show m.length ≤ 100 by omega), itemsD]
        exact ⟨by first | rfl | trivial, by first | rfl | trivial, fun _ _ => rfl⟩
      · intro x _ S4 _
        simp only [wq_a, wq_b, wq_c, wq_d, wq_e, wq_f, wq_g, Int.reduceToNat, Int.reduceLE, Int.reduceLT, Int.reduceNeg, startD, List.replicate, Nat.reduceAdd, Nat.reduceSub, Nat.reduceEqDiff, if_true, if_false, Int.reduceEq, Int.reduceAdd, Int.reduceSub, Int.reduceMul, eq_self, wipeD]
        have e : decide (mW x ∈ (goodM ins some').map mW) = decide (x ∈ goodM ins some') := decide_eq_decide.mpr in_mW
        rw [w_inL (x := mW x) (y := .frl ((goodM ins some').map mW)) (ds := (goodM ins some').map mW) rfl (show GD 0 (mW x) from gd_W (wM_ok x)) mW_gds, e]
        simp only [wq_a, wq_b, wq_c, wq_d, wq_e, wq_f, wq_g, Int.reduceToNat, Int.reduceLE, Int.reduceLT, Int.reduceNeg, startD, List.replicate, Nat.reduceAdd, Nat.reduceSub, Nat.reduceEqDiff, if_true, if_false, Int.reduceEq, Int.reduceAdd, Int.reduceSub, Int.reduceMul, eq_self]
        exact ⟨by first | rfl | trivial, by first | rfl | trivial, by first | rfl | trivial, fun _ => ⟨by first | rfl | trivial, by first | rfl | trivial⟩⟩
      · intro x _ _; rfl
    have gM : ∀ {m : Mk}, ∀ b ∈ wid m, GD 0 (mW b) := fun {m} b _ => gd_W (wM_ok b)
    have e6 : ∀ {a4 : Option D}, dFrz (dComp [4] (iVal (dVar 5)) (gVar 4) (d2T eqD (dFrz (dComp [7] (iVal (dCallF 1 F_wider (dCons (dVar 4) dNil))) (gVar 7) (d2T inD (dVar 7) (dVar 5)) (dVar 7))) (dLstF dNil)) (dTup (dCons (dVar 4) (dCons (d2 ixDic3 (dVar 3) (dVar 4)) dNil)))) [some (.int ((ins : Nat) : Int)), some (.frl (some'.map sW)), some (.frl ((allB ins).map sW)), some (.ref S.length), a4, some (.frl ((goodM ins some').map mW)), none, none] (S ++ [DO.dic 3 kv]) = .ok (.frl ((mks ins some').map pkD)) (S ++ [DO.dic 3 kv]) := fun {a4} => by
      have : (mks ins some').map pkD = ((goodM ins some').filter fun m => (wid m).all fun x => !decide (x ∈ goodM ins some')).map fun m => D.tup [mW m, .tup ((btsM ins m).map sW)] := by
        unfold mks
        rw [List.map_map]
        rfl
      rw [this]
      refine compF (goodM ins some') mW _ _ ?_ (Nat.le_trans (List.length_filter_le _ _) (szn (by omega))) ?_ ?_
      · simp only [wq_a, wq_b, wq_c, wq_d, wq_e, wq_f, wq_g, Int.reduceToNat, Int.reduceLE, Int.reduceLT, Int.reduceNeg, startD, List.replicate, Nat.reduceAdd, Nat.reduceSub, Nat.reduceEqDiff, if_true, if_false, Int.reduceEq, Int.reduceAdd, Int.reduceSub, Int.reduceMul, eq_self, itemsD]
        exact ⟨by first | rfl | trivial, by first | rfl | trivial, fun _ _ => rfl⟩
      · intro m hm S3 g
        simp only [wq_a, wq_b, wq_c, wq_d, wq_e, wq_f, wq_g, Int.reduceToNat, Int.reduceLE, Int.reduceLT, Int.reduceNeg, startD, List.replicate, Nat.reduceAdd, Nat.reduceSub, Nat.reduceEqDiff, if_true, if_false, Int.reduceEq, Int.reduceAdd, Int.reduceSub, Int.reduceMul, eq_self, wipeD, hw (hgm hm)]
        rw [w_eqNil (n := 0) gM]
        simp only [wq_a, wq_b, wq_c, wq_d, wq_e, wq_f, wq_g, Int.reduceToNat, Int.reduceLE, Int.reduceLT, Int.reduceNeg, startD, List.replicate, Nat.reduceAdd, Nat.reduceSub, Nat.reduceEqDiff, if_true, if_false, Int.reduceEq, Int.reduceAdd, Int.reduceSub, Int.reduceMul, eq_self]
        refine ⟨by first | rfl | trivial, by first | rfl | trivial, by first | rfl | trivial, fun _ => ?_⟩
        rw [w_ixDic3 (at3 g) rfl (gk (hgm hm))]
        simp only [wq_a, wq_b, wq_c, wq_d, wq_e, wq_f, wq_g, Int.reduceToNat, Int.reduceLE, Int.reduceLT, Int.reduceNeg, startD, List.replicate, Nat.reduceAdd, Nat.reduceSub, Nat.reduceEqDiff, if_true, if_false, Int.reduceEq, Int.reduceAdd, Int.reduceSub, Int.reduceMul, eq_self]
        exact ⟨by first | rfl | trivial, by first | rfl | trivial⟩
      · intro m hm _
        exact gd_blw (n := 2) _ (gd_tup fun d hd => by
          have : d = mW m ∨ d = .tup ((btsM ins m).map sW) := by simpa using hd
          rcases this with rfl | rfl
          · exact gd_W (wM_ok m)
          · exact gd_tup sW_gd0)
    simp only [e6, wq_a, wq_b, wq_c, wq_d, wq_e, wq_f, wq_g, Int.reduceToNat, Int.reduceLE, Int.reduceLT, Int.reduceNeg, startD, List.replicate, Nat.reduceAdd, Nat.reduceSub, Nat.reduceEqDiff, if_true, if_false, Int.reduceEq, Int.reduceAdd, Int.reduceSub, Int.reduceMul, eq_self]
    exact ⟨trivial, [.dic 3 kv], rfl⟩
  · rintro pre m post sd S' e ⟨rfl, a4, rfl⟩
    have hm : m ∈ allM ins := by rw [e]; simp
    have hml := allM_len ins hm
    have hnot : m ∉ pre := fun z => by
      have := allM_nodup ins
      rw [e, List.nodup_append] at this
      exact this.2.2 m z m (List.mem_cons_self) rfl
    have hpl : pre.length ≤ 81 := by
      rw [e] at p81
      simp at p81
      omega
    have hc : ∀ {S : Sto} {x0 x1 x3 x5 x6 x7 : Option D}, dFrz (dComp [6] (iVal (dVar 2)) (gVar 6) (tstB (dCallF 2 F_fits (dCons (dVar 4) (dCons (dVar 6) dNil)))) (dVar 6)) [x0, x1, some (.frl ((allB ins).map sW)), x3, some (mW m), x5, x6, x7] S = .ok (.frl (((allB ins).filter (ft m)).map sW)) S := fun {S x0 x1 x3 x5 x6 x7} => by
      refine compF (allB ins) sW _ _ ?_ (Nat.le_trans (List.length_filter_le _ _) (szn (by omega))) ?_ ?_
      · simp only [wq_a, wq_b, wq_c, wq_d, wq_e, wq_f, wq_g, Int.reduceToNat, Int.reduceLE, Int.reduceLT, Int.reduceNeg, startD, List.replicate, Nat.reduceAdd, Nat.reduceSub, Nat.reduceEqDiff, if_true, if_false, Int.reduceEq, Int.reduceAdd, Int.reduceSub, Int.reduceMul, eq_self, itemsD]
        exact ⟨by first | rfl | trivial, by first | rfl | trivial, fun _ _ => rfl⟩
      · intro b hb S' _
        simp only [wq_a, wq_b, wq_c, wq_d, wq_e, wq_f, wq_g, Int.reduceToNat, Int.reduceLE, Int.reduceLT, Int.reduceNeg, startD, List.replicate, Nat.reduceAdd, Nat.reduceSub, Nat.reduceEqDiff, if_true, if_false, Int.reduceEq, Int.reduceAdd, Int.reduceSub, Int.reduceMul, eq_self, wipeD, mW, sW, fits_ok (show m.length ≤ b.length by have := hbl b hb; omega) (show b.length ≤ 100 by have := hbl b hb; omega)]
        exact ⟨trivial, trivial, trivial, fun _ => ⟨trivial, trivial⟩⟩
      · intro b _ _; rfl
    simp only [wq_a, wq_b, wq_c, wq_d, wq_e, wq_f, wq_g, Int.reduceToNat, Int.reduceLE, Int.reduceLT, Int.reduceNeg, startD, List.replicate, Nat.reduceAdd, Nat.reduceSub, Nat.reduceEqDiff, if_true, if_false, Int.reduceEq, Int.reduceAdd, Int.reduceSub, Int.reduceMul, eq_self, hc]
    rw [w_tupF]
    simp only [wq_a, wq_b, wq_c, wq_d, wq_e, wq_f, wq_g, Int.reduceToNat, Int.reduceLE, Int.reduceLT, Int.reduceNeg, startD, List.replicate, Nat.reduceAdd, Nat.reduceSub, Nat.reduceEqDiff, if_true, if_false, Int.reduceEq, Int.reduceAdd, Int.reduceSub, Int.reduceMul, eq_self]
    rw [w_setDic' get_last rfl (by rw [sizeLine_eq]; unfold kvE knM; simp; omega), putD_E (fun a b => mW_inj) (by rw [knM_keys]; exact hnot), set_last]
    refine ⟨?_, _, rfl⟩
    unfold knM
    rw [List.map_append]
    rfl

end Lw

namespace Lw
open PySem PySem.Spec PyProof.Rows L2 DL
theorem fn_keep {n : Nat} {b : Sl → Sto → Res Fl} {ds : List D} {S S' : Sto} {v : D} (hc : cutOk S S' = false) (h : Wp (b (startD n ds) S) (kFn fun d S1 => d = v ∧ S1 = S') NX) : cutF (dFn n b) ds S = .ok v S' := by
  have h' : Wp (dFn n b ds S) (fun d S1 => d = v ∧ S1 = S') NX := by rw [w_dFn]; exact h
  obtain ⟨d, S1, e, rfl, rfl⟩ := Wp.ok h'
  unfold cutF
  rw [e]
  simp only [cutR, hc, Bool.false_eq_true, if_false]
theorem cutOk_no {S S' : Sto} {i : Nat} {o : DO} (hi : i < S.length) (h : S'[i]? = some o) (hn : S[i]? ≠ some o) (hb : o.blw S.length = false) : cutOk S S' = false := by
  rw [Bool.eq_false_iff]
  intro z
  unfold cutOk at z
  rw [Bool.and_eq_true] at z
  have := List.all_eq_true.mp z.2 i (List.mem_range.mpr hi)
  unfold sameO at this
  rw [h] at this
  simp only [Bool.or_eq_true, decide_eq_true_eq] at this
  rcases this with y | y
  · exact hn y.symm
  · rw [hb] at y; cases y
theorem w_setF1 {r c : Nat} {f : Str} {fs : List (Str × D)} {v : D} {S : Sto} {Q : Unit → Sto → Prop} {X : Exc → Sto → Prop} (hr : S[r]? = some (.ins c fs)) (hv : fs.length < 1000) : Wp (setF [c] f (.ref r) v S) Q X = Q () (S.set r (.ins c (putFD f v fs))) := by
  simp only [setF, hr]
  rw [if_pos ⟨by simp, hv⟩]
  rfl

theorem ne_marks_known : (Str.ofString "marks" = Str.ofString "known") = False := by decide +kernel
theorem ne_known_marks : (Str.ofString "known" = Str.ofString "marks") = False := by decide +kernel
theorem cover_init {ps : List Pk} {S : Sto} : F_Cover_init [.ref S.length, .frl (ps.map pkD)] (S ++ [.ins 21 []]) = .ok .non (S ++ [cvO ps (S.length + 1), .dic 2 (kvE rsD [([], .int 0)])]) := by
  unfold F_Cover_init
  refine fn_keep (cutOk_no (i := S.length) (o := cvO ps (S.length + 1)) (by simp) (by simp) (by simp [cvO]) (by simp [cvO, DO.blw, D.blw])) ?_
  unfold b_Cover_init
  simp only [wq_a, wq_b, wq_c, wq_d, wq_e, wq_f, wq_g, Int.reduceToNat, Int.reduceLE, Int.reduceLT, Int.reduceNeg, startD, List.replicate, Nat.reduceAdd, Nat.reduceSub, Nat.reduceEqDiff, if_true, if_false, Int.reduceEq, Int.reduceAdd, Int.reduceSub, Int.reduceMul, eq_self]
  rw [w_setF1 (fs := []) (by simp) (by simp)]
  have s1 : (S ++ [DO.ins 21 []]).set S.length (.ins 21 (putFD "marks" (.frl (ps.map pkD)) [])) = S ++ [.ins 21 [("marks", .frl (ps.map pkD))]] := by
    rw [List.set_append_right _ _ (Nat.le_refl _)]
    simp [putFD]
  rw [s1]
  have nk : nokD (.tup []) = true := rsD_nok []
  simp only [wq_a, wq_b, wq_c, wq_d, wq_e, wq_f, wq_g, Int.reduceToNat, Int.reduceLE, Int.reduceLT, Int.reduceNeg, startD, List.replicate, Nat.reduceAdd, Nat.reduceSub, Nat.reduceEqDiff, if_true, if_false, Int.reduceEq, Int.reduceAdd, Int.reduceSub, Int.reduceMul, eq_self, w_dDispN, nk]
  rw [w_setF1 (fs := [("marks", .frl (ps.map pkD))]) (by simp) (by simp)]
  simp only [putFD, ne_marks_known, ne_known_marks, if_false]
  refine ⟨rfl, ?_⟩
  rw [List.append_assoc, List.set_append_right _ _ (Nat.le_refl _)]
  simp [cvO, kvE, rsD]
theorem lk_first {x y : D} : ([(Str.ofString "marks", x), (Str.ofString "known", y)] : List (Str × D)).lookup (Str.ofString "first") = none := by
  simp only [List.lookup, show ((Str.ofString "first") == (Str.ofString "marks")) = false by decide +kernel, show ((Str.ofString "first") == (Str.ofString "known")) = false by decide +kernel]
theorem fewest_of_raw {ins : Nat} {some' : List Bt} {S : Sto} (i4 : ins ≤ 4) (hl : some'.length ≤ 16) (hc : Cov (mks ins some') some') : Fr_fewest_of [.int ((ins : Nat) : Int), .frl (some'.map sW)] S = .ok (.ref S.length) (S ++ [.lst ((fs (mks ins some') some').map fun q => mW q.1)]) := by
  unfold Fr_fewest_of
  refine fn_new (gd_blws (n := 0) _ (gd_map fun q _ => gd_W (wM_ok q.1))) ?_
  unfold br_fewest_of
  have hpl : (mks ins some').length ≤ 1000 := by
    unfold mks
    rw [List.length_map]
    have h1 : ((goodM ins some').filter fun m => (wid m).all fun x => !decide (x ∈ goodM ins some')).length ≤ (goodM ins some').length := List.length_filter_le _ _
    have h2 : (goodM ins some').length ≤ (allM ins).length := List.length_filter_le _ _
    have h3 : (allM ins).length ≤ 81 := by
      rw [allM_many]
      exact Nat.pow_le_pow_right (n := 3) (by decide) i4
    omega
  have hq : ∀ q ∈ mks ins some', q.2.length ≤ 100 := fun q h => by
    obtain ⟨m, _, rfl⟩ := List.mem_map.mp h
    have := btsM_len (m := m) i4
    show (btsM ins m).length ≤ 100
    omega
  have K0 : KN (mks ins some') some' [([], .int 0)] := ⟨fun p hp => by
    rw [List.mem_singleton] at hp
    rw [hp]
    exact ⟨rfl, List.nil_sublist _⟩, by simp, by simp⟩
  have hs : (S ++ [cvO (mks ins some') (S.length + 1), DO.dic 2 (kvE rsD [([], .int 0)])])[S.length]? = some (.ins 21 [("marks", .frl ((mks ins some').map pkD)), ("known", .ref (S.length + 1))]) := get_mid rfl
  have hk : (S ++ [cvO (mks ins some') (S.length + 1), DO.dic 2 (kvE rsD [([], .int 0)])])[S.length + 1]? = some (.dic 2 (kvE rsD [([], .int 0)])) := by
    rw [List.getElem?_append_right (by omega), Nat.add_sub_cancel_left]
    rfl
  obtain ⟨kn', e, _⟩ := first_raw (self := S.length) (k := S.length + 1) (base := some') (ps := mks ins some') (kn := [([], .int 0)]) (S := S ++ [cvO (mks ins some') (S.length + 1), DO.dic 2 (kvE rsD [([], .int 0)])]) hl hpl hq hc (by omega) K0 hs hk
  have e' : Fr_Cover_first [.ref S.length, .tup (some'.map sW)] _ = _ := e
  simp only [wq_a, wq_b, wq_c, wq_d, wq_e, wq_f, wq_g, Int.reduceToNat, Int.reduceLE, Int.reduceLT, Int.reduceNeg, startD, List.replicate, Nat.reduceAdd, Nat.reduceSub, Nat.reduceEqDiff, if_true, if_false, Int.reduceEq, Int.reduceAdd, Int.reduceSub, Int.reduceMul, eq_self, marks_of_ok i4 (show some'.length ≤ 100 by omega), cover_init, hs, lk_first, and_self]
  rw [w_tupF]
  simp only [wq_a, wq_b, wq_c, wq_d, wq_e, wq_f, wq_g, Int.reduceToNat, Int.reduceLE, Int.reduceLT, Int.reduceNeg, startD, List.replicate, Nat.reduceAdd, Nat.reduceSub, Nat.reduceEqDiff, if_true, if_false, Int.reduceEq, Int.reduceAdd, Int.reduceSub, Int.reduceMul, eq_self, e']
  refine ⟨_, [cvO (mks ins some') (S.length + 1), DO.dic 2 (kvE rsD kn'), DO.lst ((fs (mks ins some') some').map fun q => mW q.1)], rfl, ?_, ?_, by simp⟩
  · rw [List.set_append_right _ _ (by omega), Nat.add_sub_cancel_left, List.append_assoc]
    rfl
  · rw [List.getElem?_append_right (by simp)]
    simp

theorem good_iff {ins : Nat} {s : List Bt} {m : Mk} : m ∈ goodM ins s ↔ m.length = ins ∧ ∀ b : Bt, b.length = ins → ft m b = true → b ∈ s := by
  unfold goodM
  rw [List.mem_filter, List.all_eq_true]
  constructor
  · rintro ⟨h1, h2⟩
    refine ⟨allM_len ins h1, fun b hb hf => ?_⟩
    exact of_decide_eq_true (h2 b (List.mem_filter.mpr ⟨by subst hb; exact allB_mem b, hf⟩))
  · rintro ⟨h1, h2⟩
    refine ⟨allM_mem h1, fun b hb => ?_⟩
    obtain ⟨h3, h4⟩ := List.mem_filter.mp hb
    exact decide_eq_true (h2 b (allB_len ins b h3) h4)
theorem wd_len {m : Mk} {k : Nat} (h : k < m.length) : (wd m k).length = m.length := by
  unfold wd
  rw [List.length_append, List.length_take, List.length_cons, List.length_drop]
  omega
theorem wd_get {m : Mk} {k j : Nat} (h : k < m.length) : (wd m k).getD j none = if j = k then none else m.getD j none := by
  unfold wd
  rw [List.getD_eq_getElem?_getD, List.getD_eq_getElem?_getD]
  have hl : (m.take k).length = k := by rw [List.length_take]; omega
  by_cases h1 : j < k
  · rw [List.getElem?_append_left (by omega), List.getElem?_take, if_pos h1, if_neg (by omega)]
  · rw [List.getElem?_append_right (by omega), hl]
    by_cases h2 : j = k
    · subst h2
      rw [if_pos rfl, Nat.sub_self]
      rfl
    · rw [if_neg h2]
      obtain ⟨d, hd⟩ : ∃ d, j - k = d + 1 := ⟨j - k - 1, by omega⟩
      rw [hd, List.getElem?_cons_succ, List.getElem?_drop]
      congr 2
      omega
theorem wd_ft {m : Mk} {k : Nat} {b : Bt} (h : k < m.length) (hf : ft m b = true) : ft (wd m k) b = true := by
  rw [ft_iff] at hf ⊢
  intro j hj
  rw [wd_len h] at hj
  have := hf j hj
  unfold fk at this ⊢
  rw [wd_get h]
  by_cases e : j = k
  · rw [if_pos e]
  · rw [if_neg e]
    exact this
def nfx (m : Mk) : Nat := m.countP Option.isSome
theorem nfx_wd {m : Mk} {k : Nat} (h : k < m.length) (hf : fixd m k = true) : nfx (wd m k) + 1 = nfx m := by
  have hs : m[k].isSome = true := by
    unfold fixd at hf
    rw [List.getD_eq_getElem?_getD, List.getElem?_eq_getElem h] at hf
    cases hm : m[k] with
    | none => rw [hm] at hf; simp at hf
    | some b => rfl
  have h1 : nfx m = (m.take k).countP Option.isSome + (1 + (m.drop (k + 1)).countP Option.isSome) := by
    have e2 : m.countP Option.isSome = (m.take k ++ m.drop k).countP Option.isSome := by rw [List.take_append_drop]
    unfold nfx
    rw [e2, List.countP_append, List.drop_eq_getElem_cons h, List.countP_cons, hs]
    simp
    omega
  unfold nfx wd
  rw [List.countP_append, List.countP_cons]
  unfold nfx at h1
  rw [h1]
  simp
  omega
theorem prime_ex {ins : Nat} {s : List Bt} : ∀ (n : Nat) {m : Mk}, nfx m ≤ n → m ∈ goodM ins s → ∃ q ∈ mks ins s, ∀ b, b ∈ btsM ins m → b ∈ q.2
  | n, m, hn, hm => by
    by_cases hp : ((wid m).all fun x => !decide (x ∈ goodM ins s)) = true
    · exact ⟨(m, btsM ins m), List.mem_map.mpr ⟨m, List.mem_filter.mpr ⟨hm, hp⟩, rfl⟩, fun b hb => hb⟩
    · rw [Bool.not_eq_true, List.all_eq_false] at hp
      obtain ⟨x, hx, hg⟩ := hp
      have hg : x ∈ goodM ins s := by simpa using hg
      unfold wid at hx
      obtain ⟨k, hk, rfl⟩ := List.mem_map.mp hx
      obtain ⟨hk1, hk2⟩ := List.mem_filter.mp hk
      have hk1 := List.mem_range.mp hk1
      have hnf := nfx_wd hk1 hk2
      cases n with
      | zero => omega
      | succ n =>
        obtain ⟨q, hq, hb⟩ := prime_ex n (by omega) hg
        refine ⟨q, hq, fun b hbm => hb b ?_⟩
        obtain ⟨h1, h2⟩ := List.mem_filter.mp hbm
        exact List.mem_filter.mpr ⟨h1, wd_ft hk1 h2⟩
theorem ft_self {b c : Bt} (h : c.length = b.length) : ft (b.map some) c = true ↔ c = b := by
  rw [ft_iff]
  rw [List.length_map]
  constructor
  · intro hf
    apply List.ext_getElem h
    intro i h1 h2
    have := hf i h2
    unfold fk at this
    have e1 : (b.map some).getD i none = some b[i] := by
      rw [List.getD_eq_getElem?_getD, List.getElem?_map, List.getElem?_eq_getElem h2]
      rfl
    have e2 : c.getD i false = c[i] := by
      rw [List.getD_eq_getElem?_getD, List.getElem?_eq_getElem h1]
      rfl
    rw [e1, e2] at this
    exact (eq_of_beq this).symm
  · rintro rfl i hi
    unfold fk
    have e1 : (c.map some).getD i none = some c[i] := by
      rw [List.getD_eq_getElem?_getD, List.getElem?_map, List.getElem?_eq_getElem hi]
      rfl
    have e2 : c.getD i false = c[i] := by
      rw [List.getD_eq_getElem?_getD, List.getElem?_eq_getElem hi]
      rfl
    rw [e1, e2]
    exact beq_self_eq_true _
theorem cov_mks {ins : Nat} {s : List Bt} (hs : ∀ b ∈ s, b.length = ins) : Cov (mks ins s) s := fun b hb => by
  have hbl := hs b hb
  have hg : b.map some ∈ goodM ins s := good_iff.mpr ⟨by rw [List.length_map]; exact hbl, fun c hc hf => by
    rw [(ft_self (by omega)).mp hf]
    exact hb⟩
  obtain ⟨q, hq, h⟩ := prime_ex (nfx (b.map some)) (Nat.le_refl _) hg
  refine ⟨q, hq, h b (List.mem_filter.mpr ⟨by subst hbl; exact allB_mem b, (ft_self rfl).mpr rfl⟩)⟩

theorem cov_cons {cs : List Pk} {q : Pk} {rest : List Bt} (h : Cov cs (lft rest q.2)) : Cov (q :: cs) rest := fun b hb => by
  by_cases hbq : b ∈ q.2
  · exact ⟨q, List.mem_cons_self, hbq⟩
  · obtain ⟨p, hp, hpb⟩ := h b (lft_mem.mpr ⟨hb, hbq⟩)
    exact ⟨p, List.mem_cons_of_mem _ hp, hpb⟩
theorem mn_ex {ps : List Pk} {rest : List Bt} (hc : Cov ps rest) : ∃ cs : List Pk, (∀ q ∈ cs, q ∈ ps) ∧ Cov cs rest ∧ cs.length = mn ps rest := ⟨fsF ps rest.length rest, fsF_ok rest.length (Nat.le_refl _) hc⟩
theorem mem_ok {ps : List Pk} {rest : List Bt} {cs : List Pk} {q : Pk} (hs : ∀ q ∈ cs, q ∈ ps) (hc : Cov cs rest) (hl : cs.length = mn ps rest) (hq : q ∈ cs) : okP ps rest q = true := by
  have hpos := List.length_pos_of_mem hq
  have hel : (cs.erase q).length = cs.length - 1 := List.length_erase_of_mem hq
  have hes : ∀ x ∈ cs.erase q, x ∈ ps := fun x hx => hs x (List.mem_of_mem_erase hx)
  have c1 : Cov (cs.erase q) (lft rest q.2) := fun x hx => by
    obtain ⟨h1, h2⟩ := lft_mem.mp hx
    obtain ⟨p, hp, hpx⟩ := hc x h1
    exact ⟨p, (List.mem_erase_of_ne (fun z => h2 (by rw [← z]; exact hpx))).mpr hp, hpx⟩
  have m1 := mn_le _ (Nat.le_refl _) hes c1
  have hlt : (lft rest q.2).length < rest.length := by
    refine Nat.lt_of_le_of_ne (lft_len _ _) fun e => ?_
    have e2 := List.length_filter_eq_length_iff.mp e
    have c2 : Cov (cs.erase q) rest := fun x hx => by
      have : x ∈ lft rest q.2 := lft_mem.mpr ⟨hx, by have := e2 x hx; simpa using this⟩
      exact c1 x this
    have := mn_le _ (Nat.le_refl _) hes c2
    omega
  have hcp : Cov ps rest := fun b hb => by
    obtain ⟨p, hp, h⟩ := hc b hb
    exact ⟨p, hs p hp, h⟩
  obtain ⟨ds, d1, d2, d3⟩ := mn_ex (hcp.lft (bs := q.2))
  have m2 := mn_le (ps := ps) (rest := rest) (cs := q :: ds) _ (Nat.le_refl _) (fun x hx => by
    rcases List.mem_cons.mp hx with rfl | hx
    · exact hs x hq
    · exact d1 x hx) (cov_cons d2)
  rw [List.length_cons] at m2
  unfold okP
  rw [decide_eq_true hlt, decide_eq_true (show 1 + mn ps (lft rest q.2) = mn ps rest by omega)]
  rfl
theorem fs_ok {ps : List Pk} {rest : List Bt} (hc : Cov ps rest) : (∀ q ∈ fs ps rest, q ∈ ps) ∧ Cov (fs ps rest) rest ∧ (fs ps rest).length = mn ps rest := fsF_ok rest.length (Nat.le_refl _) hc
theorem find_before {α : Type} {f : α → Bool} {R : α → α → Prop} : ∀ {l : List α} {q x : α}, l.Pairwise R → l.find? f = some q → x ∈ l → f x = true → x = q ∨ R q x
  | a :: l, q, x, hp, hf, hx, hfx => by
    obtain ⟨h1, h2⟩ := List.pairwise_cons.mp hp
    rw [List.find?_cons] at hf
    cases ha : f a with
    | true =>
      rw [ha] at hf
      cases hf
      rcases List.mem_cons.mp hx with rfl | hx
      · exact .inl rfl
      · exact .inr (h1 x hx)
    | false =>
      rw [ha] at hf
      rcases List.mem_cons.mp hx with rfl | hx
      · rw [ha] at hfx; cases hfx
      · exact find_before h2 hf hx hfx
theorem lft_lft {rest bs : List Bt} : lft (lft rest bs) bs = lft rest bs := by
  unfold lft
  rw [List.filter_filter]
  congr 1
  funext b
  simp
theorem fs_pair {ps : List Pk} {R : Pk → Pk → Prop} (hR : ps.Pairwise R) : ∀ (n : Nat) {rest : List Bt}, rest.length ≤ n → Cov ps rest → (fs ps rest).Pairwise R
  | n, rest, h, hc => by
    by_cases hne : rest = []
    · subst hne
      exact List.Pairwise.nil
    · obtain ⟨q, e, hq, h1, h2⟩ := okP_some hne hc
      rw [fs_step hne e]
      cases n with
      | zero => exact absurd (List.length_eq_zero_iff.mp (by omega)) hne
      | succ n =>
        refine List.pairwise_cons.mpr ⟨fun x hx => ?_, fs_pair hR n (by omega) hc.lft⟩
        obtain ⟨f1, f2, f3⟩ := fs_ok hc
        have ox : okP ps rest x = true := mem_ok f1 f2 f3 (by rw [fs_step hne e]; exact List.mem_cons_of_mem _ hx)
        obtain ⟨g1, g2, g3⟩ := fs_ok (hc.lft (bs := q.2))
        have ox2 := mem_ok g1 g2 g3 hx
        rcases find_before hR e (f1 x (by rw [fs_step hne e]; exact List.mem_cons_of_mem _ hx)) ox with rfl | h
        · unfold okP at ox2
          rw [Bool.and_eq_true, lft_lft] at ox2
          exact absurd (of_decide_eq_true ox2.1) (Nat.lt_irrefl _)
        · exact h

theorem once_no {ps : List Pk} {rest : List Bt} {a x : Pk} (ha : a ∈ ps) (hx : x ∈ ps) (hc : Cov ps rest) (oa : okP ps rest a = true) (ox : okP ps (lft rest a.2) x = true) : okP ps rest x = true := by
  unfold okP at oa ox
  rw [Bool.and_eq_true] at oa ox
  have a2 := of_decide_eq_true oa.2
  have x2 := of_decide_eq_true ox.2
  obtain ⟨ds, d1, d2, d3⟩ := mn_ex ((hc.lft (bs := a.2)).lft (bs := x.2))
  exact mem_ok (cs := a :: x :: ds) (fun q hq => by
    rcases List.mem_cons.mp hq with rfl | hq
    · exact ha
    · rcases List.mem_cons.mp hq with rfl | hq
      · exact hx
      · exact d1 q hq) (cov_cons (cov_cons d2)) (by simp only [List.length_cons]; omega) (by simp)
structure Once (ps : List Pk) (base : List Bt) (pre out : List Pk) (rest : List Bt) : Prop where
  sub : rest.Sublist base
  out : out ++ fs ps rest = fs ps base
  no : ∀ x ∈ pre, okP ps rest x = false
theorem Once.skip {ps : List Pk} {base rest : List Bt} {pre out : List Pk} {a : Pk} (h : Once ps base pre out rest) (ha : okP ps rest a = false) : Once ps base (pre ++ [a]) out rest := ⟨h.sub, h.out, fun x hx => by
  rcases List.mem_append.mp hx with hx | hx
  · exact h.no x hx
  · rw [List.mem_singleton.mp hx]; exact ha⟩
theorem Once.take {ps : List Pk} {base rest : List Bt} {pre post out : List Pk} {a : Pk} (hc : Cov ps base) (e : ps = pre ++ a :: post) (h : Once ps base pre out rest) (ha : okP ps rest a = true) : Once ps base (pre ++ [a]) (out ++ [a]) (lft rest a.2) := by
  have hcr : Cov ps rest := fun b hb => hc b (h.sub.subset hb)
  have hap : a ∈ ps := by rw [e]; simp
  have hne : rest ≠ [] := by
    rintro rfl
    unfold okP at ha
    simp at ha
  have hf := find_at e h.no ha
  refine ⟨lft_sub h.sub, ?_, fun x hx => ?_⟩
  · rw [← h.out, fs_step hne hf]
    simp
  · cases ox : okP ps (lft rest a.2) x with
    | false => rfl
    | true =>
      rcases List.mem_append.mp hx with hx | hx
      · have := once_no hap (by rw [e]; simp [hx]) hcr ha ox
        rw [h.no x hx] at this
        cases this
      · rw [List.mem_singleton.mp hx] at ox
        unfold okP at ox
        rw [lft_lft] at ox
        simp at ox
theorem Once.fin {ps : List Pk} {base rest : List Bt} {out : List Pk} (hc : Cov ps base) (h : Once ps base ps out rest) : out = fs ps base := by
  have hcr : Cov ps rest := fun b hb => hc b (h.sub.subset hb)
  by_cases hne : rest = []
  · subst hne
    rw [← h.out]
    simp [fs, fsF]
  · obtain ⟨q, hf, hq, _⟩ := okP_some hne hcr
    have := List.find?_some hf
    rw [h.no q hq] at this
    cases this

theorem need_beats_ok {ins : Int} {ws : List (List Nat)} {S : Sto} (hw : ∀ w ∈ ws, Wok w ∧ w.length ≤ 16777216) (h : ∀ w ∈ ws, isWord w ins b01 = true) : F_need_beats [.int ins, .frl (ws.map fun w => .str (W w))] S = .ok .non S := by
  unfold F_need_beats
  refine fn_ok rfl ?_
  unfold b_need_beats
  simp only [z6, z5, wq_a, wq_b, wq_c, wq_d, wq_e, wq_f, wq_g, Int.reduceToNat, Int.reduceLE, Int.reduceLT, Int.reduceNeg, startD, List.replicate, Nat.reduceAdd, Nat.reduceSub, Nat.reduceEqDiff, if_true, if_false, Int.reduceEq, Int.reduceAdd, Int.reduceSub, Int.reduceMul, eq_self, itemsD]
  refine w_enumP (fun w => D.str (W w)) (fun _ sd S' => S' = S ∧ ∃ a b, sd = [some (.int ins), some (.frl (ws.map fun w => .str (W w))), a, b]) ws (fun _ _ _ _ _ _ => rfl) ⟨rfl, none, none, rfl⟩ ?_ ?_
  · rintro sd S' ⟨rfl, a, b, rfl⟩
    exact ⟨rfl, app_nil _⟩
  · rintro pre w post sd S' e ⟨rfl, a, b, rfl⟩
    have hm : w ∈ ws := by rw [e]; simp
    simp only [z6, z5, wq_a, wq_b, wq_c, wq_d, wq_e, wq_f, wq_g, Int.reduceToNat, Int.reduceLE, Int.reduceLT, Int.reduceNeg, startD, List.replicate, Nat.reduceAdd, Nat.reduceSub, Nat.reduceEqDiff, if_true, if_false, Int.reduceEq, Int.reduceAdd, Int.reduceSub, Int.reduceMul, eq_self, gTupD, W_01]
    rw [is_word_ok (hw w hm).1 (hw w hm).2]
    have e1 : isWord w ins [48, 49] = true := h w hm
    simp only [z6, z5, wq_a, wq_b, wq_c, wq_d, wq_e, wq_f, wq_g, Int.reduceToNat, Int.reduceLE, Int.reduceLT, Int.reduceNeg, startD, List.replicate, Nat.reduceAdd, Nat.reduceSub, Nat.reduceEqDiff, if_true, if_false, Int.reduceEq, Int.reduceAdd, Int.reduceSub, Int.reduceMul, eq_self, e1]
    exact ⟨trivial, _, _, rfl⟩
theorem need_beats_bad {ins : Int} {pre post : List (List Nat)} {w : List Nat} {S : Sto} (hw : ∀ v ∈ pre ++ w :: post, Wok v ∧ v.length ≤ 16777216) (h : ∀ v ∈ pre, isWord v ins b01 = true) (hb : isWord w ins b01 = false) :
    F_need_beats [.int ins, .frl ((pre ++ w :: post).map fun w => .str (W w))] S = .exc ⟨3, some [("number", .int (pre.length : Nat))]⟩ S := by
  unfold F_need_beats
  refine fn_exc rfl ?_
  unfold b_need_beats
  simp only [z6, z5, wq_a, wq_b, wq_c, wq_d, wq_e, wq_f, wq_g, Int.reduceToNat, Int.reduceLE, Int.reduceLT, Int.reduceNeg, startD, List.replicate, Nat.reduceAdd, Nat.reduceSub, Nat.reduceEqDiff, if_true, if_false, Int.reduceEq, Int.reduceAdd, Int.reduceSub, Int.reduceMul, eq_self, itemsD]
  refine w_enumP (fun w => D.str (W w)) (fun p sd S' => S' = S ∧ p.length ≤ pre.length ∧ ∃ a b, sd = [some (.int ins), some (.frl ((pre ++ w :: post).map fun w => .str (W w))), a, b]) (pre ++ w :: post) (fun _ _ _ _ _ _ => rfl) ⟨rfl, by simp, none, none, rfl⟩ ?_ ?_
  · rintro sd S' ⟨rfl, hl, _⟩
    simp at hl
    omega
  · rintro p v q sd S' e ⟨rfl, hl, a, b, rfl⟩
    have hm : v ∈ pre ++ w :: post := by rw [e]; simp
    simp only [z6, z5, wq_a, wq_b, wq_c, wq_d, wq_e, wq_f, wq_g, Int.reduceToNat, Int.reduceLE, Int.reduceLT, Int.reduceNeg, startD, List.replicate, Nat.reduceAdd, Nat.reduceSub, Nat.reduceEqDiff, if_true, if_false, Int.reduceEq, Int.reduceAdd, Int.reduceSub, Int.reduceMul, eq_self, gTupD, W_01]
    rw [is_word_ok (hw v hm).1 (hw v hm).2]
    have hv : (pre ++ w :: post)[p.length]? = some v := by rw [e]; simp
    by_cases hlt : p.length < pre.length
    · have hm2 : v ∈ pre := by
        rw [List.getElem?_append_left hlt] at hv
        exact List.mem_of_getElem? hv
      have e1 : isWord v ins [48, 49] = true := h v hm2
      simp only [z6, z5, wq_a, wq_b, wq_c, wq_d, wq_e, wq_f, wq_g, Int.reduceToNat, Int.reduceLE, Int.reduceLT, Int.reduceNeg, startD, List.replicate, Nat.reduceAdd, Nat.reduceSub, Nat.reduceEqDiff, if_true, if_false, Int.reduceEq, Int.reduceAdd, Int.reduceSub, Int.reduceMul, eq_self, e1]
      exact ⟨trivial, by simp; omega, _, _, rfl⟩
    · have hp : p.length = pre.length := by omega
      rw [hp, List.getElem?_append_right (Nat.le_refl _)] at hv
      simp at hv
      subst hv
      have e1 : isWord w ins [48, 49] = false := hb
      simp only [z6, z5, wq_a, wq_b, wq_c, wq_d, wq_e, wq_f, wq_g, Int.reduceToNat, Int.reduceLE, Int.reduceLT, Int.reduceNeg, startD, List.replicate, Nat.reduceAdd, Nat.reduceSub, Nat.reduceEqDiff, if_true, if_false, Int.reduceEq, Int.reduceAdd, Int.reduceSub, Int.reduceMul, eq_self, e1, hp]
      exact ⟨trivial, app_nil _⟩

theorem strs_sW (l : List Bt) : strsD (l.map sW) = some (l.map fun b => W (wB b)) := by
  have := strsD_W (l.map wB)
  rw [List.map_map, List.map_map] at this
  exact this
theorem isW' {b : Bt} {ins : Nat} (h : b.length = ins) : isWord (wB b) ((ins : Nat) : Int) [48, 49] = true := by
  unfold isWord
  rw [wB_len, decide_eq_true (by rw [h]), Bool.true_and, List.all_eq_true]
  intro c hc
  obtain ⟨x, _, rfl⟩ := List.mem_map.mp hc
  exact decide_eq_true (cb_mem x)
theorem fewest_raw {ins : Nat} {s : List Bt} {S : Sto} (i1 : 1 ≤ ins) (i4 : ins ≤ 4) (hs : ∀ b ∈ s, b.length = ins) (hl : s.length ≤ 16) (hr : ssrt (s.map fun b => W (wB b)) = s.map fun b => W (wB b)) : Fr_fewest [.int ((ins : Nat) : Int), .frl (s.map sW)] S = .ok (.ref S.length) (S ++ [.lst ((fs (mks ins s) s).map fun q => mW q.1)]) := by
  unfold Fr_fewest
  refine fn_new (gd_blws (n := 0) _ (gd_map fun q _ => gd_W (wM_ok q.1))) ?_
  unfold br_fewest
  have nb : F_need_beats [.int ((ins : Nat) : Int), .frl (s.map sW)] S = .ok .non S := by
    have := need_beats_ok (ins := ((ins : Nat) : Int)) (ws := s.map wB) (S := S) (fun w hw => by
      obtain ⟨b, hb, rfl⟩ := List.mem_map.mp hw
      exact ⟨wB_ok b, by rw [wB_len, hs b hb]; omega⟩) (fun w hw => by
      obtain ⟨b, hb, rfl⟩ := List.mem_map.mp hw
      exact isW' (hs b hb))
    rw [List.map_map] at this
    exact this
  have hset : dSortSetS (dVar 1) [some (.int ((ins : Nat) : Int)), some (.frl (s.map sW))] S = .ok (.frl (s.map sW)) S := by
    unfold dSortSetS dVar
    simp only [List.getElem?_cons_succ, List.getElem?_cons_zero, Res.bind, lsD, strs_sW]
    rw [if_pos (by rw [List.length_map]; omega), hr, List.map_map]
    rfl
  have gs : GD 1 (.frl (s.map sW)) := gd_frl sW_gd0
  have h1 : decide ((1 : Int) ≤ ((ins : Nat) : Int)) = true := decide_eq_true (by omega)
  have h2 : decide (((ins : Nat) : Int) ≤ 4) = true := decide_eq_true (by omega)
  have hlf : ∀ S, listF [.frl (s.map sW)] S = .ok (.frl (s.map sW)) S := fun S => rfl
  simp only [wq_a, wq_b, wq_c, wq_d, wq_e, wq_f, wq_g, Int.reduceToNat, Int.reduceLE, Int.reduceLT, Int.reduceNeg, startD, List.replicate, Nat.reduceAdd, Nat.reduceSub, Nat.reduceEqDiff, if_true, if_false, Int.reduceEq, Int.reduceAdd, Int.reduceSub, Int.reduceMul, eq_self, h1, h2, nb, hset, hlf]
  rw [w_neG gs gs]
  simp only [wq_a, wq_b, wq_c, wq_d, wq_e, wq_f, wq_g, Int.reduceToNat, Int.reduceLE, Int.reduceLT, Int.reduceNeg, startD, List.replicate, Nat.reduceAdd, Nat.reduceSub, Nat.reduceEqDiff, if_true, if_false, Int.reduceEq, Int.reduceAdd, Int.reduceSub, Int.reduceMul, eq_self, decide_true, Bool.not_true, fewest_of_raw i4 hl (cov_mks hs)]
  exact ⟨_, _, rfl, rfl, get_last, Nat.le_refl _⟩

def sLt (a b : Str) : Prop := a.cps.toList < b.cps.toList
theorem ssrt_eq {l r : List Str} (h : r.Pairwise sLt) (hm : ∀ x, x ∈ r ↔ x ∈ l) : ssrt l = r := by
  obtain ⟨d1, _, d3⟩ := ddK_all l
  have hnd : r.Nodup := h.imp fun {a b} hab e => by
    subst e
    exact List.lt_irrefl _ hab
  have hp : (ddK l).Perm r := (List.perm_ext_iff_of_nodup d1 hnd).mpr fun x => (d3 x).trans (hm x).symm
  have h1 : ((ddK l).mergeSort sLe).Perm r := (List.mergeSort_perm _ _).trans hp
  refine List.Perm.eq_of_pairwise (le := fun a b => sLe a b = true) (fun x y _ _ h2 h3 => ?_) (sLe_sorted _) (h.imp fun {a b} hab => sLe_iff.mpr (List.le_of_lt hab)) h1
  exact str_ext (List.le_antisymm (sLe_iff.mp h2) (sLe_iff.mp h3))
def wBs (b : Bt) : Str := W (wB b)
theorem allB_rise : ∀ n : Nat, (allB n).Pairwise fun a b => wB a < wB b
  | 0 => by simp [allB]
  | n + 1 => by
    have ih := allB_rise n
    unfold allB
    rw [List.pairwise_append]
    refine ⟨?_, ?_, ?_⟩
    · exact List.pairwise_map.mpr (ih.imp fun {a b} h => by simpa [wB, List.cons_lt_cons_iff] using h)
    · exact List.pairwise_map.mpr (ih.imp fun {a b} h => by simpa [wB, List.cons_lt_cons_iff] using h)
    · intro a ha b hb
      obtain ⟨x, _, rfl⟩ := List.mem_map.mp ha
      obtain ⟨y, _, rfl⟩ := List.mem_map.mp hb
      simp [wB, cb, List.cons_lt_cons_iff]
theorem rise_filter {n : Nat} {P : Bt → Bool} : (((allB n).filter P).map wBs).Pairwise sLt := by
  refine List.pairwise_map.mpr (((allB_rise n).filter P).imp fun {a b} h => ?_)
  unfold sLt wBs
  rw [W_cps, W_cps]
  exact h
theorem ssrt_beats {n : Nat} {l : List Bt} (h : ∀ b ∈ l, b.length = n) : ssrt (l.map wBs) = ((allB n).filter fun b => decide (b ∈ l)).map wBs := by
  refine ssrt_eq rise_filter fun x => ?_
  constructor
  · intro hx
    obtain ⟨b, hb, rfl⟩ := List.mem_map.mp hx
    exact List.mem_map.mpr ⟨b, of_decide_eq_true (List.mem_filter.mp hb).2, rfl⟩
  · intro hx
    obtain ⟨b, hb, rfl⟩ := List.mem_map.mp hx
    refine List.mem_map.mpr ⟨b, List.mem_filter.mpr ⟨?_, decide_eq_true hb⟩, rfl⟩
    have := h b hb
    subst this
    exact allB_mem b
theorem app_lt {a b c d : List Nat} (h : a < b) (hl : a.length = b.length) : a ++ c < b ++ d := by
  induction a generalizing b with
  | nil =>
    cases b with
    | nil => exact absurd h (List.lt_irrefl _)
    | cons y b => simp at hl
  | cons x a ih =>
    cases b with
    | nil => simp at hl
    | cons y b =>
      rw [List.cons_lt_cons_iff] at h
      rw [List.cons_append, List.cons_append, List.cons_lt_cons_iff]
      rcases h with h | ⟨rfl, h⟩
      · exact .inl h
      · exact .inr ⟨rfl, ih h (by simpa using hl)⟩
theorem app_lt2 {a : List Nat} {x y : Nat} (h : x < y) : a ++ [x] < a ++ [y] := by
  induction a with
  | nil => simpa [List.cons_lt_cons_iff] using h
  | cons z a ih =>
    rw [List.cons_append, List.cons_append, List.cons_lt_cons_iff]
    exact .inr ⟨rfl, ih⟩
theorem wM_snoc {m : Mk} {o : Option Bool} : wM (m ++ [o]) = wM m ++ [cM o] := by simp [wM]
theorem allM_rise : ∀ n : Nat, (allM n).Pairwise fun a b => wM a < wM b
  | 0 => by simp [allM]
  | n + 1 => by
    have ih := allM_rise n
    have hl : ∀ m ∈ allM n, m.length = n := fun m h => allM_len n h
    unfold allM
    generalize allM n = L at ih hl ⊢
    induction L with
    | nil => exact List.Pairwise.nil
    | cons m L ihL =>
      obtain ⟨h1, h2⟩ := List.pairwise_cons.mp ih
      rw [List.flatMap_cons, List.pairwise_append]
      refine ⟨?_, ihL h2 fun x hx => hl x (List.mem_cons_of_mem _ hx), ?_⟩
      · unfold ext3
        simp only [List.pairwise_cons, List.mem_cons, List.not_mem_nil, or_false, forall_eq_or_imp, forall_eq, wM_snoc]
        refine ⟨⟨app_lt2 (by decide), app_lt2 (by decide)⟩, app_lt2 (by decide), fun _ h => h.elim, List.Pairwise.nil⟩
      · intro a ha b hb
        obtain ⟨x, hx, hb⟩ := List.mem_flatMap.mp hb
        have hlt := h1 x hx
        have hll : (wM m).length = (wM x).length := by rw [wM_len, wM_len, hl m List.mem_cons_self, hl x (List.mem_cons_of_mem _ hx)]
        obtain ⟨o, rfl⟩ : ∃ o, a = m ++ [o] := by
          simp only [ext3, List.mem_cons, List.not_mem_nil, or_false] at ha
          rcases ha with rfl | rfl | rfl <;> exact ⟨_, rfl⟩
        obtain ⟨o', rfl⟩ : ∃ o, b = x ++ [o] := by
          simp only [ext3, List.mem_cons, List.not_mem_nil, or_false] at hb
          rcases hb with rfl | rfl | rfl <;> exact ⟨_, rfl⟩
        rw [wM_snoc, wM_snoc]
        exact app_lt hlt hll
theorem mks_rise {ins : Nat} {s : List Bt} : (mks ins s).Pairwise fun p q => wM p.1 < wM q.1 := by
  unfold mks goodM
  exact List.pairwise_map.mpr (((allM_rise ins).filter _).filter _)
theorem mks_in {ins : Nat} {s : List Bt} {q : Pk} (hq : q ∈ mks ins s) : q.1 ∈ goodM ins s ∧ q.2 = btsM ins q.1 := by
  unfold mks at hq
  obtain ⟨m, hm, rfl⟩ := List.mem_map.mp hq
  exact ⟨(List.mem_filter.mp hm).1, rfl⟩
theorem law_beats_ok {S : Sto} : ∀ (n j : Nat), n ≤ 10 → F__law_beats (n + 1 + j) [.int (n : Nat)] S = .ok (.frl ((allB n).map sW)) S := by
  intro n
  induction n with
  | zero =>
    intro j _
    rw [show 0 + 1 + j = j + 1 by omega]
    unfold F__law_beats
    refine fn_ok rfl ?_
    unfold b__law_beats
    simp only [z6, z5, wq_a, wq_b, wq_c, wq_d, wq_e, wq_f, wq_g, Int.reduceToNat, Int.reduceLE, Int.reduceLT, Int.reduceNeg, startD, List.replicate, Nat.reduceAdd, Nat.reduceSub, Nat.reduceEqDiff, if_true, if_false, Int.reduceEq, Int.reduceAdd, Int.reduceSub, Int.reduceMul, eq_self, W_empty]
    exact ⟨rfl, app_nil S⟩
  | succ n ih =>
    intro j hn
    rw [show n + 1 + 1 + j = (n + 1 + j) + 1 by omega]
    unfold F__law_beats
    have hne : ¬ ((n + 1 : Nat) : Int) = 0 := by omega
    have hsub : ((n + 1 : Nat) : Int) - 1 = (n : Nat) := by omega
    have h2 : (allB n).length ≤ 1024 := by
      rw [allB_many]
      have : 2 ^ n ≤ 2 ^ 10 := Nat.pow_le_pow_right (by decide) (by omega)
      omega
    have hc : ∀ (c : Bool) (cs : Str) (o2 : Option D), cs = W [cb c] → dFrz (dComp [2] (iVal (dVar 1)) (gVar 2) tYesD (d2 addD (dC (.str cs)) (dVar 2))) [some (.int ((n + 1 : Nat) : Int)), some (.frl ((allB n).map sW)), o2] S = .ok (.frl (((allB n).map (c :: ·)).map sW)) S := by
      intro c cs o2 hcs
      subst hcs
      rw [List.map_map]
      refine compM (allB n) sW _ ?_ (szn (by omega)) ?_ ?_
      · simp only [z6, z5, wq_a, wq_b, wq_c, wq_d, wq_e, wq_f, wq_g, Int.reduceToNat, Int.reduceLE, Int.reduceLT, Int.reduceNeg, startD, List.replicate, Nat.reduceAdd, Nat.reduceSub, Nat.reduceEqDiff, if_true, if_false, Int.reduceEq, Int.reduceAdd, Int.reduceSub, Int.reduceMul, eq_self, itemsD]
        exact ⟨trivial, trivial, fun _ _ => rfl⟩
      · intro b hb S' _
        simp only [z6, z5, wq_a, wq_b, wq_c, wq_d, wq_e, wq_f, wq_g, Int.reduceToNat, Int.reduceLE, Int.reduceLT, Int.reduceNeg, startD, List.replicate, Nat.reduceAdd, Nat.reduceSub, Nat.reduceEqDiff, if_true, if_false, Int.reduceEq, Int.reduceAdd, Int.reduceSub, Int.reduceMul, eq_self, wipeD, sW]
        refine ⟨trivial, ?_⟩
        rw [w_addS (by rw [W_len, W_len, wB_len, allB_len n b hb]; exact szn (by simp; omega)), W_app]
        exact ⟨rfl, rfl⟩
      · intro b _; rfl
    refine fn_ok (gd_blw (n := 1) _ (gd_frl (gd_map fun b _ => gd_W (wB_ok b)))) ?_
    unfold b__law_beats
    simp only [z6, z5, wq_a, wq_b, wq_c, wq_d, wq_e, wq_f, wq_g, Int.reduceToNat, Int.reduceLE, Int.reduceLT, Int.reduceNeg, startD, List.replicate, Nat.reduceAdd, Nat.reduceSub, Nat.reduceEqDiff, if_true, if_false, Int.reduceEq, Int.reduceAdd, Int.reduceSub, Int.reduceMul, eq_self, hne, hsub, ih j (by omega), hc false _ _ W_0, hc true _ _ W_1, List.length_map]
    rw [w_ite (szn (by omega))]
    simp only [z6, z5, wq_a, wq_b, wq_c, wq_d, wq_e, wq_f, wq_g, Int.reduceToNat, Int.reduceLE, Int.reduceLT, Int.reduceNeg, startD, List.replicate, Nat.reduceAdd, Nat.reduceSub, Nat.reduceEqDiff, if_true, if_false, Int.reduceEq, Int.reduceAdd, Int.reduceSub, Int.reduceMul, eq_self]
    refine ⟨?_, app_nil S⟩
    simp [allB]

theorem has_btF {b : Bt} {bs : List Bt} {S : Sto} : hasD (sW b) (.frl (bs.map sW)) S = some (decide (b ∈ bs)) := by
  have := has_frl (x := sW b) (ds := bs.map sW) (S := S) (n := 0) (m := 0) (gd_W (wB_ok b)) sW_gd0
  rw [this, decide_eq_decide.mpr in_sW]
theorem w_mulF {xs : List D} {n : Nat} {S : Sto} {Q : D → Sto → Prop} {X : Exc → Sto → Prop} (hn : n ≤ 100) (hx : xs.length ≤ 1000) : Wp (mulF (.frl xs) (.int ((n : Nat) : Int)) S) Q X = Q (.frl (List.replicate n xs).flatten) S := by
  simp only [mulF, lsD]
  rw [w_ite ⟨mul_okI (by omega) (by omega), szn (by
    rw [Int.toNat_natCast]
    have := Nat.mul_le_mul hx hn
    omega)⟩, Int.toNat_natCast, w_ok]
end Lw

namespace Lw
open PySem PySem.Spec PyProof.Rows L2 DL
theorem fsF_le {ps : List Pk} : ∀ (n : Nat) (rest : List Bt), (fsF ps n rest).length ≤ n
  | 0, _ => Nat.le_refl _
  | n + 1, rest => by
    unfold fsF
    split
    · simp
    · split
      · have := fsF_le (ps := ps) n
        simp [this]
      · simp

structure KL (ps : List Pk) (base : List Bt) (kn : List (List Bt × D)) : Prop where
  val : ∀ p ∈ kn, p.2 = .int ((mn ps p.1 : Nat) : Int) ∧ p.1.Sublist base
  nd : (kn.map (·.1)).Nodup
theorem KL.few {ps : List Pk} {base : List Bt} {kn : List (List Bt × D)} (h : KL ps base kn) (hb : base.length ≤ 16) : kn.length ≤ 65536 := by
  have h1 := sub_few h.nd (r := subs base) fun x hx => by
    obtain ⟨p, hp, rfl⟩ := List.mem_map.mp hx
    exact subs_of (h.val p hp).2
  rw [List.length_map, subs_len] at h1
  have : 2 ^ base.length ≤ 2 ^ 16 := Nat.pow_le_pow_right (by decide) hb
  omega
theorem KL.get {ps : List Pk} {base : List Bt} {kn : List (List Bt × D)} (h : KL ps base kn) {r : List Bt} (hr : r ∈ kn.map (·.1)) : getE kn r = some (.int ((mn ps r : Nat) : Int)) := by
  unfold getE
  cases e : kn.find? fun p => decide (p.1 = r) with
  | none =>
    obtain ⟨p, hp, rfl⟩ := List.mem_map.mp hr
    have := List.find?_eq_none.mp e p hp
    simp at this
  | some p =>
    have h1 := List.find?_some e
    have h2 := List.mem_of_find?_eq_some e
    have h3 := of_decide_eq_true h1
    show some p.2 = _
    rw [(h.val p h2).1, h3]
theorem KL.blw {ps : List Pk} {base : List Bt} {kn : List (List Bt × D)} {n : Nat} (h : KL ps base kn) : (DO.dic 2 (kvE rsD kn)).blw n = true := by
  show ((kn.map fun p => (rsD p.1, p.2)).all fun p => p.2.blw n) = true
  rw [List.all_eq_true]
  intro p hp
  obtain ⟨q, hq, rfl⟩ := List.mem_map.mp hp
  show q.2.blw n = true
  rw [(h.val q hq).1]
  rfl
theorem KL.put {ps : List Pk} {base : List Bt} {kn : List (List Bt × D)} {r : List Bt} (h : KL ps base kn) (hr : r ∉ kn.map (·.1)) (hs : r.Sublist base) : KL ps base (kn ++ [(r, .int ((mn ps r : Nat) : Int))]) := by
  refine ⟨fun p hp => ?_, ?_⟩
  · rcases List.mem_append.mp hp with z | z
    · exact h.val p z
    · rw [List.mem_singleton] at z
      rw [z]
      exact ⟨rfl, hs⟩
  · rw [List.map_append, List.nodup_append]
    refine ⟨h.nd, by simp, fun x hx y hy e => ?_⟩
    have : y = r := by simpa using hy
    rw [e, this] at hx
    exact hr hx
theorem bts_in {ins : Nat} {m : Mk} {b : Bt} (hb : b.length = ins) : b ∈ btsM ins m ↔ ft m b = true := by
  unfold btsM
  rw [List.mem_filter]
  subst hb
  exact ⟨fun h => h.2, fun h => ⟨allB_mem b, h⟩⟩
theorem lft_bts {ins : Nat} {m : Mk} {rest : List Bt} (h : ∀ b ∈ rest, b.length = ins) : lft rest (btsM ins m) = rest.filter fun b => !ft m b := by
  unfold lft
  refine List.filter_congr fun b hb => ?_
  congr 1
  by_cases e : b ∈ btsM ins m
  · rw [decide_eq_true e, (bts_in (h b hb)).mp e]
  · rw [decide_eq_false e]
    cases hf : ft m b with
    | false => rfl
    | true => exact absurd ((bts_in (h b hb)).mpr hf) e
theorem mn_lt {ps : List Pk} {rest : List Bt} (hc : Cov ps rest) : mn ps rest ≤ rest.length := by
  obtain ⟨_, _, h⟩ := fs_ok hc
  rw [← h]
  exact fsF_le _ _
def sg3 : List (Option Bool) := [none, some false, some true]
def allL : Nat → List Mk
  | 0 => [[]]
  | n + 1 => sg3.flatMap fun o => (allL n).map (o :: ·)
theorem allL_eq {n : Nat} (h : n ≤ 4) : allL n = allM n := by
  have : n = 0 ∨ n = 1 ∨ n = 2 ∨ n = 3 ∨ n = 4 := by omega
  rcases this with rfl | rfl | rfl | rfl | rfl <;> decide +kernel
theorem allL_len : ∀ (n : Nat) {m : Mk}, m ∈ allL n → m.length = n
  | 0, m, h => by simp [allL] at h; simp [h]
  | n + 1, m, h => by
    unfold allL at h
    obtain ⟨o, _, h⟩ := List.mem_flatMap.mp h
    obtain ⟨x, hx, rfl⟩ := List.mem_map.mp h
    simp [allL_len n hx]
theorem allL_many : ∀ n : Nat, (allL n).length = 3 ^ n
  | 0 => rfl
  | n + 1 => by
    have := allL_many n
    unfold allL sg3
    simp only [List.flatMap_cons, List.flatMap_nil, List.length_append, List.length_map, this, Nat.pow_succ, List.length_nil]
    omega
theorem law_marks_ok {S : Sto} : ∀ (n j : Nat), n ≤ 4 → F__law_marks (n + 1 + j) [.int (n : Nat)] S = .ok (.frl ((allL n).map mW)) S := by
  intro n
  induction n with
  | zero =>
    intro j _
    rw [show 0 + 1 + j = j + 1 by omega]
    unfold F__law_marks
    refine fn_ok rfl ?_
    unfold b__law_marks
    simp only [z6, z5, wq_a, wq_b, wq_c, wq_d, wq_e, wq_f, wq_g, Int.reduceToNat, Int.reduceLE, Int.reduceLT, Int.reduceNeg, startD, List.replicate, Nat.reduceAdd, Nat.reduceSub, Nat.reduceEqDiff, if_true, if_false, Int.reduceEq, Int.reduceAdd, Int.reduceSub, Int.reduceMul, eq_self, W_empty]
    exact ⟨rfl, app_nil S⟩
  | succ n ih =>
    intro j hn
    rw [show n + 1 + 1 + j = (n + 1 + j) + 1 by omega]
    unfold F__law_marks
    have hne : ¬ ((n + 1 : Nat) : Int) = 0 := by omega
    have hsub : ((n + 1 : Nat) : Int) - 1 = (n : Nat) := by omega
    have h2 : (allL n).length ≤ 81 := by
      rw [allL_many]
      exact Nat.pow_le_pow_right (n := 3) (j := 4) (by decide) (by omega)
    have hc : ∀ (o : Option Bool) (a0 a2 a4 : Option D), dFrz (dComp [4] (iVal (dVar 1)) (gVar 4) tYesD (d2 addD (dVar 3) (dVar 4))) [a0, some (.frl ((allL n).map mW)), a2, some (.str (W [cM o])), a4] S = .ok (.frl (((allL n).map (o :: ·)).map mW)) S := by
      intro o a0 a2 a4
      rw [List.map_map]
      refine compM (allL n) mW _ ?_ (szn (by omega)) ?_ ?_
      · simp only [z6, z5, wq_a, wq_b, wq_c, wq_d, wq_e, wq_f, wq_g, Int.reduceToNat, Int.reduceLE, Int.reduceLT, Int.reduceNeg, startD, List.replicate, Nat.reduceAdd, Nat.reduceSub, Nat.reduceEqDiff, if_true, if_false, Int.reduceEq, Int.reduceAdd, Int.reduceSub, Int.reduceMul, eq_self, itemsD]
        exact ⟨trivial, trivial, fun _ _ => rfl⟩
      · intro m hm S' _
        have hml := allL_len n hm
        simp only [z6, z5, wq_a, wq_b, wq_c, wq_d, wq_e, wq_f, wq_g, Int.reduceToNat, Int.reduceLE, Int.reduceLT, Int.reduceNeg, startD, List.replicate, Nat.reduceAdd, Nat.reduceSub, Nat.reduceEqDiff, if_true, if_false, Int.reduceEq, Int.reduceAdd, Int.reduceSub, Int.reduceMul, eq_self, wipeD, mW]
        refine ⟨trivial, ?_⟩
        rw [w_addSW (by rw [wM_len, hml]; simp; omega)]
        exact ⟨rfl, rfl⟩
      · intro m _; rfl
    refine fn_ok (gd_blw (n := 1) _ (gd_frl mW_gds)) ?_
    unfold b__law_marks
    have ei : signsD (W [45, 48, 49]) = sg3.map fun o => D.str (W [cM o]) := rfl
    simp only [wq_a, wq_b, wq_c, wq_d, wq_e, wq_f, wq_g, Int.reduceToNat, Int.reduceLE, Int.reduceLT, Int.reduceNeg, startD, List.replicate, Nat.reduceAdd, Nat.reduceSub, Nat.reduceEqDiff, if_true, if_false, Int.reduceEq, Int.reduceAdd, Int.reduceSub, Int.reduceMul, eq_self, hne, hsub, ih j (by omega), W_d01, itemsD, ei]
    refine w_loopP (fun o => D.str (W [cM o])) (fun pre sd S' => S' = S ∧ ∃ a3 a4, sd = [some (.int ((n + 1 : Nat) : Int)), some (.frl ((allL n).map mW)), some (.frl ((pre.flatMap fun o => (allL n).map (o :: ·)).map mW)), a3, a4]) sg3 (fun _ _ _ _ _ _ => rfl) ⟨rfl, _, _, rfl⟩ ?_ ?_
    · rintro sd S' ⟨rfl, a3, a4, rfl⟩
      simp only [wq_a, wq_b, wq_c, wq_d, wq_e, wq_f, wq_g, Int.reduceToNat, Int.reduceLE, Int.reduceLT, Int.reduceNeg, startD, List.replicate, Nat.reduceAdd, Nat.reduceSub, Nat.reduceEqDiff, if_true, if_false, Int.reduceEq, Int.reduceAdd, Int.reduceSub, Int.reduceMul, eq_self]
      exact ⟨rfl, app_nil S'⟩
    · rintro pre o post sd S' epp ⟨rfl, a3, a4, rfl⟩
      have hpl : (pre.flatMap fun o => (allL n).map (o :: ·)).length ≤ 243 := by
        have h3 : pre.length ≤ 3 := by
          have := congrArg List.length epp
          simp [sg3] at this
          omega
        have := flat_le (l := pre) (f := fun o => (allL n).map (o :: ·)) (n := 81) fun o _ => by rw [List.length_map]; exact h2
        have := Nat.mul_le_mul_left 81 h3
        omega
      simp only [wq_a, wq_b, wq_c, wq_d, wq_e, wq_f, wq_g, Int.reduceToNat, Int.reduceLE, Int.reduceLT, Int.reduceNeg, startD, List.replicate, Nat.reduceAdd, Nat.reduceSub, Nat.reduceEqDiff, if_true, if_false, Int.reduceEq, Int.reduceAdd, Int.reduceSub, Int.reduceMul, eq_self, hc]
      rw [w_ite (szn (by rw [List.length_map, List.length_map, List.length_map]; omega))]
      simp only [wq_a, wq_b, wq_c, wq_d, wq_e, wq_f, wq_g, Int.reduceToNat, Int.reduceLE, Int.reduceLT, Int.reduceNeg, startD, List.replicate, Nat.reduceAdd, Nat.reduceSub, Nat.reduceEqDiff, if_true, if_false, Int.reduceEq, Int.reduceAdd, Int.reduceSub, Int.reduceMul, eq_self]
      refine ⟨trivial, some (.str (W [cM o])), a4, ?_⟩
      rw [List.flatMap_append, List.flatMap_cons, List.flatMap_nil, List.append_nil, List.map_append]
theorem wider_le : ∀ (g q : Mk), g.length = q.length → (∀ b : Bt, b.length = g.length → ft g b = true → ft q b = true) → wM q = wM g ∨ wM q < wM g
  | [], [], _, _ => .inl rfl
  | [], _ :: _, h, _ => by simp at h
  | _ :: _, [], h, _ => by simp at h
  | x :: g, y :: q, h, hf => by
    have hl : g.length = q.length := by simpa using h
    have fc : ∀ (z : Option Bool) (m : Mk) (c : Bool) (b : Bt), ft (z :: m) (c :: b) = ((z == none || z == some c) && ft m b) := fun z m c b => by
      have : ∀ k, fk (z :: m) (c :: b) (k + 1) = fk m b k := fun k => by unfold fk; rfl
      have h0 : fk (z :: m) (c :: b) 0 = (z == none || z == some c) := by cases z <;> cases c <;> first | rfl | (rename_i v; cases v <;> rfl)
      unfold ft
      rw [List.length_cons, List.range_succ_eq_map, List.all_cons, h0, List.all_map]
      rfl
    have ih := wider_le g q hl fun b hb hg => by
      have := hf ((x.getD false) :: b) (by simp [hb]) (by rw [fc, hg]; cases x <;> simp)
      rw [fc, Bool.and_eq_true] at this
      exact this.2
    have hy : y = none ∨ y = x := by
      cases y with
      | none => exact .inl rfl
      | some v =>
        right
        have self : ft g (g.map fun o => o.getD false) = true := by
          rw [ft_iff]
          intro k hk
          unfold fk
          rw [List.getD_eq_getElem?_getD, List.getD_eq_getElem?_getD, List.getElem?_map, List.getElem?_eq_getElem hk]
          cases g[k] with
          | none => rfl
          | some b => cases b <;> rfl
        have := hf ((x.getD (!v)) :: g.map fun o => o.getD false) (by simp) (by rw [fc, self]; cases x <;> simp)
        rw [fc, Bool.and_eq_true] at this
        have h1 := this.1
        cases x with
        | none => simp at h1
        | some u => simp at h1; simp [h1]
    have e : ∀ (z : Option Bool) (m : Mk), wM (z :: m) = cM z :: wM m := fun z m => by simp [wM]
    rw [e, e]
    rcases hy with rfl | rfl
    · by_cases hx : x = none
      · subst hx
        rcases ih with ih | ih
        · exact .inl (by rw [ih])
        · exact .inr (List.cons_lt_cons_iff.mpr (.inr ⟨rfl, ih⟩))
      · refine .inr (List.cons_lt_cons_iff.mpr (.inl ?_))
        cases x with
        | none => exact absurd rfl hx
        | some v => cases v <;> decide
    · rcases ih with ih | ih
      · exact .inl (by rw [ih])
      · exact .inr (List.cons_lt_cons_iff.mpr (.inr ⟨rfl, ih⟩))
def lsM (g : Mk) (R : List Bt) : List Bt := R.filter fun b => !ft g b
def cvg (rec : List Mk → List Bt → Option (List Mk)) (m : Nat) (R : List Bt) : List Mk → Option (List Mk)
  | [] => none
  | g :: G => if (lsM g R).length < R.length ∧ (lsM g R).length ≤ R.length * m then (match rec G (lsM g R) with
    | some L => some (g :: L)
    | none => cvg rec m R G) else cvg rec m R G
def cvr : Nat → List Mk → List Bt → Option (List Mk)
  | 0, _, R => if R = [] then some [] else none
  | m + 1, G, R => if R = [] then some [] else cvg (cvr m) m R G
def CovM (L : List Mk) (R : List Bt) : Prop := ∀ b ∈ R, ∃ g ∈ L, ft g b = true
theorem cvg_sound {rec : List Mk → List Bt → Option (List Mk)} {m : Nat} {R : List Bt} (hr : ∀ G l L, rec G l = some L → (∀ g ∈ L, g ∈ G) ∧ L.length ≤ m ∧ CovM L l) : ∀ {G L : List Mk}, cvg rec m R G = some L → (∀ g ∈ L, g ∈ G) ∧ L.length ≤ m + 1 ∧ CovM L R
  | [], L, h => by cases h
  | g :: G, L, h => by
    have back : cvg rec m R G = some L → (∀ g' ∈ L, g' ∈ g :: G) ∧ L.length ≤ m + 1 ∧ CovM L R := fun h => by
      obtain ⟨h1, h2, h3⟩ := cvg_sound hr h
      exact ⟨fun x hx => List.mem_cons_of_mem _ (h1 x hx), h2, h3⟩
    unfold cvg at h
    split at h
    · cases e : rec G (lsM g R) with
      | none =>
        rw [e] at h
        exact back h
      | some L' =>
        rw [e] at h
        cases h
        obtain ⟨h1, h2, h3⟩ := hr _ _ _ e
        refine ⟨fun x hx => ?_, by simp; omega, fun b hb => ?_⟩
        · rcases List.mem_cons.mp hx with rfl | hx
          · exact List.mem_cons_self
          · exact List.mem_cons_of_mem _ (h1 x hx)
        · cases hf : ft g b with
          | true => exact ⟨g, List.mem_cons_self, hf⟩
          | false =>
            obtain ⟨x, hx, hxb⟩ := h3 b (List.mem_filter.mpr ⟨hb, by rw [hf]; rfl⟩)
            exact ⟨x, List.mem_cons_of_mem _ hx, hxb⟩
    · exact back h
theorem cvr_sound : ∀ {m : Nat} {G : List Mk} {R : List Bt} {L : List Mk}, cvr m G R = some L → (∀ g ∈ L, g ∈ G) ∧ L.length ≤ m ∧ CovM L R
  | 0, G, R, L, h => by
    unfold cvr at h
    split at h
    · rename_i e
      cases h
      exact ⟨fun x hx => (by cases hx), Nat.le_refl _, fun b hb => (by rw [e] at hb; cases hb)⟩
    · cases h
  | m + 1, G, R, L, h => by
    unfold cvr at h
    split at h
    · rename_i e
      cases h
      exact ⟨fun x hx => (by cases hx), Nat.zero_le _, fun b hb => (by rw [e] at hb; cases hb)⟩
    · exact cvg_sound (fun G l L h => cvr_sound h) h
theorem mn_good {ins : Nat} {s R : List Bt} {L : List Mk} (hR : ∀ b ∈ R, b.length = ins) (hg : ∀ g ∈ L, g ∈ goodM ins s) (hc : CovM L R) : mn (mks ins s) R ≤ L.length := by
  have ex : ∀ L : List Mk, (∀ g ∈ L, g ∈ goodM ins s) → ∃ cs : List Pk, cs.length = L.length ∧ (∀ q ∈ cs, q ∈ mks ins s) ∧ ∀ g ∈ L, ∃ q ∈ cs, ∀ b, b ∈ btsM ins g → b ∈ q.2 := fun L => by
    induction L with
    | nil => exact fun _ => ⟨[], rfl, fun q hq => (by cases hq), fun g hg => (by cases hg)⟩
    | cons g L ih =>
      intro h
      obtain ⟨cs, h1, h2, h3⟩ := ih fun x hx => h x (List.mem_cons_of_mem _ hx)
      obtain ⟨q, hq, hb⟩ := prime_ex (nfx g) (Nat.le_refl _) (h g List.mem_cons_self)
      refine ⟨q :: cs, by simp [h1], fun x hx => ?_, fun x hx => ?_⟩
      · rcases List.mem_cons.mp hx with rfl | hx
        · exact hq
        · exact h2 x hx
      · rcases List.mem_cons.mp hx with rfl | hx
        · exact ⟨q, List.mem_cons_self, hb⟩
        · obtain ⟨p, hp, hpb⟩ := h3 x hx
          exact ⟨p, List.mem_cons_of_mem _ hp, hpb⟩
  obtain ⟨cs, h1, h2, h3⟩ := ex L hg
  rw [← h1]
  refine mn_le R.length (Nat.le_refl _) h2 fun b hb => ?_
  obtain ⟨g, hgL, hf⟩ := hc b hb
  obtain ⟨q, hq, hqb⟩ := h3 g hgL
  exact ⟨q, hq, hqb b ((bts_in (hR b hb)).mpr hf)⟩
theorem good_rise {ins : Nat} {s : List Bt} : (goodM ins s).Pairwise fun a b => wM a < wM b := (allM_rise ins).filter _
theorem cvr_fs {ins : Nat} {s : List Bt} : ∀ (m : Nat) {pre G : List Mk} {R : List Bt}, (∀ b ∈ R, b.length = ins) → goodM ins s = pre ++ G → Cov (mks ins s) R → mn (mks ins s) R = m → (∀ q ∈ fs (mks ins s) R, q.1 ∈ G) → cvr m G R = some ((fs (mks ins s) R).map (·.1))
  | 0, pre, G, R, hR, eG, hc, hm, hq => by
    cases R with
    | nil => rfl
    | cons b r => rw [mn_cons] at hm; omega
  | m + 1, pre, G, R, hR, eG, hc, hm, hq => by
    have hne : R ≠ [] := by
      rintro rfl
      rw [mn_nil] at hm
      cases hm
    obtain ⟨q, hf, hqm, hlt, hmn⟩ := okP_some hne hc
    have estep := fs_step hne hf
    obtain ⟨hqg, hq2⟩ := mks_in hqm
    have hrise : (fs (mks ins s) R).Pairwise fun p q => wM p.1 < wM q.1 := fs_pair mks_rise R.length (Nat.le_refl _) hc
    rw [estep, List.pairwise_cons] at hrise
    have el : lft R q.2 = lsM q.1 R := by rw [hq2, lft_bts hR]; rfl
    have hq1G : q.1 ∈ G := hq q (by rw [estep]; exact List.mem_cons_self)
    have hrestG : ∀ x ∈ fs (mks ins s) (lft R q.2), x.1 ∈ G ∧ wM q.1 < wM x.1 := fun x hx => ⟨hq x (by rw [estep]; exact List.mem_cons_of_mem _ hx), hrise.1 x hx⟩
    have hmn' : mn (mks ins s) (lft R q.2) = m := by omega
    unfold cvr
    rw [if_neg hne, estep]
    have key : ∀ (G : List Mk) (pre : List Mk), goodM ins s = pre ++ G → q.1 ∈ G → (∀ x ∈ fs (mks ins s) (lft R q.2), x.1 ∈ G ∧ wM q.1 < wM x.1) → cvg (cvr m) m R G = some ((q :: fs (mks ins s) (lft R q.2)).map (·.1)) := by
      intro G
      induction G with
      | nil => intro _ _ h; cases h
      | cons g G ihG =>
        intro pre eG hqG hrest
        by_cases hgq : g = q.1
        · subst hgq
          have hle : (lsM q.1 R).length ≤ R.length * m := by
            cases m with
            | zero =>
              rw [← el]
              cases e : lft R q.2 with
              | nil => exact Nat.zero_le _
              | cons b r => rw [e, mn_cons] at hmn'; omega
            | succ k =>
              exact Nat.le_trans (List.length_filter_le _ _) (Nat.le_mul_of_pos_right R.length (Nat.succ_pos k))
          unfold cvg
          rw [if_pos ⟨by rw [← el]; exact hlt, hle⟩, ← el]
          have hx : ∀ x ∈ fs (mks ins s) (lft R q.2), x.1 ∈ G := fun x hx => by
            obtain ⟨h1, h2⟩ := hrest x hx
            rcases List.mem_cons.mp h1 with e | h
            · rw [e] at h2
              exact absurd h2 (List.lt_irrefl _)
            · exact h
          rw [cvr_fs m (pre := pre ++ [q.1]) (G := G) (fun b hb => hR b (lft_mem.mp hb).1) (by rw [eG]; simp) hc.lft hmn' hx]
          rfl
        · have hqG' : q.1 ∈ G := by
            rcases List.mem_cons.mp hqG with e | h
            · exact absurd e.symm hgq
            · exact h
          have hgg : g ∈ goodM ins s := by rw [eG]; simp
          have hglt : wM g < wM q.1 := by
            have := good_rise (ins := ins) (s := s)
            rw [eG, List.pairwise_append] at this
            exact (List.pairwise_cons.mp this.2.1).1 _ hqG'
          have hrest' : ∀ x ∈ fs (mks ins s) (lft R q.2), x.1 ∈ G ∧ wM q.1 < wM x.1 := fun x hx => by
            obtain ⟨h1, h2⟩ := hrest x hx
            refine ⟨?_, h2⟩
            rcases List.mem_cons.mp h1 with e | h
            · rw [e] at h2
              exact absurd (List.lt_trans hglt h2) (List.lt_irrefl _)
            · exact h
          have hgo := ihG (pre ++ [g]) (by rw [eG]; simp) hqG' hrest'
          unfold cvg
          split
          · rename_i hcond
            cases e : cvr m G (lsM g R) with
            | none => exact hgo
            | some L =>
              exfalso
              obtain ⟨l1, l2, l3⟩ := cvr_sound e
              obtain ⟨p, hp, hpb⟩ := prime_ex (nfx g) (Nat.le_refl _) hgg
              obtain ⟨hpg, hp2⟩ := mks_in hp
              have hgl := (good_iff.mp hgg).1
              have hpl := (good_iff.mp hpg).1
              have hw : wM p.1 = wM g ∨ wM p.1 < wM g := wider_le g p.1 (by rw [hgl, hpl]) fun b hb hf => by
                have := hpb b ((bts_in (by rw [hb, hgl])).mpr hf)
                rw [hp2] at this
                exact (bts_in (by rw [hb, hgl])).mp this
              have sub : ∀ b ∈ lft R p.2, b ∈ lsM g R := fun b hb => by
                obtain ⟨b1, b2⟩ := lft_mem.mp hb
                refine List.mem_filter.mpr ⟨b1, ?_⟩
                cases hf : ft g b with
                | false => rfl
                | true => exact absurd (hpb b ((bts_in (hR b b1)).mpr hf)) b2
              have hmp : mn (mks ins s) (lft R p.2) ≤ m := Nat.le_trans (mn_good (L := L) (fun b hb => hR b (lft_mem.mp hb).1) (fun x hx => by rw [eG]; simp [l1 x hx]) fun b hb => l3 b (sub b hb)) l2
              obtain ⟨ds, d1, d2, d3⟩ := mn_ex (hc.lft (bs := p.2))
              have hall : ∀ x ∈ p :: ds, x ∈ mks ins s := fun x hx => by
                rcases List.mem_cons.mp hx with rfl | hx
                · exact hp
                · exact d1 x hx
              have hge := mn_le R.length (Nat.le_refl _) hall (cov_cons d2)
              have hokp : okP (mks ins s) R p = true := mem_ok (cs := p :: ds) hall (cov_cons d2) (by simp only [List.length_cons] at hge ⊢; omega) List.mem_cons_self
              rcases find_before mks_rise hf hp hokp with e | h
              · rw [e] at hw
                rcases hw with hw | hw
                · rw [hw] at hglt; exact absurd hglt (List.lt_irrefl _)
                · exact absurd (List.lt_trans hglt hw) (List.lt_irrefl _)
              · have h2 := List.lt_trans hglt h
                rcases hw with hw | hw
                · rw [hw] at h2; exact absurd h2 (List.lt_irrefl _)
                · exact absurd (List.lt_trans h2 hw) (List.lt_irrefl _)
          · exact hgo
    exact key G pre eG hq1G hrestG
theorem cvr_few {ins : Nat} {s R : List Bt} {G : List Mk} {m : Nat} (hR : ∀ b ∈ R, b.length = ins) (hG : ∀ g ∈ G, g ∈ goodM ins s) (h : m < mn (mks ins s) R) : cvr m G R = none := by
  cases e : cvr m G R with
  | none => rfl
  | some L =>
    obtain ⟨h1, h2, h3⟩ := cvr_sound e
    have := mn_good hR (fun g hg => hG g (h1 g hg)) h3
    omega
def cvD : Option (List Mk) → D
  | none => .non
  | some L => .frl (L.map mW)

end Lw

namespace Lw
open PySem PySem.Spec PyProof.Rows L2 DL
theorem slF {ds : List D} {k : Nat} {S : Sto} {Q : D → Sto → Prop} {X : Exc → Sto → Prop} : Wp (sliceF (.frl ds) (some ((k : Nat) : Int)) none S) Q X = Q (.frl (ds.drop k)) S := by
  have e : sliceF (.frl ds) (some ((k : Nat) : Int)) none S = .ok (.frl (cutL ds (some ((k : Nat) : Int)) none)) S := rfl
  rw [e, cut_drop]
  rfl
theorem eqNW {R : List Bt} {S : Sto} {Q : D → Sto → Prop} {X : Exc → Sto → Prop} : Wp (eqD (.frl (R.map sW)) (.frl []) S) Q X = Q (.bl (decide (R = []))) S := by
  rw [w_eqG (n := 1) (m := 1) (gd_frl sW_gd0) (gd_frl (n := 0) fun d hd => by cases hd)]
  congr 2
  rw [decide_eq_decide]
  cases R <;> simp
theorem cvg_cons {rec : List Mk → List Bt → Option (List Mk)} {m : Nat} {R : List Bt} {g : Mk} {G : List Mk} : cvg rec m R (g :: G) = if (lsM g R).length < R.length ∧ (lsM g R).length ≤ R.length * m then (match rec G (lsM g R) with
    | some L => some (g :: L)
    | none => cvg rec m R G) else cvg rec m R G := rfl
theorem cvD_gd (o : Option (List Mk)) : ∀ n, (cvD o).blw n = true := fun n => by
  cases o with
  | none => rfl
  | some L => exact gd_blw (n := 1) _ (gd_frl mW_gds)
theorem cvD_none {o : Option (List Mk)} : decide (cvD o = .non) = decide (o = none) := by
  cases o <;> rfl
theorem law_covers_ok {ins : Nat} (i4 : ins ≤ 4) : ∀ (m : Nat) {n : Nat} {G : List Mk} {R : List Bt} {S : Sto}, m < n → m ≤ 16 → G.length ≤ 81 → R.length ≤ 16 → (∀ g ∈ G, g.length = ins) → (∀ b ∈ R, b.length = ins) →
    F__law_covers n [.frl (G.map mW), .frl (R.map sW), .int ((m : Nat) : Int)] S = .ok (cvD (cvr m G R)) S := by
  intro m
  induction m with
  | zero =>
    intro n G R S hn _ hG hR hg hb
    obtain ⟨n, rfl⟩ : ∃ k, n = k + 1 := ⟨n - 1, by omega⟩
    unfold F__law_covers
    refine fn_ok (cvD_gd _ _) ?_
    unfold b__law_covers
    simp only [wq_a, wq_b, wq_c, wq_d, wq_e, wq_f, wq_g, Int.reduceToNat, Int.reduceLE, Int.reduceLT, Int.reduceNeg, startD, List.replicate, Nat.reduceAdd, Nat.reduceSub, Nat.reduceEqDiff, if_true, if_false, Int.reduceEq, Int.reduceAdd, Int.reduceSub, Int.reduceMul, eq_self]
    rw [eqNW]
    by_cases h : R = []
    · simp only [wq_a, wq_b, wq_c, wq_d, wq_e, wq_f, wq_g, Int.reduceToNat, Int.reduceLE, Int.reduceLT, Int.reduceNeg, startD, List.replicate, Nat.reduceAdd, Nat.reduceSub, Nat.reduceEqDiff, if_true, if_false, Int.reduceEq, Int.reduceAdd, Int.reduceSub, Int.reduceMul, eq_self, decide_eq_true h]
      rw [eqNW]
      simp only [wq_a, wq_b, wq_c, wq_d, wq_e, wq_f, wq_g, Int.reduceToNat, Int.reduceLE, Int.reduceLT, Int.reduceNeg, startD, List.replicate, Nat.reduceAdd, Nat.reduceSub, Nat.reduceEqDiff, if_true, if_false, Int.reduceEq, Int.reduceAdd, Int.reduceSub, Int.reduceMul, eq_self, decide_eq_true h]
      rw [h]
      exact ⟨by first | rfl | trivial, app_nil S⟩
    · simp only [wq_a, wq_b, wq_c, wq_d, wq_e, wq_f, wq_g, Int.reduceToNat, Int.reduceLE, Int.reduceLT, Int.reduceNeg, startD, List.replicate, Nat.reduceAdd, Nat.reduceSub, Nat.reduceEqDiff, if_true, if_false, Int.reduceEq, Int.reduceAdd, Int.reduceSub, Int.reduceMul, eq_self, decide_eq_false h, decide_true]
      rw [eqNW]
      simp only [wq_a, wq_b, wq_c, wq_d, wq_e, wq_f, wq_g, Int.reduceToNat, Int.reduceLE, Int.reduceLT, Int.reduceNeg, startD, List.replicate, Nat.reduceAdd, Nat.reduceSub, Nat.reduceEqDiff, if_true, if_false, Int.reduceEq, Int.reduceAdd, Int.reduceSub, Int.reduceMul, eq_self, decide_eq_false h]
      unfold cvr
      rw [if_neg h]
      exact ⟨by first | rfl | trivial, app_nil S⟩
  | succ m ih =>
    intro n G R S hn hm hG hR hg hb
    obtain ⟨n, rfl⟩ : ∃ k, n = k + 1 := ⟨n - 1, by omega⟩
    unfold F__law_covers
    refine fn_ok (cvD_gd _ _) ?_
    unfold b__law_covers
    have hne0 : ¬ ((m + 1 : Nat) : Int) = 0 := by omega
    have hm1 : ((m + 1 : Nat) : Int) - 1 = ((m : Nat) : Int) := by omega
    simp only [wq_a, wq_b, wq_c, wq_d, wq_e, wq_f, wq_g, Int.reduceToNat, Int.reduceLE, Int.reduceLT, Int.reduceNeg, startD, List.replicate, Nat.reduceAdd, Nat.reduceSub, Nat.reduceEqDiff, if_true, if_false, Int.reduceEq, Int.reduceAdd, Int.reduceSub, Int.reduceMul, eq_self]
    rw [eqNW]
    by_cases h : R = []
    · simp only [wq_a, wq_b, wq_c, wq_d, wq_e, wq_f, wq_g, Int.reduceToNat, Int.reduceLE, Int.reduceLT, Int.reduceNeg, startD, List.replicate, Nat.reduceAdd, Nat.reduceSub, Nat.reduceEqDiff, if_true, if_false, Int.reduceEq, Int.reduceAdd, Int.reduceSub, Int.reduceMul, eq_self, decide_eq_true h]
      rw [eqNW]
      simp only [wq_a, wq_b, wq_c, wq_d, wq_e, wq_f, wq_g, Int.reduceToNat, Int.reduceLE, Int.reduceLT, Int.reduceNeg, startD, List.replicate, Nat.reduceAdd, Nat.reduceSub, Nat.reduceEqDiff, if_true, if_false, Int.reduceEq, Int.reduceAdd, Int.reduceSub, Int.reduceMul, eq_self, decide_eq_true h]
      rw [h]
      exact ⟨by first | rfl | trivial, app_nil S⟩
    · have hc : ∀ (k : Nat) (g : Mk) (a4 a5 a6 : Option D), G[k]? = some g → dFrz (dComp [6] (iVal (dVar 1)) (gVar 6) (tNotD (tstB (dCallF 2 F__law_lets (dCons (d2 ixD (dVar 0) (dVar 3)) (dCons (dVar 6) dNil))))) (dVar 6)) [some (.frl (G.map mW)), some (.frl (R.map sW)), some (.int ((m + 1 : Nat) : Int)), some (.int (0 + ((k : Nat) : Int))), a4, a5, a6] S = .ok (.frl ((lsM g R).map sW)) S := by
        intro k g a4 a5 a6 hk
        have hat : atI (G.map mW) (0 + ((k : Nat) : Int)) = some (mW g) := by
          rw [Int.zero_add, atI_pos (by omega)]
          simp [hk]
        refine compF R sW _ sW ?_ (Nat.le_trans (List.length_filter_le _ _) (szn (by omega))) ?_ ?_
        · simp only [wq_a, wq_b, wq_c, wq_d, wq_e, wq_f, wq_g, Int.reduceToNat, Int.reduceLE, Int.reduceLT, Int.reduceNeg, startD, List.replicate, Nat.reduceAdd, Nat.reduceSub, Nat.reduceEqDiff, if_true, if_false, Int.reduceEq, Int.reduceAdd, Int.reduceSub, Int.reduceMul, eq_self, itemsD]
          exact ⟨trivial, trivial, fun _ _ => rfl⟩
        · intro b hbR S' _
          have hbl := hb b hbR
          have hgl := hg g (List.mem_of_getElem? hk)
          have := lets_ok (m := g) (b := b) (S := S') (by omega) (by omega)
          simp only [wq_a, wq_b, wq_c, wq_d, wq_e, wq_f, wq_g, Int.reduceToNat, Int.reduceLE, Int.reduceLT, Int.reduceNeg, startD, List.replicate, Nat.reduceAdd, Nat.reduceSub, Nat.reduceEqDiff, if_true, if_false, Int.reduceEq, Int.reduceAdd, Int.reduceSub, Int.reduceMul, eq_self, wipeD, sW, hat, mW, this]
          exact ⟨by first | rfl | trivial, by first | rfl | trivial, by first | rfl | trivial, fun _ => ⟨by first | rfl | trivial, by first | rfl | trivial⟩⟩
        · intro b _ _; rfl
      simp only [wq_a, wq_b, wq_c, wq_d, wq_e, wq_f, wq_g, Int.reduceToNat, Int.reduceLE, Int.reduceLT, Int.reduceNeg, startD, List.replicate, Nat.reduceAdd, Nat.reduceSub, Nat.reduceEqDiff, if_true, if_false, Int.reduceEq, Int.reduceAdd, Int.reduceSub, Int.reduceMul, eq_self, decide_eq_false h, decide_eq_false hne0, List.length_map]
      rw [w_ite (rng_ok (by omega))]
      simp only [wq_a, wq_b, wq_c, wq_d, wq_e, wq_f, wq_g, Int.reduceToNat, Int.reduceLE, Int.reduceLT, Int.reduceNeg, startD, List.replicate, Nat.reduceAdd, Nat.reduceSub, Nat.reduceEqDiff, if_true, if_false, Int.reduceEq, Int.reduceAdd, Int.reduceSub, Int.reduceMul, eq_self, Int.toNat_natCast]
      have ecv : cvr (m + 1) G R = cvg (cvr m) m R G := by
        show (if R = [] then some [] else cvg (cvr m) m R G) = _
        rw [if_neg h]
      rw [ecv]
      refine w_rangeP (fun i sd S' => S' = S ∧ cvg (cvr m) m R (G.drop i) = cvg (cvr m) m R G ∧ ∃ a3 a4 a5 a6, sd = [some (.frl (G.map mW)), some (.frl (R.map sW)), some (.int ((m + 1 : Nat) : Int)), a3, a4, a5, a6]) 0 G.length (fun _ _ _ _ _ => rfl) ⟨rfl, rfl, _, _, _, _, rfl⟩ ?_ ?_
      · rintro sd S' ⟨rfl, e, a3, a4, a5, a6, rfl⟩
        rw [List.drop_length] at e
        simp only [wq_a, wq_b, wq_c, wq_d, wq_e, wq_f, wq_g, Int.reduceToNat, Int.reduceLE, Int.reduceLT, Int.reduceNeg, startD, List.replicate, Nat.reduceAdd, Nat.reduceSub, Nat.reduceEqDiff, if_true, if_false, Int.reduceEq, Int.reduceAdd, Int.reduceSub, Int.reduceMul, eq_self]
        rw [← e]
        exact ⟨by first | rfl | trivial, app_nil _⟩
      · rintro k sd S' hk ⟨rfl, e, a3, a4, a5, a6, rfl⟩
        have hk2 : G[k]? = some G[k] := List.getElem?_eq_getElem hk
        generalize hgk : G[k] = g at hk2
        have edrop : G.drop k = g :: G.drop (k + 1) := by rw [List.drop_eq_getElem_cons hk, hgk]
        rw [edrop] at e
        have hat : atI (G.map mW) (0 + ((k : Nat) : Int)) = some (mW g) := by
          rw [Int.zero_add, atI_pos (by omega)]
          simp [hk2]
        have hk1 : (0 : Int) + ((k : Nat) : Int) + 1 = ((k + 1 : Nat) : Int) := by omega
        have hll : (lsM g R).length ≤ 16 := Nat.le_trans (List.length_filter_le _ _) hR
        simp only [wq_a, wq_b, wq_c, wq_d, wq_e, wq_f, wq_g, Int.reduceToNat, Int.reduceLE, Int.reduceLT, Int.reduceNeg, startD, List.replicate, Nat.reduceAdd, Nat.reduceSub, Nat.reduceEqDiff, if_true, if_false, Int.reduceEq, Int.reduceAdd, Int.reduceSub, Int.reduceMul, eq_self, hc k g _ _ _ hk2, List.length_map, hm1]
        rw [cvg_cons] at e
        by_cases c1 : (lsM g R).length < R.length
        · have c1' : ((lsM g R).length : Int) < ((R.length : Nat) : Int) := by omega
          simp only [decide_eq_true c1', wq_a, wq_b, wq_c, wq_d, wq_e, wq_f, wq_g, Int.reduceToNat, Int.reduceLE, Int.reduceLT, Int.reduceNeg, startD, List.replicate, Nat.reduceAdd, Nat.reduceSub, Nat.reduceEqDiff, if_true, if_false, Int.reduceEq, Int.reduceAdd, Int.reduceSub, Int.reduceMul, eq_self]
          rw [w_mulI (mul_r (mul_okI (by omega) (by omega)))]
          by_cases c2 : (lsM g R).length ≤ R.length * m
          · have c2' : ((lsM g R).length : Int) ≤ ((R.length : Nat) : Int) * ((m : Nat) : Int) := by
              rw [← Int.natCast_mul]
              omega
            rw [if_pos ⟨c1, c2⟩] at e
            simp only [List.length_map, hm1, decide_eq_true c2', wq_a, wq_b, wq_c, wq_d, wq_e, wq_f, wq_g, Int.reduceToNat, Int.reduceLE, Int.reduceLT, Int.reduceNeg, startD, List.replicate, Nat.reduceAdd, Nat.reduceSub, Nat.reduceEqDiff, if_true, if_false, Int.reduceEq, Int.reduceAdd, Int.reduceSub, Int.reduceMul, eq_self, hk1, slF]
            rw [← List.map_drop, ih (n := n) (by omega) (by omega) (by simp; omega) hll (fun x hx => hg x (List.mem_of_mem_drop hx)) fun b hbR => hb b (List.mem_filter.mp hbR).1]
            simp only [wq_a, wq_b, wq_c, wq_d, wq_e, wq_f, wq_g, Int.reduceToNat, Int.reduceLE, Int.reduceLT, Int.reduceNeg, startD, List.replicate, Nat.reduceAdd, Nat.reduceSub, Nat.reduceEqDiff, if_true, if_false, Int.reduceEq, Int.reduceAdd, Int.reduceSub, Int.reduceMul, eq_self, w_isNotN, cvD_none]
            cases ec : cvr m (G.drop (k + 1)) (lsM g R) with
            | none =>
              rw [ec] at e
              simp only [wq_a, wq_b, wq_c, wq_d, wq_e, wq_f, wq_g, Int.reduceToNat, Int.reduceLE, Int.reduceLT, Int.reduceNeg, startD, List.replicate, Nat.reduceAdd, Nat.reduceSub, Nat.reduceEqDiff, if_true, if_false, Int.reduceEq, Int.reduceAdd, Int.reduceSub, Int.reduceMul, eq_self, decide_true, Bool.not_true]
              exact ⟨by first | rfl | trivial, e, _, _, _, _, rfl⟩
            | some L =>
              rw [ec] at e
              have hL : L.length ≤ 16 := by have := (cvr_sound ec).2.1; omega
              have e2 : cvg (cvr m) m R G = some (g :: L) := e.symm
              simp only [wq_a, wq_b, wq_c, wq_d, wq_e, wq_f, wq_g, Int.reduceToNat, Int.reduceLE, Int.reduceLT, Int.reduceNeg, startD, List.replicate, Nat.reduceAdd, Nat.reduceSub, Nat.reduceEqDiff, if_true, if_false, Int.reduceEq, Int.reduceAdd, Int.reduceSub, Int.reduceMul, eq_self, reduceCtorEq, decide_false, Bool.not_false, hat, cvD]
              rw [w_ite (szn (by simp; omega))]
              simp only [wq_a, wq_b, wq_c, wq_d, wq_e, wq_f, wq_g, Int.reduceToNat, Int.reduceLE, Int.reduceLT, Int.reduceNeg, startD, List.replicate, Nat.reduceAdd, Nat.reduceSub, Nat.reduceEqDiff, if_true, if_false, Int.reduceEq, Int.reduceAdd, Int.reduceSub, Int.reduceMul, eq_self, e2]
              exact ⟨by first | rfl | trivial, app_nil _⟩
          · have c2' : ¬ ((lsM g R).length : Int) ≤ ((R.length : Nat) : Int) * ((m : Nat) : Int) := by
              rw [← Int.natCast_mul]
              omega
            rw [if_neg fun z => c2 z.2] at e
            simp only [List.length_map, hm1, decide_eq_false c2', wq_a, wq_b, wq_c, wq_d, wq_e, wq_f, wq_g, Int.reduceToNat, Int.reduceLE, Int.reduceLT, Int.reduceNeg, startD, List.replicate, Nat.reduceAdd, Nat.reduceSub, Nat.reduceEqDiff, if_true, if_false, Int.reduceEq, Int.reduceAdd, Int.reduceSub, Int.reduceMul, eq_self]
            exact ⟨by first | rfl | trivial, e, _, _, _, _, rfl⟩
        · have c1' : ¬ ((lsM g R).length : Int) < ((R.length : Nat) : Int) := by omega
          rw [if_neg fun z => c1 z.1] at e
          simp only [decide_eq_false c1', wq_a, wq_b, wq_c, wq_d, wq_e, wq_f, wq_g, Int.reduceToNat, Int.reduceLE, Int.reduceLT, Int.reduceNeg, startD, List.replicate, Nat.reduceAdd, Nat.reduceSub, Nat.reduceEqDiff, if_true, if_false, Int.reduceEq, Int.reduceAdd, Int.reduceSub, Int.reduceMul, eq_self]
          exact ⟨by first | rfl | trivial, e, _, _, _, _, rfl⟩

end Lw

namespace Lw
open PySem PySem.Spec PyProof.Rows L2 DL
theorem compGS {l : Nat} {vs : List Nat} {fi : Sl → Sto → Res ItD} {ga : D → Sl → Sto → Res Sl} {ft : Sl → Sto → Res Bool} {fe : Sl → Sto → Res D} {sd : Sl} {S : Sto} {Q : D → Sto → Prop} {X : Exc → Sto → Prop} (hlt : l < S.length)
    (hi : Wp (fi sd S) (fun it S1 => Dr l S S1 ∧ it.items.length ≤ sizeLine ∧ (∀ S', it.chk S' = true) ∧
      (∀ x ∈ it.items, ∀ S' T, Dr l S S' → Wp (ga x (wipeD sd vs) (S' ++ T)) (fun sd1 S2 => S2 = S' ++ T ∧ Wp (ft sd1 (S' ++ T)) (fun b S3 => ∃ S5, S3 = S5 ++ T ∧ Dr l S' S5 ∧ (b = true → Wp (fe sd1 (S5 ++ T)) (fun y S4 => S4 = S5 ++ T ∧ y = x) NX)) NX) NX) ∧
      (∀ y ∈ it.items, y.blw S.length = true) ∧ ∀ ys S', Dr l S S' → ys.Sublist it.items → Q (.frl ys) S') NX) : Wp (dFrz (dComp vs fi ga ft fe) sd S) Q X := by
  obtain ⟨it, S1, e1, d1, hl, hc, hx, hb, hq⟩ := ok_of_wp hi
  have key : ∀ (ys : List D) (acc : List D) (S2 : Sto), (∀ a ∈ ys, a ∈ it.items) → acc.length + ys.length ≤ it.items.length → Dr l S S2 → ∃ zs S3, compD it.chk ga ft fe S1.length (wipeD sd vs) ys (S2 ++ [.lst acc]) = .ok () (S3 ++ [.lst (acc ++ zs)]) ∧ Dr l S S3 ∧ zs.Sublist ys := by
    intro ys
    induction ys with
    | nil =>
      intro acc S2 _ hlen hd
      refine ⟨[], S2, ?_, hd, List.Sublist.refl _⟩
      show (if it.chk (S2 ++ [.lst acc]) = true then Res.ok () (S2 ++ [.lst acc]) else .stuck) = _
      rw [if_pos (hc _), List.append_nil]
    | cons a ys ih =>
      intro acc S2 hm hlen hd
      have hlen' : acc.length + 1 + ys.length ≤ it.items.length := by simp at hlen; omega
      obtain ⟨sd1, S3, g1, rfl, h2⟩ := ok_of_wp (hx a (hm a (by simp)) S2 [.lst acc] hd)
      obtain ⟨b, S4, g2, S5, rfl, d5, h3⟩ := ok_of_wp h2
      have hS : S5.length = S1.length := by rw [(hd.trans d5).len, d1.len]
      unfold compD
      rw [if_pos (hc _), g1]
      simp only [Res.noExc, Res.bind, g2]
      cases b with
      | false =>
        rw [if_neg (by simp)]
        obtain ⟨zs, S7, g4, d7, r⟩ := ih acc S5 (fun z hz => hm z (by simp [hz])) (by omega) (hd.trans d5)
        exact ⟨zs, S7, g4, d7, r.cons a⟩
      | true =>
        obtain ⟨y, S6, g3, rfl, rfl⟩ := ok_of_wp (h3 rfl)
        obtain ⟨zs, S7, g4, d7, r⟩ := ih (acc ++ [y]) S5 (fun z hz => hm z (by simp [hz])) (by simp; omega) (hd.trans d5)
        refine ⟨y :: zs, S7, ?_, d7, r.cons_cons y⟩
        rw [if_pos rfl, g3]
        simp only [Res.noExc, Res.bind]
        rw [← hS, get_last]
        simp only
        rw [if_pos (by omega), set_last, hS, g4]
        simp
  obtain ⟨zs, S3, g, d3, p3⟩ := key it.items [] S1 (fun _ h => h) (by simp) d1
  rw [List.nil_append] at g
  have hS : S3.length = S1.length := by rw [d3.len, d1.len]
  have e : dFrz (dComp vs fi ga ft fe) sd S = .ok (.frl zs) S3 := by
    unfold dFrz dComp
    rw [e1]
    show ((compD it.chk ga ft fe S1.length (wipeD sd vs) it.items (S1 ++ [.lst []])).bind fun _ S2 => Res.ok (D.ref S1.length) S2).bind _ = _
    rw [g]
    show frzD S (.ref S1.length) (S3 ++ [.lst zs]) = _
    unfold frzD
    rw [← hS]
    simp only [get_last]
    have hbz : D.blws S.length zs = true := blws_all fun d hd => hb d (p3.subset hd)
    obtain ⟨o, rfl, hs, _⟩ := d3
    have hL : (S.set l o).length = S.length := by simp
    rw [hL]
    rw [if_pos ⟨Nat.le_refl _, cutOk_set S _ l o (st_blw hs), hbz⟩]
    congr 1
    rw [List.take_append_of_le_length (by simp)]
    exact List.take_of_length_le (by simp)
  rw [e]
  exact hq zs S3 d3 p3
theorem rise_sub {n : Nat} {s : List Bt} (h : s.Sublist (allB n)) : ssrt (s.map fun b => W (wB b)) = s.map fun b => W (wB b) := by
  refine ssrt_eq (List.pairwise_map.mpr (((allB_rise n).sublist h).imp fun {a b} h => ?_)) fun _ => Iff.rfl
  unfold sLt
  rw [W_cps, W_cps]
  exact h

theorem pow29 {S : Sto} {Q : D → Sto → Prop} {X : Exc → Sto → Prop} : Wp (powD (.int 10) (.int 29) S) Q X = Q (.int 100000000000000000000000000000) S := by
  have e : powD (.int 10) (.int 29) S = .ok (.int 100000000000000000000000000000) S := by
    simp only [powD]
    rw [if_pos (powOk_of (by decide))]
    rfl
  rw [e]; rfl
theorem far_ok {l : Nat} {S : Sto} {lo hi : Int} (h : At l S) : Gn l S (F__law_far [.ref l, .int lo, .int hi] S) (fun d => ∃ v, d = .int v ∧ (v < lo ∨ hi < v)) := by
  unfold F__law_far
  refine fn_gn ?_
  unfold b__law_far
  simp only [z6, z5, wq_a, wq_b, wq_c, wq_d, wq_e, wq_f, wq_g, Int.reduceToNat, Int.reduceLE, Int.reduceLT, Int.reduceNeg, startD, List.replicate, Nat.reduceAdd, Nat.reduceSub, Nat.reduceEqDiff, if_true, if_false, Int.reduceEq, Int.reduceAdd, Int.reduceSub, Int.reduceMul, eq_self, pow29]
  refine (draw h).w ?_
  rintro _ S1 d1 ⟨v, rfl, v0, v1⟩
  obtain ⟨m, hm, hm1, hm2⟩ : ∃ m : Int, atI [D.int 1, .int 20, .int 100000000000000000000000000000] v = some (.int m) ∧ 0 < m ∧ m < 10 ^ 40 := by
    have : v = 0 ∨ v = 1 ∨ v = 2 := by omega
    rcases this with rfl | rfl | rfl
    · exact ⟨1, rfl, by decide, by decide⟩
    · exact ⟨20, rfl, by decide, by decide⟩
    · exact ⟨_, rfl, by decide, by decide⟩
  simp only [z6, z5, wq_a, wq_b, wq_c, wq_d, wq_e, wq_f, wq_g, Int.reduceToNat, Int.reduceLE, Int.reduceLT, Int.reduceNeg, startD, List.replicate, Nat.reduceAdd, Nat.reduceSub, Nat.reduceEqDiff, if_true, if_false, Int.reduceEq, Int.reduceAdd, Int.reduceSub, Int.reduceMul, eq_self, hm]
  refine (draw d1.at hm1 hm2).w ?_
  rintro _ S2 d2 ⟨u, rfl, u0, u1⟩
  simp only [z6, z5, wq_a, wq_b, wq_c, wq_d, wq_e, wq_f, wq_g, Int.reduceToNat, Int.reduceLE, Int.reduceLT, Int.reduceNeg, startD, List.replicate, Nat.reduceAdd, Nat.reduceSub, Nat.reduceEqDiff, if_true, if_false, Int.reduceEq, Int.reduceAdd, Int.reduceSub, Int.reduceMul, eq_self]
  refine (draw d2.at hm1 hm2).w ?_
  rintro _ S3 d3 ⟨u', rfl, u0', u1'⟩
  simp only [z6, z5, wq_a, wq_b, wq_c, wq_d, wq_e, wq_f, wq_g, Int.reduceToNat, Int.reduceLE, Int.reduceLT, Int.reduceNeg, startD, List.replicate, Nat.reduceAdd, Nat.reduceSub, Nat.reduceEqDiff, if_true, if_false, Int.reduceEq, Int.reduceAdd, Int.reduceSub, Int.reduceMul, eq_self]
  refine (draw d3.at).w ?_
  rintro _ S4 d4 ⟨z, rfl, z0, z1⟩
  have hd := ((d1.trans d2).trans d3).trans d4
  have : z = 0 ∨ z = 1 := by omega
  rcases this with rfl | rfl
  · simp only [z6, z5, wq_a, wq_b, wq_c, wq_d, wq_e, wq_f, wq_g, Int.reduceToNat, Int.reduceLE, Int.reduceLT, Int.reduceNeg, startD, List.replicate, Nat.reduceAdd, Nat.reduceSub, Nat.reduceEqDiff, if_true, if_false, Int.reduceEq, Int.reduceAdd, Int.reduceSub, Int.reduceMul, eq_self]
    exact Dr.out (P := fun d => ∃ v, d = .int v ∧ (v < lo ∨ hi < v)) hd rfl ⟨_, rfl, by omega⟩
  · simp only [z6, z5, wq_a, wq_b, wq_c, wq_d, wq_e, wq_f, wq_g, Int.reduceToNat, Int.reduceLE, Int.reduceLT, Int.reduceNeg, startD, List.replicate, Nat.reduceAdd, Nat.reduceSub, Nat.reduceEqDiff, if_true, if_false, Int.reduceEq, Int.reduceAdd, Int.reduceSub, Int.reduceMul, eq_self]
    exact Dr.out (P := fun d => ∃ v, d = .int v ∧ (v < lo ∨ hi < v)) hd rfl ⟨_, rfl, by omega⟩

theorem kind_B {S : Sto} {i : Int} : x_kind ⟨3, some [("number", .int i)]⟩ S = .ok (.tup [.str "BadBeat", .int i]) S := by
  unfold x_kind
  rw [if_pos ⟨show 1 ≤ 3 ∧ 3 < 17 by decide, by simp⟩]
  rfl
theorem ok_BB : PyData.strOk (Str.ofString "BadBeat") = true := by decide +kernel
theorem sd_two {s : Str} {i : Int} (h : PyData.strOk s = true) : SD 1 (.tup [.str s, .int i]) := ⟨by simp, fun d hd => by
  have : d = .str s ∨ d = .int i := by simpa using hd
  rcases this with rfl | rfl
  · exact sd_str h
  · exact sd_int⟩
inductive Sm (S : Sto) : Nat → D → D → Prop where
  | non {n} : Sm S n .non .non
  | int {n i} : Sm S n (.int i) (.int i)
  | str {n s} : PyData.strOk s = true → Sm S n (.str s) (.str s)
  | tup {n xs ys} : xs.length ≤ 1000000000 → xs.length = ys.length → (∀ (i : Nat) (x y : D), xs[i]? = some x → ys[i]? = some y → Sm S n x y) → Sm S (n + 1) (.tup xs) (.tup ys)
  | lst {n x y xs ys} : lsD x S = some xs → lsD y S = some ys → xs.length ≤ 1000000000 → xs.length = ys.length → (∀ (i : Nat) (x y : D), xs[i]? = some x → ys[i]? = some y → Sm S n x y) → Sm S (n + 1) x y
theorem ls_grow {S S' : Sto} {x : D} {xs : List D} (g : Grow S S') (h : lsD x S = some xs) : lsD x S' = some xs := by
  cases x with
  | ref l =>
    unfold lsD at h ⊢
    cases e : S[l]? with
    | none => simp only [e] at h; cases h
    | some o => simp only [g.get e]; simp only [e] at h; exact h
  | frl ys => exact h
  | _ => cases h
theorem Sm.grow {S S' : Sto} (g : Grow S S') {n : Nat} {x y : D} (h : Sm S n x y) : Sm S' n x y := by
  induction h with
  | non => exact .non
  | int => exact .int
  | str h => exact .str h
  | tup h1 h2 _ ih => exact .tup h1 h2 ih
  | lst a b h1 h2 _ ih => exact .lst (ls_grow g a) (ls_grow g b) h1 h2 ih
theorem ls_ix {S : Sto} {x : D} {xs : List D} {i : Nat} {d : D} (h : lsD x S = some xs) (hi : xs[i]? = some d) : ixD x (.int ((i : Nat) : Int)) S = .ok d S := by
  have e : atI xs ((i : Nat) : Int) = some d := by rw [atI_pos (by omega)]; simpa using hi
  cases x with
  | ref l =>
    unfold lsD at h
    cases e1 : S[l]? with
    | none => simp only [e1] at h; cases h
    | some o =>
      cases o with
      | lst zs =>
        simp only [e1] at h
        cases h
        simp only [ixD, e1, e]
      | _ => simp only [e1] at h; cases h
  | frl ys =>
    cases h
    simp only [ixD, e]
  | _ => cases h
theorem ls_len {S : Sto} {x : D} {xs : List D} (h : lsD x S = some xs) : lenD [x] S = .ok (.int ((xs.length : Nat) : Int)) S := by
  cases x with
  | ref l =>
    unfold lsD at h
    cases e1 : S[l]? with
    | none => simp only [e1] at h; cases h
    | some o =>
      cases o with
      | lst zs =>
        simp only [e1] at h
        cases h
        simp only [lenD, e1]
      | _ => simp only [e1] at h; cases h
  | frl ys =>
    cases h
    rfl
  | _ => cases h
theorem ls_ty {S : Sto} {x : D} {xs : List D} (h : lsD x S = some xs) : tyS x S = some "list" := by
  cases x with
  | ref l =>
    unfold lsD at h
    cases e1 : S[l]? with
    | none => simp only [e1] at h; cases h
    | some o =>
      cases o with
      | lst zs => simp only [tyS, e1]
      | _ => simp only [e1] at h; cases h
  | frl ys => rfl
  | _ => cases h
theorem same2_ok : ∀ (n j : Nat) {x y : D} {S : Sto}, Sm S n x y → F__law_same (n + 1 + j) [x, y] S = .ok (.bl true) S := by
  intro n
  induction n with
  | zero =>
    intro j x y S h
    rw [show 0 + 1 + j = j + 1 by omega]
    cases h with
    | non =>
      unfold F__law_same
      refine fn_ok rfl ?_
      unfold b__law_same
      simp only [z6, z5, wq_a, wq_b, wq_c, wq_d, wq_e, wq_f, wq_g, Int.reduceToNat, Int.reduceLE, Int.reduceLT, Int.reduceNeg, startD, List.replicate, Nat.reduceAdd, Nat.reduceSub, Nat.reduceEqDiff, if_true, if_false, Int.reduceEq, Int.reduceAdd, Int.reduceSub, Int.reduceMul, eq_self]
      exact ⟨trivial, app_nil S⟩
    | int =>
      unfold F__law_same
      refine fn_ok rfl ?_
      unfold b__law_same
      simp only [z6, z5, wq_a, wq_b, wq_c, wq_d, wq_e, wq_f, wq_g, Int.reduceToNat, Int.reduceLE, Int.reduceLT, Int.reduceNeg, startD, List.replicate, Nat.reduceAdd, Nat.reduceSub, Nat.reduceEqDiff, if_true, if_false, Int.reduceEq, Int.reduceAdd, Int.reduceSub, Int.reduceMul, eq_self]
      exact ⟨trivial, app_nil S⟩
    | str _ =>
      unfold F__law_same
      refine fn_ok rfl ?_
      unfold b__law_same
      simp only [z6, z5, wq_a, wq_b, wq_c, wq_d, wq_e, wq_f, wq_g, Int.reduceToNat, Int.reduceLE, Int.reduceLT, Int.reduceNeg, startD, List.replicate, Nat.reduceAdd, Nat.reduceSub, Nat.reduceEqDiff, if_true, if_false, Int.reduceEq, Int.reduceAdd, Int.reduceSub, Int.reduceMul, eq_self]
      exact ⟨trivial, app_nil S⟩
  | succ m ih =>
    intro j x y S h
    rw [show m + 1 + 1 + j = (m + 1 + j) + 1 by omega]
    have core : ∀ {xs ys : List D}, (∀ S', Grow S S' → ∀ (i : Nat) (d : D), xs[i]? = some d → ixD x (.int ((i : Nat) : Int)) S' = .ok d S') → (∀ S', Grow S S' → ∀ (i : Nat) (d : D), ys[i]? = some d → ixD y (.int ((i : Nat) : Int)) S' = .ok d S') → lenD [y] S = .ok (.int ((ys.length : Nat) : Int)) S → xs.length ≤ 1000000000 → xs.length = ys.length → (∀ (i : Nat) (x y : D), xs[i]? = some x → ys[i]? = some y → Sm S m x y) →
        dFrz (dComp [2] (iRngD1 (dCall lenD (dCons (dVar 1) dNil))) (gVar 2) (tNotD (tstB (dCallF 2 (F__law_same (m + 1 + j)) (dCons (d2 ixD (dVar 0) (dVar 2)) (dCons (d2 ixD (dVar 1) (dVar 2)) dNil))))) (dVar 2)) [some x, some y, none] S
          = .ok (.frl (((List.range ys.length).filter fun _ => false).map fun i => .int (0 + (i : Nat)))) S := by
      intro xs ys ix iy hlen hsz hll hs
      refine compF (List.range ys.length) (fun i => .int (0 + (i : Nat))) (fun _ => false) _ ?_ (by rw [List.filter_eq_nil_iff.mpr (fun _ _ => by simp)]; exact Nat.zero_le _) ?_ ?_
      · simp only [z6, z5, wq_a, wq_b, wq_c, wq_d, wq_e, wq_f, wq_g, Int.reduceToNat, Int.reduceLE, Int.reduceLT, Int.reduceNeg, startD, List.replicate, Nat.reduceAdd, Nat.reduceSub, Nat.reduceEqDiff, if_true, if_false, Int.reduceEq, Int.reduceAdd, Int.reduceSub, Int.reduceMul, eq_self, hlen]
        rw [w_ite (rng_ok (by omega))]
        simp only [z6, z5, wq_a, wq_b, wq_c, wq_d, wq_e, wq_f, wq_g, Int.reduceToNat, Int.reduceLE, Int.reduceLT, Int.reduceNeg, startD, List.replicate, Nat.reduceAdd, Nat.reduceSub, Nat.reduceEqDiff, if_true, if_false, Int.reduceEq, Int.reduceAdd, Int.reduceSub, Int.reduceMul, eq_self]
        exact ⟨trivial, rng_map, fun _ _ => rfl⟩
      · intro i hi S' g
        have hi' := List.mem_range.mp hi
        have e0 : (0 : Int) + ((i : Nat) : Int) = ((i : Nat) : Int) := by omega
        have hx : xs[i]? = some xs[i] := List.getElem?_eq_getElem (by omega)
        have hy : ys[i]? = some ys[i] := List.getElem?_eq_getElem (by omega)
        simp only [z6, z5, wq_a, wq_b, wq_c, wq_d, wq_e, wq_f, wq_g, Int.reduceToNat, Int.reduceLE, Int.reduceLT, Int.reduceNeg, startD, List.replicate, Nat.reduceAdd, Nat.reduceSub, Nat.reduceEqDiff, if_true, if_false, Int.reduceEq, Int.reduceAdd, Int.reduceSub, Int.reduceMul, eq_self, wipeD, e0, ix S' g i _ hx, iy S' g i _ hy]
        rw [ih j ((hs i _ _ hx hy).grow g)]
        simp only [z6, z5, wq_a, wq_b, wq_c, wq_d, wq_e, wq_f, wq_g, Int.reduceToNat, Int.reduceLE, Int.reduceLT, Int.reduceNeg, startD, List.replicate, Nat.reduceAdd, Nat.reduceSub, Nat.reduceEqDiff, if_true, if_false, Int.reduceEq, Int.reduceAdd, Int.reduceSub, Int.reduceMul, eq_self]
        exact ⟨trivial, trivial, trivial, fun z => by cases z⟩
      · intro i _ _; rfl
    have e0 : ∀ k : Nat, (((List.range k).filter fun _ => false).map fun i => D.int (0 + (i : Nat))) = [] := fun k => by rw [List.filter_eq_nil_iff.mpr (fun _ _ => by simp)]; rfl
    cases h with
    | non => have := ih (j + 1) (x := .non) (y := .non) (S := S) .non; rwa [show m + 1 + (j + 1) = m + 1 + j + 1 by omega] at this
    | @int _ i => have := ih (j + 1) (x := .int i) (y := .int i) (S := S) .int; rw [show m + 1 + (j + 1) = m + 1 + j + 1 by omega] at this; exact this
    | str hs => have := ih (j + 1) (S := S) (.str hs); rw [show m + 1 + (j + 1) = m + 1 + j + 1 by omega] at this; exact this
    | @tup _ xs ys h1 h2 h3 =>
      unfold F__law_same
      refine fn_ok rfl ?_
      unfold b__law_same
      have hl : (((xs.length : Nat) : Int) = ((ys.length : Nat) : Int)) = True := by rw [h2]; simp
      simp only [z6, z5, wq_a, wq_b, wq_c, wq_d, wq_e, wq_f, wq_g, Int.reduceToNat, Int.reduceLE, Int.reduceLT, Int.reduceNeg, startD, List.replicate, Nat.reduceAdd, Nat.reduceSub, Nat.reduceEqDiff, if_true, if_false, Int.reduceEq, Int.reduceAdd, Int.reduceSub, Int.reduceMul, eq_self, hl, core (xs := xs) (ys := ys) (fun S' _ i d hd => by
        have e : atI xs ((i : Nat) : Int) = some d := by rw [atI_pos (by omega)]; simpa using hd
        simp only [ixD, e]) (fun S' _ i d hd => by
        have e : atI ys ((i : Nat) : Int) = some d := by rw [atI_pos (by omega)]; simpa using hd
        simp only [ixD, e]) rfl h1 h2 h3, e0]
      rw [w_eqG gd_nil gd_nil]
      simp only [z6, z5, wq_a, wq_b, wq_c, wq_d, wq_e, wq_f, wq_g, Int.reduceToNat, Int.reduceLE, Int.reduceLT, Int.reduceNeg, startD, List.replicate, Nat.reduceAdd, Nat.reduceSub, Nat.reduceEqDiff, if_true, if_false, Int.reduceEq, Int.reduceAdd, Int.reduceSub, Int.reduceMul, eq_self]
      exact ⟨trivial, app_nil S⟩
    | @lst _ _ _ xs ys a b h1 h2 h3 =>
      unfold F__law_same
      refine fn_ok rfl ?_
      unfold b__law_same
      have hl : (((xs.length : Nat) : Int) = ((ys.length : Nat) : Int)) = True := by rw [h2]; simp
      simp only [z6, z5, wq_a, wq_b, wq_c, wq_d, wq_e, wq_f, wq_g, Int.reduceToNat, Int.reduceLE, Int.reduceLT, Int.reduceNeg, startD, List.replicate, Nat.reduceAdd, Nat.reduceSub, Nat.reduceEqDiff, if_true, if_false, Int.reduceEq, Int.reduceAdd, Int.reduceSub, Int.reduceMul, eq_self, ls_ty a, ls_ty b, ls_len a, ls_len b, hl, core (xs := xs) (ys := ys) (fun S' g i d hd => ls_ix (ls_grow g a) hd) (fun S' g i d hd => ls_ix (ls_grow g b) hd) (ls_len b) h1 h2 h3, e0]
      rw [w_eqG gd_nil gd_nil]
      simp only [z6, z5, wq_a, wq_b, wq_c, wq_d, wq_e, wq_f, wq_g, Int.reduceToNat, Int.reduceLE, Int.reduceLT, Int.reduceNeg, startD, List.replicate, Nat.reduceAdd, Nat.reduceSub, Nat.reduceEqDiff, if_true, if_false, Int.reduceEq, Int.reduceAdd, Int.reduceSub, Int.reduceMul, eq_self]
      exact ⟨trivial, app_nil S⟩

theorem sm_gd {S : Sto} : ∀ {n : Nat} {d : D}, SD n d → Sm S n d d
  | n, .str w, h => .str (by cases n <;> exact h)
  | n, .int _, _ => .int
  | n, .non, _ => .non
  | n + 1, .tup ds, h => .tup h.1 rfl fun i x y hx hy => by
    rw [hx] at hy; cases hy
    exact sm_gd (h.2 x (List.mem_of_getElem? hx))
  | n + 1, .frl ds, h => .lst rfl rfl h.1 rfl fun i x y hx hy => by
    rw [hx] at hy; cases hy
    exact sm_gd (h.2 x (List.mem_of_getElem? hx))
  | 0, .tup _, h => h.elim
  | 0, .frl _, h => h.elim
  | 0, .bl _, h => h.elim
  | 0, .ref _, h => h.elim
  | 0, .exn _ _ _ _, h => h.elim
  | _ + 1, .bl _, h => h.elim
  | _ + 1, .ref _, h => h.elim
  | _ + 1, .exn _ _ _ _, h => h.elim
theorem At.set {l r : Nat} {S : Sto} {o : DO} (h : At l S) (n : r ≠ l) : At l (S.set r o) := by
  obtain ⟨x, e, hs⟩ := h
  exact ⟨x, by rw [List.getElem?_set_ne n]; exact e, hs⟩

theorem rep_W {c n : Nat} : repS (W [c]) ((n : Nat) : Int) = W (List.replicate n c) := by
  unfold repS
  rw [W_cps]
  show W _ = _
  congr 1
  simp only [Int.toNat_natCast]
  induction n with
  | zero => rfl
  | succ n ih => rw [List.replicate_succ, List.flatten_cons, ih]; rfl
theorem mulWn {c n : Nat} {S : Sto} {Q : D → Sto → Prop} {X : Exc → Sto → Prop} (h : n ≤ 100) : Wp (mulD (.str (W [c])) (.int ((n : Nat) : Int)) S) Q X = Q (.str (W (List.replicate n c))) S := by
  simp only [mulD]
  rw [if_pos ⟨mul_okI (by omega) (by omega), by rw [W_len]; exact szn (by simp; omega)⟩, rep_W]
  rfl
def excM : Exc := ⟨7, none⟩
theorem fw_odd {v : Int} {x : D} {S : Sto} (h : v < 1 ∨ 4 < v) : F_fewest [.int v, x] S = .exc excM S := by
  unfold F_fewest
  refine fn_exc rfl ?_
  unfold b_fewest
  by_cases h1 : (1 : Int) ≤ v
  · have h2 : ¬ v ≤ 4 := by omega
    simp only [wq_a, wq_b, wq_c, wq_d, wq_e, wq_f, wq_g, Int.reduceToNat, Int.reduceLE, Int.reduceLT, Int.reduceNeg, startD, List.replicate, Nat.reduceAdd, Nat.reduceSub, Nat.reduceEqDiff, if_true, if_false, Int.reduceEq, Int.reduceAdd, Int.reduceSub, Int.reduceMul, eq_self, decide_eq_true h1, decide_eq_false h2, Bool.not_false]
    exact ⟨by first | rfl | trivial, app_nil _⟩
  · simp only [wq_a, wq_b, wq_c, wq_d, wq_e, wq_f, wq_g, Int.reduceToNat, Int.reduceLE, Int.reduceLT, Int.reduceNeg, startD, List.replicate, Nat.reduceAdd, Nat.reduceSub, Nat.reduceEqDiff, if_true, if_false, Int.reduceEq, Int.reduceAdd, Int.reduceSub, Int.reduceMul, eq_self, decide_eq_false h1, Bool.not_false]
    exact ⟨by first | rfl | trivial, app_nil _⟩
theorem fw_sort {ins : Nat} {l : List Bt} {S : Sto} (i1 : 1 ≤ ins) (i4 : ins ≤ 4) (hs : ∀ b ∈ l, b.length = ins) (hl : l.length ≤ 100) (hr : ((allB ins).filter fun b => decide (b ∈ l)) ≠ l) : F_fewest [.int ((ins : Nat) : Int), .frl (l.map sW)] S = .exc excM S := by
  unfold F_fewest
  refine fn_exc rfl ?_
  unfold b_fewest
  have nb : F_need_beats [.int ((ins : Nat) : Int), .frl (l.map sW)] S = .ok .non S := by
    have := need_beats_ok (ins := ((ins : Nat) : Int)) (ws := l.map wB) (S := S) (fun w hw => by
      obtain ⟨b, hb, rfl⟩ := List.mem_map.mp hw
      exact ⟨wB_ok b, by rw [wB_len, hs b hb]; omega⟩) (fun w hw => by
      obtain ⟨b, hb, rfl⟩ := List.mem_map.mp hw
      exact isW' (hs b hb))
    rw [List.map_map] at this
    exact this
  have hset : dSortSetS (dVar 1) [some (.int ((ins : Nat) : Int)), some (.frl (l.map sW))] S = .ok (.frl (((allB ins).filter fun b => decide (b ∈ l)).map sW)) S := by
    have e := ssrt_beats hs
    unfold dSortSetS dVar
    simp only [List.getElem?_cons_succ, List.getElem?_cons_zero, Res.bind, lsD, strs_sW]
    rw [if_pos (by rw [List.length_map]; exact Nat.le_trans hl (by decide)), show (l.map fun b => W (wB b)) = l.map wBs from rfl, e, List.map_map]
    rfl
  have g1 : ∀ l : List Bt, GD 1 (.frl (l.map sW)) := fun l => gd_frl sW_gd0
  have h1 : decide ((1 : Int) ≤ ((ins : Nat) : Int)) = true := decide_eq_true (by omega)
  have h2 : decide (((ins : Nat) : Int) ≤ 4) = true := decide_eq_true (by omega)
  have hlf : ∀ S, listF [.frl (l.map sW)] S = .ok (.frl (l.map sW)) S := fun S => rfl
  have inj : ∀ {a b : List Bt}, D.frl (a.map sW) = D.frl (b.map sW) → a = b := fun {a b} h => by
    have h : a.map sW = b.map sW := D.frl.inj h
    exact List.map_inj_right (fun x y => sW_inj) |>.mp h
  simp only [wq_a, wq_b, wq_c, wq_d, wq_e, wq_f, wq_g, Int.reduceToNat, Int.reduceLE, Int.reduceLT, Int.reduceNeg, startD, List.replicate, Nat.reduceAdd, Nat.reduceSub, Nat.reduceEqDiff, if_true, if_false, Int.reduceEq, Int.reduceAdd, Int.reduceSub, Int.reduceMul, eq_self, h1, h2, nb, hset, hlf]
  rw [w_neG (g1 _) (g1 _)]
  simp only [wq_a, wq_b, wq_c, wq_d, wq_e, wq_f, wq_g, Int.reduceToNat, Int.reduceLE, Int.reduceLT, Int.reduceNeg, startD, List.replicate, Nat.reduceAdd, Nat.reduceSub, Nat.reduceEqDiff, if_true, if_false, Int.reduceEq, Int.reduceAdd, Int.reduceSub, Int.reduceMul, eq_self, decide_eq_false (fun z => hr (inj z)), Bool.not_false]
  exact ⟨by first | rfl | trivial, app_nil _⟩
theorem fw_fall {ins : Nat} {S : Sto} (i1 : 1 ≤ ins) (i4 : ins ≤ 4) : F_fewest [.int ((ins : Nat) : Int), .frl [.str (W (List.replicate ins 49)), .str (W (List.replicate ins 48))]] S = .exc excM S := by
  have := fw_sort (S := S) (l := [List.replicate ins true, List.replicate ins false]) i1 i4 (fun b hb => by
    have : b = List.replicate ins true ∨ b = List.replicate ins false := by simpa using hb
    rcases this with rfl | rfl <;> simp) (by simp) (by
    have : ins = 1 ∨ ins = 2 ∨ ins = 3 ∨ ins = 4 := by omega
    rcases this with rfl | rfl | rfl | rfl <;> decide +kernel)
  simp only [List.map_cons, List.map_nil, sW, wB, List.map_replicate] at this
  exact this
theorem fw_dup {ins : Nat} {S : Sto} (i1 : 1 ≤ ins) (i4 : ins ≤ 4) : F_fewest [.int ((ins : Nat) : Int), .frl [.str (W (List.replicate ins 48)), .str (W (List.replicate ins 48))]] S = .exc excM S := by
  have := fw_sort (S := S) (l := [List.replicate ins false, List.replicate ins false]) i1 i4 (fun b hb => by
    have : b = List.replicate ins false := by simpa using hb
    rw [this]; simp) (by simp) (by
    have : ins = 1 ∨ ins = 2 ∨ ins = 3 ∨ ins = 4 := by omega
    rcases this with rfl | rfl | rfl | rfl <;> decide +kernel)
  simp only [List.map_cons, List.map_nil, sW, wB, List.map_replicate] at this
  exact this
theorem fw_beat {ins : Nat} {pre post : List (List Nat)} {w : List Nat} {S : Sto} (i1 : 1 ≤ ins) (i4 : ins ≤ 4) (hw : ∀ v ∈ pre ++ w :: post, Wok v ∧ v.length ≤ 16777216) (h : ∀ v ∈ pre, isWord v ((ins : Nat) : Int) b01 = true) (hb : isWord w ((ins : Nat) : Int) b01 = false) :
    F_fewest [.int ((ins : Nat) : Int), .frl ((pre ++ w :: post).map fun w => .str (W w))] S = .exc ⟨3, some [("number", .int ((pre.length : Nat) : Int))]⟩ S := by
  have nb := need_beats_bad (S := S) hw h hb
  unfold F_fewest
  refine fn_exc rfl ?_
  unfold b_fewest
  have h1 : decide ((1 : Int) ≤ ((ins : Nat) : Int)) = true := decide_eq_true (by omega)
  have h2 : decide (((ins : Nat) : Int) ≤ 4) = true := decide_eq_true (by omega)
  generalize D.frl ((pre ++ w :: post).map fun w => .str (W w)) = L at nb ⊢
  simp only [wq_a, wq_b, wq_c, wq_d, wq_e, wq_f, wq_g, Int.reduceToNat, Int.reduceLE, Int.reduceLT, Int.reduceNeg, startD, List.replicate, Nat.reduceAdd, Nat.reduceSub, Nat.reduceEqDiff, if_true, if_false, Int.reduceEq, Int.reduceAdd, Int.reduceSub, Int.reduceMul, eq_self, h1, h2, nb, Bool.not_true]
  exact ⟨by first | rfl | trivial, app_nil _⟩
theorem kind_M {S : Sto} : x_kind excM S = .ok (.str "BadMarks") S := by
  unfold x_kind excM
  rw [if_pos ⟨show 1 ≤ 7 ∧ 7 < 17 by decide, by simp⟩]
  rfl
theorem ok_BM : PyData.strOk (Str.ofString "BadMarks") = true := by decide +kernel
def wk4 (k : Nat) (i : Nat) : D := if i < 3 then .str "BadMarks" else .tup [.str "BadBeat", .int ((k : Nat) : Int)]
theorem wk4_same {k : Nat} {S : Sto} : F__law_same 40 [.frl ((List.range 4).map (wk4 k)), .frl ((List.replicate 3 [D.str "BadMarks"]).flatten ++ [.tup [.str "BadBeat", .int ((k : Nat) : Int)]])] S = .ok (.bl true) S := by
  have e : (List.range 4).map (wk4 k) = (List.replicate 3 [D.str "BadMarks"]).flatten ++ [.tup [.str "BadBeat", .int ((k : Nat) : Int)]] := rfl
  rw [e]
  refine same2_ok 2 37 (sm_gd ⟨by simp, fun d hd => ?_⟩)
  have : d = .str "BadMarks" ∨ d = .tup [.str "BadBeat", .int ((k : Nat) : Int)] := by simpa using hd
  rcases this with rfl | rfl
  · exact sd_str ok_BM
  · exact sd_two ok_BB
theorem kindVE_A {Fx : Exc → Sto → Res D} {fs : Nat → Option (Sl → Sto → Res D)} {fb : Sl → Sto → Res D} {j l i : Nat} {sd sd0 : Sl} {S : Sto} {Q : D → Sto → Prop} {X : Exc → Sto → Prop} (hj : sd[j]? = some (some (.ref l))) (hl : S[l]? = some (.dic 5 [(.int ((i : Nat) : Int), .non)])) (hf : fs i = some fb) :
    Wp (dKindVE Fx fs (dVar j) sd0 sd S) Q X = Wp (dKind Fx fb (maskD sd0) S) Q X := by
  have e : dKindVE Fx fs (dVar j) sd0 sd S = dKind Fx fb (maskD sd0) S := by
    simp only [dKindVE, dVar, hj, Res.bind, hl, Int.toNat_natCast, hf]
  rw [e]
theorem mask_at {sd : Sl} {i : Nat} {d : D} (h : sd[i]? = some (some d)) (p : d.pur = true) : (maskD sd)[i]? = some (some d) := by
  unfold maskD
  rw [List.getElem?_map, h]
  simp [p]
theorem pur_list {α : Type} {f : α → D} : ∀ {l : List α}, (∀ x ∈ l, (f x).pur = true) → D.purs (l.map f) = true
  | [], _ => rfl
  | x :: l, h => by
    show (D.pur (f x) && D.purs (l.map f)) = true
    rw [h x List.mem_cons_self, pur_list fun y hy => h y (List.mem_cons_of_mem _ hy)]
    rfl
theorem compE_w {α : Type} (xs : List α) (en : α → D) (f : α → D) {vs : List Nat} {fi : Sl → Sto → Res ItD} {ga : D → Sl → Sto → Res Sl} {fe : Sl → Sl → Sto → Res D} {sd : Sl} {S : Sto} {Q : D → Sto → Prop} {X : Exc → Sto → Prop}
    (hi : Wp (fi sd S) (fun it S1 => S1 = S ∧ it.items = xs.map en ∧ ∀ S', Grow S S' → it.chk S' = true) NX) (hl : xs.length ≤ sizeLine)
    (hx : ∀ a ∈ xs, ∀ S', Grow S S' → Wp (ga (en a) (wipeD sd vs) S') (fun sd1 S1 => S1 = S' ∧ Wp (fe sd sd1 S') (fun y S3 => S3 = S' ∧ y = f a) NX) NX)
    (hb : ∀ a ∈ xs, (f a).blw S.length = true) : Wp (dFrz (dCompE vs fi ga fe) sd S) Q X = Q (.frl (xs.map f)) S := by
  have := compM xs en f (fe := fe sd) hi hl hx hb
  show Wp (dFrz (dComp vs fi ga tYesD (fe sd)) sd S) Q X = _
  rw [this]
  rfl

end Lw

namespace Lw
open PySem PySem.Spec PyProof.Rows L2 DL
theorem w_dLam {i : Nat} {sd : Sl} {S : Sto} {Q : D → Sto → Prop} {X : Exc → Sto → Prop} : Wp (dLam i sd S) Q X = Q (.ref S.length) (S ++ [.dic 5 [(.int i, .non)]]) := rfl
theorem W_two : Str.ofString "2" = W [50] := by decide +kernel
theorem W_one' : Str.ofString "1" = W [49] := by decide +kernel
theorem W_ze' : Str.ofString "0" = W [48] := by decide +kernel
theorem slT {ds : List D} {k : Nat} {S : Sto} {Q : D → Sto → Prop} {X : Exc → Sto → Prop} : Wp (sliceF (.frl ds) none (some ((k : Nat) : Int)) S) Q X = Q (.frl (ds.take k)) S := by
  have e : sliceF (.frl ds) none (some ((k : Nat) : Int)) S = .ok (.frl (cutL ds none (some ((k : Nat) : Int)))) S := rfl
  rw [e, cut_take]
  rfl
theorem law_gen {x0 : D} {S S0 : Sto} {sc : List Int} (h : frzD S x0 S = .ok (.frl (sc.map .int)) S0) : ∃ S', dFn 21 b_law [x0] S = .ok (.bl true) S' := by
  have main : Wp (dFn 21 b_law [x0] S) (fun d _ => d = .bl true) NX := by
    rw [w_dFn]
    unfold b_law
    simp only [wq_a, wq_b, wq_c, wq_d, wq_e, wq_f, wq_g, Int.reduceToNat, Int.reduceLE, Int.reduceLT, Int.reduceNeg, startD, List.replicate, Nat.reduceAdd, Nat.reduceSub, Nat.reduceEqDiff, if_true, if_false, Int.reduceEq, Int.reduceAdd, Int.reduceSub, Int.reduceMul, eq_self, w_dFrz, h]
    obtain ⟨o, e0, hs⟩ := start_ok (ns := sc) (S := S0)
    rw [e0]
    simp only [wq_a, wq_b, wq_c, wq_d, wq_e, wq_f, wq_g, Int.reduceToNat, Int.reduceLE, Int.reduceLT, Int.reduceNeg, startD, List.replicate, Nat.reduceAdd, Nat.reduceSub, Nat.reduceEqDiff, if_true, if_false, Int.reduceEq, Int.reduceAdd, Int.reduceSub, Int.reduceMul, eq_self]
    rw [w_ite (rng_okI (by decide) (by decide))]
    simp only [wq_a, wq_b, wq_c, wq_d, wq_e, wq_f, wq_g, Int.reduceToNat, Int.reduceLE, Int.reduceLT, Int.reduceNeg, startD, List.replicate, Nat.reduceAdd, Nat.reduceSub, Nat.reduceEqDiff, if_true, if_false, Int.reduceEq, Int.reduceAdd, Int.reduceSub, Int.reduceMul, eq_self]
    generalize hl : S0.length = l
    have at0 : At l (S0 ++ [o]) := by subst hl; exact ⟨o, get_last, hs⟩
    generalize S0 ++ [o] = S1 at at0
    refine w_rangeP (fun _ sd S' => At l S' ∧ ∃ a2 a3 a4 a5 a6 a7 a8 a9 a10 a11 a12 a13 a14 a15 a16 a17 a18 a19 a20, sd = [some x0, some (.ref l), a2, a3, a4, a5, a6, a7, a8, a9, a10, a11, a12, a13, a14, a15, a16, a17, a18, a19, a20]) 0 4 (fun _ _ _ _ _ => rfl) ⟨at0, _, _, _, _, _, _, _, _, _, _, _, _, _, _, _, _, _, _, _, rfl⟩ ?_ ?_
    · rintro sd S' ⟨_, a2, a3, a4, a5, a6, a7, a8, a9, a10, a11, a12, a13, a14, a15, a16, a17, a18, a19, a20, rfl⟩
      simp only [wq_a, wq_b, wq_c, wq_d, wq_e, wq_f, wq_g, Int.reduceToNat, Int.reduceLE, Int.reduceLT, Int.reduceNeg, startD, List.replicate, Nat.reduceAdd, Nat.reduceSub, Nat.reduceEqDiff, if_true, if_false, Int.reduceEq, Int.reduceAdd, Int.reduceSub, Int.reduceMul, eq_self]
    · rintro turn sd S2 hturn ⟨at2, a2, a3, a4, a5, a6, a7, a8, a9, a10, a11, a12, a13, a14, a15, a16, a17, a18, a19, a20, rfl⟩
      simp only [wq_a, wq_b, wq_c, wq_d, wq_e, wq_f, wq_g, Int.reduceToNat, Int.reduceLE, Int.reduceLT, Int.reduceNeg, startD, List.replicate, Nat.reduceAdd, Nat.reduceSub, Nat.reduceEqDiff, if_true, if_false, Int.reduceEq, Int.reduceAdd, Int.reduceSub, Int.reduceMul, eq_self]
      refine (draw at2).w ?_
      rintro _ S3 d3 ⟨u, rfl, u0, u1⟩
      obtain ⟨ins, hins, i1, i4⟩ : ∃ ins : Nat, (1 : Int) + u = ((ins : Nat) : Int) ∧ 1 ≤ ins ∧ ins ≤ 4 := ⟨(1 + u).toNat, by omega, by omega, by omega⟩
      have lb : ∀ S, F__law_beats 40 [.int ((ins : Nat) : Int)] S = .ok (.frl ((allB ins).map sW)) S := fun S => by
        have := law_beats_ok (S := S) ins (39 - ins) (by omega)
        rw [show ins + 1 + (39 - ins) = 40 by omega] at this
        exact this
      have lm : ∀ S, F__law_marks 40 [.int ((ins : Nat) : Int)] S = .ok (.frl ((allL ins).map mW)) S := fun S => by
        have := law_marks_ok (S := S) ins (39 - ins) i4
        rw [show ins + 1 + (39 - ins) = 40 by omega] at this
        exact this
      have bl : (allB ins).length ≤ 16 := by rw [allB_many]; exact pow_le i4
      have hfl : ∀ (P : Bt → Bool), ((allB ins).filter P).length ≤ 16 := fun P => Nat.le_trans (List.length_filter_le _ _) bl
      simp only [wq_a, wq_b, wq_c, wq_d, wq_e, wq_f, wq_g, Int.reduceToNat, Int.reduceLE, Int.reduceLT, Int.reduceNeg, startD, List.replicate, Nat.reduceAdd, Nat.reduceSub, Nat.reduceEqDiff, if_true, if_false, Int.reduceEq, Int.reduceAdd, Int.reduceSub, Int.reduceMul, eq_self, hins, lb]
      refine (draw d3.at).w ?_
      rintro _ S4 d4 ⟨v, rfl, v0, v1⟩
      simp only [wq_a, wq_b, wq_c, wq_d, wq_e, wq_f, wq_g, Int.reduceToNat, Int.reduceLE, Int.reduceLT, Int.reduceNeg, startD, List.replicate, Nat.reduceAdd, Nat.reduceSub, Nat.reduceEqDiff, if_true, if_false, Int.reduceEq, Int.reduceAdd, Int.reduceSub, Int.reduceMul, eq_self]
      refine compGS d4.at.lt ?_
      simp only [wq_a, wq_b, wq_c, wq_d, wq_e, wq_f, wq_g, Int.reduceToNat, Int.reduceLE, Int.reduceLT, Int.reduceNeg, startD, List.replicate, Nat.reduceAdd, Nat.reduceSub, Nat.reduceEqDiff, if_true, if_false, Int.reduceEq, Int.reduceAdd, Int.reduceSub, Int.reduceMul, eq_self, itemsD]
      refine ⟨d4.at.self, by rw [List.length_map]; exact szn (by omega), fun _ => rfl, fun x hx S' T hd => ?_, ?_, ?_⟩
      · obtain ⟨b, hb, rfl⟩ := List.mem_map.mp hx
        simp only [wq_a, wq_b, wq_c, wq_d, wq_e, wq_f, wq_g, Int.reduceToNat, Int.reduceLE, Int.reduceLT, Int.reduceNeg, startD, List.replicate, Nat.reduceAdd, Nat.reduceSub, Nat.reduceEqDiff, if_true, if_false, Int.reduceEq, Int.reduceAdd, Int.reduceSub, Int.reduceMul, eq_self, wipeD]
        refine ⟨trivial, ?_⟩
        refine (draw (hd.at.app T) (many := 1 + v)).wT hd.at.lt ?_
        rintro _ S2 d2 ⟨w, rfl, w0, w1⟩
        simp only [wq_a, wq_b, wq_c, wq_d, wq_e, wq_f, wq_g, Int.reduceToNat, Int.reduceLE, Int.reduceLT, Int.reduceNeg, startD, List.replicate, Nat.reduceAdd, Nat.reduceSub, Nat.reduceEqDiff, if_true, if_false, Int.reduceEq, Int.reduceAdd, Int.reduceSub, Int.reduceMul, eq_self]
        exact ⟨S2, rfl, d2, fun _ => ⟨trivial, trivial⟩⟩
      · intro y hy
        obtain ⟨b, _, rfl⟩ := List.mem_map.mp hy
        rfl
      intro ys S5 d5 hys
      obtain ⟨l0, hl0, rfl⟩ := List.sublist_map_iff.mp hys
      have at5 := d5.at
      clear hys
      obtain ⟨ci, cut, hci, hcut, hc16⟩ : ∃ (ci : Int) (cut : Nat), (∀ {S : Sto} {Q : D → Sto → Prop} {X : Exc → Sto → Prop}, Wp (intD [.bl (decide (((ins : Nat) : Int) = 4))] S) Q X = Q (.int ci) S) ∧ (∀ {S : Sto} {Q : D → Sto → Prop} {X : Exc → Sto → Prop}, Wp (ixD (.frl [D.int 16, .int 7]) (.int ci) S) Q X = Q (.int ((cut : Nat) : Int)) S) ∧ cut ≤ 16 := by
        by_cases e : ((ins : Nat) : Int) = 4
        · rw [decide_eq_true e]
          exact ⟨1, 7, fun {S Q X} => rfl, fun {S Q X} => rfl, by decide⟩
        · rw [decide_eq_false e]
          exact ⟨0, 16, fun {S Q X} => rfl, fun {S Q X} => rfl, by decide⟩
      rw [hci]
      simp only [wq_a, wq_b, wq_c, wq_d, wq_e, wq_f, wq_g, Int.reduceToNat, Int.reduceLE, Int.reduceLT, Int.reduceNeg, startD, List.replicate, Nat.reduceAdd, Nat.reduceSub, Nat.reduceEqDiff, if_true, if_false, Int.reduceEq, Int.reduceAdd, Int.reduceSub, Int.reduceMul, eq_self, hcut]
      simp only [wq_a, wq_b, wq_c, wq_d, wq_e, wq_f, wq_g, Int.reduceToNat, Int.reduceLE, Int.reduceLT, Int.reduceNeg, startD, List.replicate, Nat.reduceAdd, Nat.reduceSub, Nat.reduceEqDiff, if_true, if_false, Int.reduceEq, Int.reduceAdd, Int.reduceSub, Int.reduceMul, eq_self, slT]
      rw [← List.map_take]
      have hsub : (l0.take cut).Sublist (allB ins) := (List.take_sublist _ _).trans hl0
      generalize l0.take cut = s at hsub
      have hsl : s.length ≤ 16 := Nat.le_trans hsub.length_le bl
      have hs4 : ∀ b ∈ s, b.length = ins := fun b hb => allB_len ins b (hsub.subset hb)
      -- the good marks
      have hbad : ∀ (m : Mk) (S : Sto), m.length = ins → ∀ a7 a8 a9 a10 a11 a12 a13 a14 a15 a16 a17 a19 a20 : Option D, dFrz (dComp [20] (iVal (dVar 4)) (gVar 20) (tAndD (tstB (dCallF 2 F__law_lets (dCons (dVar 18) (dCons (dVar 20) dNil)))) (d2T notInD (dVar 20) (dVar 6))) (dVar 20)) [some x0, some (.ref l), some (.int (0 + ((turn : Nat) : Int))), some (.int ((ins : Nat) : Int)), some (.frl ((allB ins).map sW)), some (.int (1 + v)), some (.frl (s.map sW)), a7, a8, a9, a10, a11, a12, a13, a14, a15, a16, a17, some (mW m), a19, a20] S = .ok (.frl (((allB ins).filter fun b => ft m b && !decide (b ∈ s)).map sW)) S := by
        intro m S hm a7 a8 a9 a10 a11 a12 a13 a14 a15 a16 a17 a19 a20
        refine compF (allB ins) sW _ sW ?_ (Nat.le_trans (hfl _) (szn (by decide))) ?_ ?_
        · simp only [wq_a, wq_b, wq_c, wq_d, wq_e, wq_f, wq_g, Int.reduceToNat, Int.reduceLE, Int.reduceLT, Int.reduceNeg, startD, List.replicate, Nat.reduceAdd, Nat.reduceSub, Nat.reduceEqDiff, if_true, if_false, Int.reduceEq, Int.reduceAdd, Int.reduceSub, Int.reduceMul, eq_self, itemsD]
          exact ⟨trivial, trivial, fun _ _ => rfl⟩
        · intro b hb S' _
          have hbl := allB_len ins b hb
          have := lets_ok (m := m) (b := b) (S := S') (by omega) (by omega)
          simp only [wq_a, wq_b, wq_c, wq_d, wq_e, wq_f, wq_g, Int.reduceToNat, Int.reduceLE, Int.reduceLT, Int.reduceNeg, startD, List.replicate, Nat.reduceAdd, Nat.reduceSub, Nat.reduceEqDiff, if_true, if_false, Int.reduceEq, Int.reduceAdd, Int.reduceSub, Int.reduceMul, eq_self, wipeD, sW, mW, this]
          cases hf : ft m b with
          | false =>
            simp only [wq_a, wq_b, wq_c, wq_d, wq_e, wq_f, wq_g, Int.reduceToNat, Int.reduceLE, Int.reduceLT, Int.reduceNeg, startD, List.replicate, Nat.reduceAdd, Nat.reduceSub, Nat.reduceEqDiff, if_true, if_false, Int.reduceEq, Int.reduceAdd, Int.reduceSub, Int.reduceMul, eq_self]
            exact ⟨by first | rfl | trivial, by first | rfl | trivial, by first | rfl | trivial, fun _ => ⟨by first | rfl | trivial, by first | rfl | trivial⟩⟩
          | true =>
            have hb2 : ∀ S : Sto, hasD (.str (W (wB b))) (.frl (s.map sW)) S = some (decide (b ∈ s)) := fun S => has_btF
            simp only [wq_a, wq_b, wq_c, wq_d, wq_e, wq_f, wq_g, Int.reduceToNat, Int.reduceLE, Int.reduceLT, Int.reduceNeg, startD, List.replicate, Nat.reduceAdd, Nat.reduceSub, Nat.reduceEqDiff, if_true, if_false, Int.reduceEq, Int.reduceAdd, Int.reduceSub, Int.reduceMul, eq_self, notInD, hb2]
            exact ⟨by first | rfl | trivial, by first | rfl | trivial, by simp, fun _ => ⟨by first | rfl | trivial, by first | rfl | trivial⟩⟩
        · intro b _ _; rfl
      have egood : goodM ins s = (allL ins).filter fun m => (allB ins).all fun b => !(ft m b && !decide (b ∈ s)) := by
        unfold goodM
        rw [← allL_eq i4]
        refine List.filter_congr fun m hm => ?_
        rw [Bool.eq_iff_iff, List.all_eq_true, List.all_eq_true]
        constructor
        · intro h b hb
          cases hf : ft m b with
          | false => rfl
          | true =>
            have := h b ((bts_in (allB_len ins b hb)).mpr hf)
            rw [this]
            rfl
        · intro h b hb
          have hb' : b ∈ btsM ins m := hb
          obtain ⟨b1, b2⟩ := List.mem_filter.mp hb'
          have := h b b1
          rw [b2] at this
          simpa using this
      have ml : (allL ins).length ≤ 81 := by
        rw [allL_many]
        exact Nat.pow_le_pow_right (n := 3) (j := 4) (by decide) i4
      have hgood : ∀ (S : Sto) (a7 a8 a9 a10 a11 a12 a13 a14 a15 a16 a17 a18 a19 a20 : Option D), dFrz (dComp [18] (iVal (dCallF 1 (F__law_marks 40) (dCons (dVar 3) dNil))) (gVar 18) (d2T eqD (dFrz (dComp [20] (iVal (dVar 4)) (gVar 20) (tAndD (tstB (dCallF 2 F__law_lets (dCons (dVar 18) (dCons (dVar 20) dNil)))) (d2T notInD (dVar 20) (dVar 6))) (dVar 20))) (dLstF dNil)) (dVar 18)) [some x0, some (.ref l), some (.int (0 + ((turn : Nat) : Int))), some (.int ((ins : Nat) : Int)), some (.frl ((allB ins).map sW)), some (.int (1 + v)), some (.frl (s.map sW)), a7, a8, a9, a10, a11, a12, a13, a14, a15, a16, a17, a18, a19, a20] S = .ok (.frl ((goodM ins s).map mW)) S := by
        intro S a7 a8 a9 a10 a11 a12 a13 a14 a15 a16 a17 a18 a19 a20
        rw [egood]
        refine compF (allL ins) mW _ mW ?_ (Nat.le_trans (List.length_filter_le _ _) (szn (by omega))) ?_ ?_
        · simp only [wq_a, wq_b, wq_c, wq_d, wq_e, wq_f, wq_g, Int.reduceToNat, Int.reduceLE, Int.reduceLT, Int.reduceNeg, startD, List.replicate, Nat.reduceAdd, Nat.reduceSub, Nat.reduceEqDiff, if_true, if_false, Int.reduceEq, Int.reduceAdd, Int.reduceSub, Int.reduceMul, eq_self, lm, itemsD]
          exact ⟨trivial, trivial, fun _ _ => rfl⟩
        · intro m hm S' _
          simp only [wq_a, wq_b, wq_c, wq_d, wq_e, wq_f, wq_g, Int.reduceToNat, Int.reduceLE, Int.reduceLT, Int.reduceNeg, startD, List.replicate, Nat.reduceAdd, Nat.reduceSub, Nat.reduceEqDiff, if_true, if_false, Int.reduceEq, Int.reduceAdd, Int.reduceSub, Int.reduceMul, eq_self, wipeD, hbad m S' (allL_len ins hm)]
          rw [w_eqNil (f := sW) (n := 0) fun b _ => gd_W (wB_ok b)]
          simp only [wq_a, wq_b, wq_c, wq_d, wq_e, wq_f, wq_g, Int.reduceToNat, Int.reduceLE, Int.reduceLT, Int.reduceNeg, startD, List.replicate, Nat.reduceAdd, Nat.reduceSub, Nat.reduceEqDiff, if_true, if_false, Int.reduceEq, Int.reduceAdd, Int.reduceSub, Int.reduceMul, eq_self]
          exact ⟨by first | rfl | trivial, by first | rfl | trivial, by first | rfl | trivial, fun _ => ⟨by first | rfl | trivial, by first | rfl | trivial⟩⟩
        · intro m _ _; rfl
      simp only [hgood, wq_a, wq_b, wq_c, wq_d, wq_e, wq_f, wq_g, Int.reduceToNat, Int.reduceLE, Int.reduceLT, Int.reduceNeg, startD, List.replicate, Nat.reduceAdd, Nat.reduceSub, Nat.reduceEqDiff, if_true, if_false, Int.reduceEq, Int.reduceAdd, Int.reduceSub, Int.reduceMul, eq_self]
      have hcov : Cov (mks ins s) s := cov_mks hs4
      have hmn : mn (mks ins s) s ≤ s.length := mn_lt hcov
      have hgm : ∀ q ∈ fs (mks ins s) s, q.1 ∈ goodM ins s := fun q hq => (mks_in ((fs_ok hcov).1 q hq)).1
      have hgl : (goodM ins s).length ≤ 81 := by rw [egood]; exact Nat.le_trans (List.length_filter_le _ _) ml
      have hg4 : ∀ g ∈ goodM ins s, g.length = ins := fun g hg => (good_iff.mp hg).1
      have hcv : ∀ (i : Nat) (S : Sto), i ≤ s.length → F__law_covers 40 [.frl ((goodM ins s).map mW), .frl (s.map sW), .int ((i : Nat) : Int)] S = .ok (cvD (cvr i (goodM ins s) s)) S := fun i S hi => law_covers_ok i4 i (by omega) (by omega) hgl hsl hg4 hs4
      have clo : ∀ i, i < mn (mks ins s) s → cvr i (goodM ins s) s = none := fun i hi => cvr_few hs4 (fun g hg => hg) hi
      have chi : cvr (mn (mks ins s) s) (goodM ins s) s = some ((fs (mks ins s) s).map (·.1)) := cvr_fs _ (pre := []) hs4 rfl hcov rfl hgm
      have e1 : ((s.length : Nat) : Int) + 1 = ((s.length + 1 : Nat) : Int) := rfl
      simp only [List.length_map, e1]
      rw [w_ite (rng_ok (by omega))]
      simp only [wq_a, wq_b, wq_c, wq_d, wq_e, wq_f, wq_g, Int.reduceToNat, Int.reduceLE, Int.reduceLT, Int.reduceNeg, startD, List.replicate, Nat.reduceAdd, Nat.reduceSub, Nat.reduceEqDiff, if_true, if_false, Int.reduceEq, Int.reduceAdd, Int.reduceSub, Int.reduceMul, eq_self, Int.toNat_natCast]
      refine w_rangeP (fun i sd S' => S' = S5 ∧ ∃ a9, sd = [some x0, some (.ref l), some (.int (0 + ((turn : Nat) : Int))), some (.int ((ins : Nat) : Int)), some (.frl ((allB ins).map sW)), some (.int (1 + v)), some (.frl (s.map sW)), some (.frl ((goodM ins s).map mW)), some (cvD (if i ≤ mn (mks ins s) s then none else some ((fs (mks ins s) s).map (·.1)))), a9, a10, a11, a12, a13, a14, a15, a16, a17, a18, a19, a20]) 0 (s.length + 1) (fun _ _ _ _ _ => rfl) ⟨rfl, a9, by rw [if_pos (Nat.zero_le _)]; rfl⟩ ?_ ?_
      rotate_left
      · rintro i sd S' hi ⟨rfl, b9, rfl⟩
        have hz : (0 : Int) + ((i : Nat) : Int) = ((i : Nat) : Int) := by omega
        simp only [wq_a, wq_b, wq_c, wq_d, wq_e, wq_f, wq_g, Int.reduceToNat, Int.reduceLE, Int.reduceLT, Int.reduceNeg, startD, List.replicate, Nat.reduceAdd, Nat.reduceSub, Nat.reduceEqDiff, if_true, if_false, Int.reduceEq, Int.reduceAdd, Int.reduceSub, Int.reduceMul, eq_self, w_isN, cvD_none, hz]
        by_cases c : i ≤ mn (mks ins s) s
        · rw [if_pos c]
          simp only [wq_a, wq_b, wq_c, wq_d, wq_e, wq_f, wq_g, Int.reduceToNat, Int.reduceLE, Int.reduceLT, Int.reduceNeg, startD, List.replicate, Nat.reduceAdd, Nat.reduceSub, Nat.reduceEqDiff, if_true, if_false, Int.reduceEq, Int.reduceAdd, Int.reduceSub, Int.reduceMul, eq_self, decide_true, hcv i S' (by omega)]
          refine ⟨by first | rfl | trivial, some (.int ((i : Nat) : Int)), ?_⟩
          by_cases c2 : i = mn (mks ins s) s
          · rw [c2, chi, if_neg (by omega)]
          · rw [clo i (by omega), if_pos (by omega)]
        · rw [if_neg c]
          simp only [wq_a, wq_b, wq_c, wq_d, wq_e, wq_f, wq_g, Int.reduceToNat, Int.reduceLE, Int.reduceLT, Int.reduceNeg, startD, List.replicate, Nat.reduceAdd, Nat.reduceSub, Nat.reduceEqDiff, if_true, if_false, Int.reduceEq, Int.reduceAdd, Int.reduceSub, Int.reduceMul, eq_self, reduceCtorEq, decide_false]
          refine ⟨by first | rfl | trivial, some (.int ((i : Nat) : Int)), ?_⟩
          rw [if_neg (by omega)]
      rintro sd S' ⟨rfl, b9, rfl⟩
      rw [if_neg (by omega)]
      have hlf : ∀ (xs : List D) (S : Sto), listF [.frl xs] S = .ok (.frl xs) S := fun xs S => rfl
      have ed : cvD (some ((fs (mks ins s) s).map (·.1))) = .frl ((fs (mks ins s) s).map fun q => mW q.1) := by
        show D.frl _ = D.frl _
        rw [List.map_map]
        rfl
      have hr := fun (S : Sto) => fewest_raw (S := S) i1 i4 hs4 hsl (rise_sub hsub)
      have hfl16 : (fs (mks ins s) s).length ≤ 16 := Nat.le_trans (fsF_le _ _) hsl
      rw [ed]
      simp only [wq_a, wq_b, wq_c, wq_d, wq_e, wq_f, wq_g, Int.reduceToNat, Int.reduceLE, Int.reduceLT, Int.reduceNeg, startD, List.replicate, Nat.reduceAdd, Nat.reduceSub, Nat.reduceEqDiff, if_true, if_false, Int.reduceEq, Int.reduceAdd, Int.reduceSub, Int.reduceMul, eq_self, hlf]
      rw [w_ite (rng_okI (by decide) (by decide))]
      simp only [wq_a, wq_b, wq_c, wq_d, wq_e, wq_f, wq_g, Int.reduceToNat, Int.reduceLE, Int.reduceLT, Int.reduceNeg, startD, List.replicate, Nat.reduceAdd, Nat.reduceSub, Nat.reduceEqDiff, if_true, if_false, Int.reduceEq, Int.reduceAdd, Int.reduceSub, Int.reduceMul, eq_self]
      generalize (fs (mks ins s) s) = F at hr hfl16 ⊢
      refine w_rangeP (fun _ sd S' => At l S' ∧ ∃ a11 a16, sd = [some x0, some (.ref l), some (.int (0 + ((turn : Nat) : Int))), some (.int ((ins : Nat) : Int)), some (.frl ((allB ins).map sW)), some (.int (1 + v)), some (.frl (s.map sW)), some (.frl ((goodM ins s).map mW)), some (.frl (F.map fun q => mW q.1)), b9, some (.frl (s.map sW)), a11, a12, a13, a14, a15, a16, a17, a18, a19, a20]) 0 2 (fun _ _ _ _ _ => rfl) ⟨at5, _, _, rfl⟩ ?_ ?_
      rotate_left
      · rintro i sd S' _ ⟨at', c11, c16, rfl⟩
        have hg : (S' ++ [DO.lst (F.map fun q => mW q.1)])[S'.length]? = some (.lst (F.map fun q => mW q.1)) := get_last
        have hsm : F__law_same 40 [.ref S'.length, .frl (F.map fun q => mW q.1)] (S' ++ [DO.lst (F.map fun q => mW q.1)]) = .ok (.bl true) (S' ++ [DO.lst (F.map fun q => mW q.1)]) := by
          refine same2_ok 1 38 (Sm.lst (xs := F.map fun q => mW q.1) (ys := F.map fun q => mW q.1) ?_ rfl (by rw [List.length_map]; omega) rfl fun i x y hx hy => ?_)
          · simp only [lsD, hg]
          · rw [hx] at hy
            cases hy
            obtain ⟨q, _, rfl⟩ := List.mem_map.mp (List.mem_of_getElem? hx)
            exact .str (strOk_W (wM_ok q.1))
        have gs : GD 1 (.frl (s.map sW)) := gd_frl sW_gd0
        simp only [wq_a, wq_b, wq_c, wq_d, wq_e, wq_f, wq_g, Int.reduceToNat, Int.reduceLE, Int.reduceLT, Int.reduceNeg, startD, List.replicate, Nat.reduceAdd, Nat.reduceSub, Nat.reduceEqDiff, if_true, if_false, Int.reduceEq, Int.reduceAdd, Int.reduceSub, Int.reduceMul, eq_self, hr, hsm]
        rw [w_neG gs gs]
        simp only [wq_a, wq_b, wq_c, wq_d, wq_e, wq_f, wq_g, Int.reduceToNat, Int.reduceLE, Int.reduceLT, Int.reduceNeg, startD, List.replicate, Nat.reduceAdd, Nat.reduceSub, Nat.reduceEqDiff, if_true, if_false, Int.reduceEq, Int.reduceAdd, Int.reduceSub, Int.reduceMul, eq_self, decide_true, Bool.not_true]
        rw [w_ite (isTy_lst hg)]
        simp only [wq_a, wq_b, wq_c, wq_d, wq_e, wq_f, wq_g, Int.reduceToNat, Int.reduceLE, Int.reduceLT, Int.reduceNeg, startD, List.replicate, Nat.reduceAdd, Nat.reduceSub, Nat.reduceEqDiff, if_true, if_false, Int.reduceEq, Int.reduceAdd, Int.reduceSub, Int.reduceMul, eq_self]
        rw [w_appL hg (szn (by rw [List.length_map]; omega)), set_last]
        exact ⟨at'.app _, _, _, rfl⟩
      rintro sd S' ⟨at', c11, c16, rfl⟩
      simp only [wq_a, wq_b, wq_c, wq_d, wq_e, wq_f, wq_g, Int.reduceToNat, Int.reduceLE, Int.reduceLT, Int.reduceNeg, startD, List.replicate, Nat.reduceAdd, Nat.reduceSub, Nat.reduceEqDiff, if_true, if_false, Int.reduceEq, Int.reduceAdd, Int.reduceSub, Int.reduceMul, eq_self]
      refine (far_ok at' (lo := 1) (hi := 4)).w ?_
      rintro _ S6 d6 ⟨od, rfl, hod⟩
      simp only [wq_a, wq_b, wq_c, wq_d, wq_e, wq_f, wq_g, Int.reduceToNat, Int.reduceLE, Int.reduceLT, Int.reduceNeg, startD, List.replicate, Nat.reduceAdd, Nat.reduceSub, Nat.reduceEqDiff, if_true, if_false, Int.reduceEq, Int.reduceAdd, Int.reduceSub, Int.reduceMul, eq_self, List.length_map, e1]
      refine (draw d6.at (many := ((s.length + 1 : Nat) : Int))).w ?_
      rintro _ S7 d7 ⟨kk, rfl, k0, k1⟩
      obtain ⟨k, rfl⟩ : ∃ n : Nat, kk = ((n : Nat) : Int) := ⟨kk.toNat, by omega⟩
      have mm1 : ∀ {S : Sto} {Q : D → Sto → Prop} {X : Exc → Sto → Prop}, Wp (mulD (.str (Str.ofString "0")) (.int (((ins : Nat) : Int) + 1)) S) Q X = Q (.str (W (List.replicate (ins + 1) 48))) S := fun {S Q X} => by
        rw [show ((ins : Nat) : Int) + 1 = ((ins + 1 : Nat) : Int) from rfl, W_ze', mulWn (by omega)]
      have mm2 : ∀ {S : Sto} {Q : D → Sto → Prop} {X : Exc → Sto → Prop}, Wp (mulD (.str (Str.ofString "-")) (.int ((ins : Nat) : Int)) S) Q X = Q (.str (W (List.replicate ins 45))) S := fun {S Q X} => by
        rw [W_dash', mulWn (by omega)]
      have mm3 : ∀ {S : Sto} {Q : D → Sto → Prop} {X : Exc → Sto → Prop}, Wp (mulD (.str (Str.ofString "2")) (.int ((ins : Nat) : Int)) S) Q X = Q (.str (W (List.replicate ins 50))) S := fun {S Q X} => by
        rw [W_two, mulWn (by omega)]
      have mm4 : ∀ {S : Sto} {Q : D → Sto → Prop} {X : Exc → Sto → Prop}, Wp (mulD (.str (Str.ofString "1")) (.int ((ins : Nat) : Int)) S) Q X = Q (.str (W (List.replicate ins 49))) S := fun {S Q X} => by
        rw [W_one', mulWn (by omega)]
      have mm5 : ∀ {S : Sto} {Q : D → Sto → Prop} {X : Exc → Sto → Prop}, Wp (mulD (.str (Str.ofString "0")) (.int ((ins : Nat) : Int)) S) Q X = Q (.str (W (List.replicate ins 48))) S := fun {S Q X} => by
        rw [W_ze', mulWn (by omega)]
      simp only [wq_a, wq_b, wq_c, wq_d, wq_e, wq_f, wq_g, Int.reduceToNat, Int.reduceLE, Int.reduceLT, Int.reduceNeg, startD, List.replicate, Nat.reduceAdd, Nat.reduceSub, Nat.reduceEqDiff, if_true, if_false, Int.reduceEq, Int.reduceAdd, Int.reduceSub, Int.reduceMul, eq_self, slT, mm1, mm2, mm3, W_empty]
      refine (draw d7.at (many := 4)).w ?_
      rintro _ S8 d8 ⟨z, rfl, z0, z1⟩
      obtain ⟨w, hw, hwl, hwo, hwb⟩ : ∃ w : List Nat, atI [D.str (W []), .str (W (48 :: List.replicate ins 48)), .str (W (List.replicate ins 45)), .str (W (List.replicate ins 50))] z = some (.str (W w)) ∧ w.length ≤ 5 ∧ Wok w ∧ isWord w ((ins : Nat) : Int) b01 = false := by
        have all : ∀ (n c : Nat) (l : Int), 1 ≤ n → c ∉ b01 → isWord (List.replicate n c) l b01 = false := fun n c l hn hc => by
          unfold isWord
          rw [List.all_replicate, if_neg (by omega), decide_eq_false hc, Bool.and_false]
        have wr : ∀ (n c : Nat), c < 1114112 → Wok (List.replicate n c) := fun n c h => fun x hx => by rw [(List.mem_replicate.mp hx).2]; exact h
        have : z = 0 ∨ z = 1 ∨ z = 2 ∨ z = 3 := by omega
        rcases this with rfl | rfl | rfl | rfl
        · refine ⟨[], rfl, by simp, wr 0 0 (by decide), ?_⟩
          unfold isWord
          rw [decide_eq_false (by simp; omega), Bool.false_and]
        · refine ⟨_, rfl, by simp; omega, wr (ins + 1) 48 (by decide), ?_⟩
          unfold isWord
          rw [decide_eq_false (by simp; omega), Bool.false_and]
        · exact ⟨_, rfl, by simp; omega, wr _ _ (by decide), all _ _ _ i1 (by decide)⟩
        · exact ⟨_, rfl, by simp; omega, wr _ _ (by decide), all _ _ _ i1 (by decide)⟩
      simp only [wq_a, wq_b, wq_c, wq_d, wq_e, wq_f, wq_g, Int.reduceToNat, Int.reduceLE, Int.reduceLT, Int.reduceNeg, startD, List.replicate, Nat.reduceAdd, Nat.reduceSub, Nat.reduceEqDiff, if_true, if_false, Int.reduceEq, Int.reduceAdd, Int.reduceSub, Int.reduceMul, eq_self, hw]
      rw [w_ite (szn (by simp; omega))]
      simp only [wq_a, wq_b, wq_c, wq_d, wq_e, wq_f, wq_g, Int.reduceToNat, Int.reduceLE, Int.reduceLT, Int.reduceNeg, startD, List.replicate, Nat.reduceAdd, Nat.reduceSub, Nat.reduceEqDiff, if_true, if_false, Int.reduceEq, Int.reduceAdd, Int.reduceSub, Int.reduceMul, eq_self, slF]
      rw [w_ite (szn (by simp; omega))]
      simp only [wq_a, wq_b, wq_c, wq_d, wq_e, wq_f, wq_g, Int.reduceToNat, Int.reduceLE, Int.reduceLT, Int.reduceNeg, startD, List.replicate, Nat.reduceAdd, Nat.reduceSub, Nat.reduceEqDiff, if_true, if_false, Int.reduceEq, Int.reduceAdd, Int.reduceSub, Int.reduceMul, eq_self]
      have ebad : List.take k (s.map sW) ++ [D.str (W w)] ++ List.drop k (s.map sW) = (((s.take k).map wB) ++ w :: ((s.drop k).map wB)).map fun w => .str (W w) := by
        rw [← List.map_take, ← List.map_drop, List.map_append, List.map_cons, List.map_map, List.map_map, List.append_assoc]
        rfl
      have hkl : (s.take k).length = k := by rw [List.length_take]; omega
      have fb := fun S => fw_beat (S := S) (pre := (s.take k).map wB) (post := (s.drop k).map wB) (w := w) i1 i4 (fun v hv => by
        have : v = w ∨ ∃ b ∈ s, v = wB b := by
          rcases List.mem_append.mp hv with h | h
          · obtain ⟨b, hb, rfl⟩ := List.mem_map.mp h
            exact .inr ⟨b, List.mem_of_mem_take hb, rfl⟩
          · rcases List.mem_cons.mp h with h | h
            · exact .inl h
            · obtain ⟨b, hb, rfl⟩ := List.mem_map.mp h
              exact .inr ⟨b, List.mem_of_mem_drop hb, rfl⟩
        rcases this with rfl | ⟨b, hb, rfl⟩
        · exact ⟨hwo, by omega⟩
        · exact ⟨wB_ok b, by rw [wB_len, hs4 b hb]; omega⟩) (fun v hv => by
        obtain ⟨b, hb, rfl⟩ := List.mem_map.mp hv
        exact isW' (hs4 b (List.mem_of_mem_take hb))) hwb
      rw [List.length_map, hkl] at fb
      rw [ebad]
      have bpur : (D.frl ((((s.take k).map wB) ++ w :: ((s.drop k).map wB)).map fun w => .str (W w))).pur = true := pur_list fun _ _ => rfl
      have fo := fun {x : D} S => fw_odd (x := x) (S := S) hod
      generalize D.frl ((((s.take k).map wB) ++ w :: ((s.drop k).map wB)).map fun w => .str (W w)) = B at fb bpur ⊢
      simp only [wq_a, wq_b, wq_c, wq_d, wq_e, wq_f, wq_g, Int.reduceToNat, Int.reduceLE, Int.reduceLT, Int.reduceNeg, startD, List.replicate, Nat.reduceAdd, Nat.reduceSub, Nat.reduceEqDiff, if_true, if_false, Int.reduceEq, Int.reduceAdd, Int.reduceSub, Int.reduceMul, eq_self, w_dLam, List.append_assoc, List.cons_append, List.nil_append, List.length_append]
      generalize hn8 : S8.length = n8
      have hat : ∀ (i : Nat), i < 4 → (S8 ++ [DO.dic 5 [(D.int 0, D.non)], DO.dic 5 [(D.int 1, D.non)], DO.dic 5 [(D.int 2, D.non)], DO.dic 5 [(D.int 3, D.non)]])[n8 + i]? = some (.dic 5 [(.int ((i : Nat) : Int), .non)]) := fun i hi => by
        subst hn8
        rw [List.getElem?_append_right (by omega), Nat.add_sub_cancel_left]
        have : i = 0 ∨ i = 1 ∨ i = 2 ∨ i = 3 := by omega
        rcases this with rfl | rfl | rfl | rfl <;> rfl
      have at9 : At l (S8 ++ [DO.dic 5 [(D.int 0, D.non)], DO.dic 5 [(D.int 1, D.non)], DO.dic 5 [(D.int 2, D.non)], DO.dic 5 [(D.int 3, D.non)]]) := d8.at.app _
      generalize S8 ++ [DO.dic 5 [(D.int 0, D.non)], DO.dic 5 [(D.int 1, D.non)], DO.dic 5 [(D.int 2, D.non)], DO.dic 5 [(D.int 3, D.non)]] = S9 at hat at9
      rw [compE_w (List.range 4) (fun i => .ref (n8 + i)) (wk4 k) ?hi (szn (by decide)) ?hx ?hb]
      case hi =>
        simp only [wq_a, wq_b, wq_c, wq_d, wq_e, wq_f, wq_g, Int.reduceToNat, Int.reduceLE, Int.reduceLT, Int.reduceNeg, startD, List.replicate, Nat.reduceAdd, Nat.reduceSub, Nat.reduceEqDiff, if_true, if_false, Int.reduceEq, Int.reduceAdd, Int.reduceSub, Int.reduceMul, eq_self, itemsD]
        exact ⟨by first | rfl | trivial, by first | rfl | trivial, fun _ _ => rfl⟩
      case hb =>
        intro i hi
        unfold wk4
        split <;> rfl
      case hx =>
        intro i hi S' g
        have hi4 : i < 4 := by simpa using hi
        have hSi := g.get (hat i hi4)
        simp only [wq_a, wq_b, wq_c, wq_d, wq_e, wq_f, wq_g, Int.reduceToNat, Int.reduceLE, Int.reduceLT, Int.reduceNeg, startD, List.replicate, Nat.reduceAdd, Nat.reduceSub, Nat.reduceEqDiff, if_true, if_false, Int.reduceEq, Int.reduceAdd, Int.reduceSub, Int.reduceMul, eq_self, wipeD]
        refine ⟨by first | rfl | trivial, ?_⟩
        have hi2 : i = 0 ∨ i = 1 ∨ i = 2 ∨ i = 3 := by omega
        have r3 : (List.replicate 2 [D.str (W (List.replicate ins 48))]).flatten = [D.str (W (List.replicate ins 48)), D.str (W (List.replicate ins 48))] := rfl
        rcases hi2 with rfl | rfl | rfl | rfl
        · rw [kindVE_A (i := 0) rfl hSi rfl]
          generalize hM : maskD _ = md
          have m12 : md[12]? = some (some (.int od)) := by rw [← hM]; exact mask_at rfl rfl
          have m14 : md[14]? = some (some B) := by rw [← hM]; exact mask_at rfl bpur
          simp only [wq_a, wq_b, wq_c, wq_d, wq_e, wq_f, wq_g, Int.reduceToNat, Int.reduceLE, Int.reduceLT, Int.reduceNeg, startD, List.replicate, Nat.reduceAdd, Nat.reduceSub, Nat.reduceEqDiff, if_true, if_false, Int.reduceEq, Int.reduceAdd, Int.reduceSub, Int.reduceMul, eq_self, m12, m14, fo, kind_M]
          exact ⟨by first | rfl | trivial, by first | rfl | trivial⟩
        · rw [kindVE_A (i := 1) rfl hSi rfl]
          generalize hM : maskD _ = md
          have m3 : md[3]? = some (some (.int ((ins : Nat) : Int))) := by rw [← hM]; exact mask_at rfl rfl
          simp only [wq_a, wq_b, wq_c, wq_d, wq_e, wq_f, wq_g, Int.reduceToNat, Int.reduceLE, Int.reduceLT, Int.reduceNeg, startD, List.replicate, Nat.reduceAdd, Nat.reduceSub, Nat.reduceEqDiff, if_true, if_false, Int.reduceEq, Int.reduceAdd, Int.reduceSub, Int.reduceMul, eq_self, m3, mm4, mm5, fw_fall i1 i4, kind_M]
          exact ⟨by first | rfl | trivial, by first | rfl | trivial⟩
        · rw [kindVE_A (i := 2) rfl hSi rfl]
          generalize hM : maskD _ = md
          have m3 : md[3]? = some (some (.int ((ins : Nat) : Int))) := by rw [← hM]; exact mask_at rfl rfl
          simp only [wq_a, wq_b, wq_c, wq_d, wq_e, wq_f, wq_g, Int.reduceToNat, Int.reduceLE, Int.reduceLT, Int.reduceNeg, startD, List.replicate, Nat.reduceAdd, Nat.reduceSub, Nat.reduceEqDiff, if_true, if_false, Int.reduceEq, Int.reduceAdd, Int.reduceSub, Int.reduceMul, eq_self, m3, mm5]
          rw [show (2 : Int) = ((2 : Nat) : Int) from rfl, w_mulF (xs := [D.str (W (List.replicate ins 48))]) (n := 2) (by decide) (show (1 : Nat) ≤ 1000 by decide), r3]
          simp only [wq_a, wq_b, wq_c, wq_d, wq_e, wq_f, wq_g, Int.reduceToNat, Int.reduceLE, Int.reduceLT, Int.reduceNeg, startD, List.replicate, Nat.reduceAdd, Nat.reduceSub, Nat.reduceEqDiff, if_true, if_false, Int.reduceEq, Int.reduceAdd, Int.reduceSub, Int.reduceMul, eq_self, m3, fw_dup i1 i4, kind_M]
          exact ⟨by first | rfl | trivial, by first | rfl | trivial⟩
        · rw [kindVE_A (i := 3) rfl hSi rfl]
          generalize hM : maskD _ = md
          have m3 : md[3]? = some (some (.int ((ins : Nat) : Int))) := by rw [← hM]; exact mask_at rfl rfl
          have m14 : md[14]? = some (some B) := by rw [← hM]; exact mask_at rfl bpur
          simp only [wq_a, wq_b, wq_c, wq_d, wq_e, wq_f, wq_g, Int.reduceToNat, Int.reduceLE, Int.reduceLT, Int.reduceNeg, startD, List.replicate, Nat.reduceAdd, Nat.reduceSub, Nat.reduceEqDiff, if_true, if_false, Int.reduceEq, Int.reduceAdd, Int.reduceSub, Int.reduceMul, eq_self, m3, m14, fb, kind_B]
          exact ⟨by first | rfl | trivial, by first | rfl | trivial⟩
      simp only [wq_a, wq_b, wq_c, wq_d, wq_e, wq_f, wq_g, Int.reduceToNat, Int.reduceLE, Int.reduceLT, Int.reduceNeg, startD, List.replicate, Nat.reduceAdd, Nat.reduceSub, Nat.reduceEqDiff, if_true, if_false, Int.reduceEq, Int.reduceAdd, Int.reduceSub, Int.reduceMul, eq_self]
      rw [show (3 : Int) = ((3 : Nat) : Int) from rfl, w_mulF (by decide) (by decide)]
      simp only [wq_a, wq_b, wq_c, wq_d, wq_e, wq_f, wq_g, Int.reduceToNat, Int.reduceLE, Int.reduceLT, Int.reduceNeg, startD, List.replicate, Nat.reduceAdd, Nat.reduceSub, Nat.reduceEqDiff, if_true, if_false, Int.reduceEq, Int.reduceAdd, Int.reduceSub, Int.reduceMul, eq_self]
      rw [w_ite (szn (by decide))]
      have wsm := fun S => wk4_same (k := k) (S := S)
      rw [show (List.replicate 3 [D.str "BadMarks"]).flatten = [[D.str "BadMarks"], [D.str "BadMarks"], [D.str "BadMarks"]].flatten from rfl] at wsm
      simp only [wq_a, wq_b, wq_c, wq_d, wq_e, wq_f, wq_g, Int.reduceToNat, Int.reduceLE, Int.reduceLT, Int.reduceNeg, startD, List.replicate, Nat.reduceAdd, Nat.reduceSub, Nat.reduceEqDiff, if_true, if_false, Int.reduceEq, Int.reduceAdd, Int.reduceSub, Int.reduceMul, eq_self, wsm]
      exact ⟨at9, _, _, _, _, _, _, _, _, _, _, _, _, _, _, _, _, _, _, _, rfl⟩
  obtain ⟨d, S', e, rfl⟩ := Wp.ok main
  exact ⟨S', e⟩
theorem plain : ∀ ns : List Int, ns.length ≤ 63 → ∃ S', F_law [.frl (ns.map .int)] [] = .ok (.bl true) S' := fun ns _ => law_gen (S0 := []) rfl
theorem plain2 : ∀ ns : List Int, ns.length ≤ 63 → ∃ S', F_law [.ref 0] [.lst (ns.map .int)] = .ok (.bl true) S' := fun ns _ => law_gen (S0 := [.dead]) rfl
end Lw

namespace Lw
open PySem PySem.Spec PyProof.Rows L2 DL
theorem run (w : World) : HandSHeadRun.RunEq R (PySem.W.view R.prog [45]) hk ob 20000 loose w := by
  intro os
  kernel_rfl
end Lw
open PySem PySem.W PySem.Calls PyProof.Rows
theorem PySem.Challenge.cw_tablebeat_k12_the_fewest_marks_holds : PySem.Challenge.rw_tablebeat_k12_the_fewest_marks.Holds := by
  w_on; o_law
  refine HandSHeadRun.head_any (r := OpenLaw.row PySem.Challenge.rw_tablebeat_k12_the_fewest_marks) (q := view (OpenLaw.row PySem.Challenge.rw_tablebeat_k12_the_fewest_marks).prog [45]) (H := Lw.hk) (ob := Lw.ob) (M := 20000) (loose := Lw.loose) (d := HandSHeadRun.topDef (OpenLaw.row PySem.Challenge.rw_tablebeat_k12_the_fewest_marks).prog 45) (kwd := []) Lw.ob_eq
    (by kernel_rfl) (fun s => by kernel_rfl) Lw.run (by kernel_rfl) (by kernel_rfl) (by kernel_rfl) (by rfl) (by first | assumption | decide +kernel) (by decide +kernel) ⟨rfl, rfl, rfl, rfl, rfl, by decide +kernel⟩ ?hw ?hc
  case hw => w_witness2
  case hc =>
    refine DL.walk_DL (l := PySem.Challenge.rw_tablebeat_k12_the_fewest_marks) (k := 49) (x := "_law_script") (Fl := Lw.F_law) rfl (by kernel_rfl) ⟨rfl, by decide, by decide⟩ Lw.plain Lw.plain2 ?F
    intro w mg fa h Y G hmg0
    obtain ⟨K, KX, c, e, TF⟩ := Y
    have T := Lw.tx_of (w := w) KX G c e
    have hmg : mg ("law" : PySem.Str) = some (.ref fa) := by
      have e : (HandSHeadRun.topDef (OpenLaw.row PySem.Challenge.rw_tablebeat_k12_the_fewest_marks).prog 45).name = ("law" : PySem.Str) := by kernel_rfl
      rw [← e]
      exact hmg0
    obtain ⟨fd, Fu⟩ := T.f_law
    have e2 := hmg.symm.trans T.g_law
    cases e2
    obtain ⟨hb, hF⟩ := Lw.d_law (P := (PySem.Challenge.rw_tablebeat_k12_the_fewest_marks).prog) (w := w) T Fu
    exact ⟨K, Lw.cl K w, fd, Lw.tf, DL.tab_tf, KX, TF, hb, fun base _ _ tb => hF base tb⟩

