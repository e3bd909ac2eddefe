import PyProof.Rows.All
import Wide.All
import OpenK.AllK
import Wide.FinOn
import HandS.ForMost
import HandS.ForExc
import HandS.CallSlots
import HandS.TupAny
import HandS.Zip
import HandS.Flow
import HandS.TupMul
import HandS.Lambda
import KE.KeyNested
import HandS.Wide
import HandS.Deep
import HandS.NoneIn
import KE.GoesEnum
import KE.GoesZip
import HandS.Defaults
import HandS.ExcInit
import KE.KStateDown
import HandS.Head0
import HandS.Head1
import HandS.Head2
import HandS.HeadEnd
import HandS.HeadHook1
import HandS.HeadHook2
import HandS.EndBits
import KE.KExcIs
import HandS.ExcIs
import HandS.ExcField
import KE.DataFind
import HandS.IsInst
import HandS.More
import HandS.EndTab
import HandS.HeadHook4
import HandS.HeadHook3
import HandS.Small
import KE.KDictKeyed
import KE.KDictDisplayH
import HandS.Conv
import HandS.SetKeys
import HandS.WordsDict
import HandS.TupLen
import KE.GoesMore
import KE.KDictZip
import HandS.Iter
import KE.LtData
import KE.SortData
import PyProof.WalkInts
import PyProof.MinMaxWalk
import KE.KDictCopyH
import KE.KDictSum
import HandS.SetFor
import PyProof.IsRules
import KE.KDflt
import HandS.RaiseMore
import HandS.Strs
import HandS.TupSets
import HandS.Codes
import PyProof.DictRoadsH
import PySem.Challenge.RW_tablebeat_k05_plain_machines
set_option Elab.async false
set_option linter.all false
set_option maxRecDepth 100000
set_option maxHeartbeats 0
namespace DL
open PySem PySem.Spec PyProof.Rows L2

inductive D where
  | non | bl (b : Bool) | int (i : Int) | str (x : Str)
  | tup (xs : List D) | frl (xs : List D) | ref (l : Nat)
  | exn (a dd : Nat) (ns : List Str) (xs : List D)
  deriving Inhabited

mutual
def D.eqd : (a b : D) → Decidable (a = b)
  | .non, .non => Decidable.isTrue rfl
  | .bl a, .bl b => if h : a = b then Decidable.isTrue (by rw [h]) else Decidable.isFalse (fun e => h (by injection e))
  | .int a, .int b => if h : a = b then Decidable.isTrue (by rw [h]) else Decidable.isFalse (fun e => h (by injection e))
  | .str a, .str b => if h : a = b then Decidable.isTrue (by rw [h]) else Decidable.isFalse (fun e => h (by injection e))
  | .tup a, .tup b => match D.eqds a b with
    | Decidable.isTrue h => Decidable.isTrue (by rw [h])
    | Decidable.isFalse h => Decidable.isFalse (fun e => h (by injection e))
  | .frl a, .frl b => match D.eqds a b with
    | Decidable.isTrue h => Decidable.isTrue (by rw [h])
    | Decidable.isFalse h => Decidable.isFalse (fun e => h (by injection e))
  | .ref a, .ref b => if h : a = b then Decidable.isTrue (by rw [h]) else Decidable.isFalse (fun e => h (by injection e))
  | .non, .bl _ => Decidable.isFalse nofun | .non, .int _ => Decidable.isFalse nofun | .non, .str _ => Decidable.isFalse nofun | .non, .tup _ => Decidable.isFalse nofun | .non, .frl _ => Decidable.isFalse nofun | .non, .ref _ => Decidable.isFalse nofun
  | .bl _, .non => Decidable.isFalse nofun | .bl _, .int _ => Decidable.isFalse nofun | .bl _, .str _ => Decidable.isFalse nofun | .bl _, .tup _ => Decidable.isFalse nofun | .bl _, .frl _ => Decidable.isFalse nofun | .bl _, .ref _ => Decidable.isFalse nofun
  | .int _, .non => Decidable.isFalse nofun | .int _, .bl _ => Decidable.isFalse nofun | .int _, .str _ => Decidable.isFalse nofun | .int _, .tup _ => Decidable.isFalse nofun | .int _, .frl _ => Decidable.isFalse nofun | .int _, .ref _ => Decidable.isFalse nofun
  | .str _, .non => Decidable.isFalse nofun | .str _, .bl _ => Decidable.isFalse nofun | .str _, .int _ => Decidable.isFalse nofun | .str _, .tup _ => Decidable.isFalse nofun | .str _, .frl _ => Decidable.isFalse nofun | .str _, .ref _ => Decidable.isFalse nofun
  | .tup _, .non => Decidable.isFalse nofun | .tup _, .bl _ => Decidable.isFalse nofun | .tup _, .int _ => Decidable.isFalse nofun | .tup _, .str _ => Decidable.isFalse nofun | .tup _, .frl _ => Decidable.isFalse nofun | .tup _, .ref _ => Decidable.isFalse nofun
  | .frl _, .non => Decidable.isFalse nofun | .frl _, .bl _ => Decidable.isFalse nofun | .frl _, .int _ => Decidable.isFalse nofun | .frl _, .str _ => Decidable.isFalse nofun | .frl _, .tup _ => Decidable.isFalse nofun | .frl _, .ref _ => Decidable.isFalse nofun
  | .ref _, .non => Decidable.isFalse nofun | .ref _, .bl _ => Decidable.isFalse nofun | .ref _, .int _ => Decidable.isFalse nofun | .ref _, .str _ => Decidable.isFalse nofun | .ref _, .tup _ => Decidable.isFalse nofun | .ref _, .frl _ => Decidable.isFalse nofun
  | .exn a b c d, .exn a' b' c' d' => match D.eqds d d' with
    | Decidable.isTrue h => if g : a = a' ∧ b = b' ∧ c = c' then Decidable.isTrue (by obtain ⟨rfl, rfl, rfl⟩ := g; rw [h]) else Decidable.isFalse (fun e => g (by injection e with e1 e2 e3 e4; exact ⟨e1, e2, e3⟩))
    | Decidable.isFalse h => Decidable.isFalse (fun e => h (by injection e))
  | .non, .exn _ _ _ _ => Decidable.isFalse nofun | .bl _, .exn _ _ _ _ => Decidable.isFalse nofun | .int _, .exn _ _ _ _ => Decidable.isFalse nofun | .str _, .exn _ _ _ _ => Decidable.isFalse nofun | .tup _, .exn _ _ _ _ => Decidable.isFalse nofun | .frl _, .exn _ _ _ _ => Decidable.isFalse nofun | .ref _, .exn _ _ _ _ => Decidable.isFalse nofun
  | .exn _ _ _ _, .non => Decidable.isFalse nofun | .exn _ _ _ _, .bl _ => Decidable.isFalse nofun | .exn _ _ _ _, .int _ => Decidable.isFalse nofun | .exn _ _ _ _, .str _ => Decidable.isFalse nofun | .exn _ _ _ _, .tup _ => Decidable.isFalse nofun | .exn _ _ _ _, .frl _ => Decidable.isFalse nofun | .exn _ _ _ _, .ref _ => Decidable.isFalse nofun
def D.eqds : (a b : List D) → Decidable (a = b)
  | [], [] => Decidable.isTrue rfl
  | [], _ :: _ => Decidable.isFalse nofun
  | _ :: _, [] => Decidable.isFalse nofun
  | x :: xs, y :: ys => match D.eqd x y, D.eqds xs ys with
    | Decidable.isTrue h, Decidable.isTrue g => Decidable.isTrue (by rw [h, g])
    | Decidable.isFalse h, _ => Decidable.isFalse (fun e => h (by injection e))
    | _, Decidable.isFalse g => Decidable.isFalse (fun e => g (by injection e))
end
instance : DecidableEq D := D.eqd

inductive DO where
  | lst (xs : List D)
  | dic (k : Nat) (kvs : List (D × D))
  | ins (c : Nat) (fs : List (Str × D))
  | dead
  deriving Inhabited, DecidableEq
def DO.live : DO → Bool
  | .dead => false
  | .dic 3 _ => false
  | .dic 4 _ => false
  | .dic 5 _ => false
  | .dic 6 _ => false
  | .dic 7 _ => false
  | _ => true

structure Exc where
  c : Nat
  fs : Option (List (Str × D))
  deriving Inhabited, DecidableEq

abbrev Sto := List DO
abbrev Sl := List (Option D)
inductive Res (α : Type) where
  | ok (a : α) (S : Sto) | exc (x : Exc) (S : Sto) | stuck
  deriving Inhabited
def Res.bind {α β : Type} (r : Res α) (k : α → Sto → Res β) : Res β := match r with
  | .ok a S => k a S
  | .exc x S => .exc x S
  | .stuck => .stuck
inductive Fl where
  | nx (sd : Sl) | ret (d : D) | brk (sd : Sl) | cnt (sd : Sl)
  deriving Inhabited

structure Cl where
  f : Nat → Addr
  T : List (Addr × Str)
  hh : NestedKey → Int
  lam : Nat → Hp → Obj → Prop
  lmb : Nat → List V → Hp → Obj → Prop
instance : CoeFun Cl (fun _ => Nat → Addr) := ⟨Cl.f⟩
def Imm : HO → Prop
  | .tup _ => True
  | .frz _ _ => True
  | .xd _ => True
  | u => ∃ c q, u = LamX.CodeO c q
theorem imm_code {c : Addr} {q : Str} : Imm (LamX.CodeO c q) := by
  unfold LamX.CodeO
  exact ⟨c, q, rfl⟩
theorem imm_tbl {ps : Array Value} (h : Imm (.tbl ps)) : False := by
  obtain ⟨c, q, z⟩ := h
  unfold LamX.CodeO at z
  cases z
def Keep (H H' : Hp) : Prop := ∀ a o, H a = some o → Imm o → H' a = some o
theorem Keep.refl (H : Hp) : Keep H H := fun _ _ e _ => e
theorem Keep.trans {H H1 H2 : Hp} (a : Keep H H1) (b : Keep H1 H2) : Keep H H2 := fun x o e i => b x o (a x o e i) i
theorem Keep.new {H : Hp} {p : Addr} {o : HO} (h : H p = none) : Keep H (upd H p o) := fun a u e _ => by
  rw [upd_ne (ne_of_none e h)]; exact e
theorem Keep.put {H : Hp} {p : Addr} {o u : HO} (h : H p = some u) (n : ¬ Imm u) : Keep H (upd H p o) := fun a v e i => by
  have : a ≠ p := fun z => by subst z; rw [h] at e; cases e; exact n i
  rw [upd_ne this]; exact e

def Ext (m m' : List Addr) : Prop := ∀ (l : Nat) (a : Addr), m[l]? = some a → m'[l]? = some a
theorem Ext.refl (m : List Addr) : Ext m m := fun _ _ e => e
theorem Ext.trans {a b c : List Addr} (x : Ext a b) (y : Ext b c) : Ext a c := fun l p e => y l p (x l p e)
theorem Ext.snoc (m : List Addr) (p : Addr) : Ext m (m ++ [p]) := fun l a e => by
  rw [List.getElem?_append_left (List.getElem?_eq_some_iff.mp e).1]; exact e

def Fz (K : PySem.W.Frag) (H : Hp) (a : Addr) (xs : List V) : Prop :=
  (∃ o, H a = some (.frz o (.lst xs))) ∨
    ∃ (o : Obj) (its : Array Value) (n : Nat), K.lookup a = some o ∧ o.cls = .type "list" ∧ o.dict = none ∧ o.data = .seq its n ∧ its.size ≤ sizeLine ∧ Vals xs its.toList
theorem Fz.sq {K : PySem.W.Frag} {H : Hp} {a : Addr} {xs : List V} (h : Fz K H a xs) : SqL K H a xs := by
  rcases h with h | h
  · exact .inl (.inr h)
  · exact .inr h
theorem Fz.keep {K : PySem.W.Frag} {H H' : Hp} {a : Addr} {xs : List V} (k : Keep H H') (h : Fz K H a xs) : Fz K H' a xs := by
  rcases h with ⟨o, h⟩ | h
  · exact .inl ⟨o, k _ _ h trivial⟩
  · exact .inr h
theorem sqT_keep {K : PySem.W.Frag} {H H' : Hp} {a : Addr} {xs : List V} (k : Keep H H') (h : SqT K H a xs) : SqT K H' a xs := by
  rcases h with (h | ⟨o, h⟩) | h
  · exact .inl (.inl (k _ _ h trivial))
  · exact .inl (.inr ⟨o, k _ _ h trivial⟩)
  · exact .inr h

mutual
def RV (K : PySem.W.Frag) (m : List Addr) (H : Hp) : D → V → Prop
  | .non, v => v = .non
  | .bl b, v => v = .bl b
  | .int i, v => v = .int i
  | .str x, v => v = .str x
  | .tup ds, v => ∃ a vs, v = .ref a ∧ SqT K H a vs ∧ RVs K m H ds vs
  | .frl ds, v => ∃ a vs, v = .ref a ∧ Fz K H a vs ∧ RVs K m H ds vs
  | .ref l, v => ∃ a, m[l]? = some a ∧ v = .ref a
  | .exn a dd ns ds, v => v = .ref a ∧ ∃ vs, RVs K m H ds vs ∧ (ns ≠ [] → H dd = some (.xd (ns.zip vs)))
def RVs (K : PySem.W.Frag) (m : List Addr) (H : Hp) : List D → List V → Prop
  | [], vs => vs = []
  | d :: ds, vs => ∃ v vs', vs = v :: vs' ∧ RV K m H d v ∧ RVs K m H ds vs'
end

section
variable {K : PySem.W.Frag} {m m' : List Addr} {H H' : Hp}
mutual
theorem RV.mono (x : Ext m m') (k : Keep H H') : ∀ (d : D) {v : V}, RV K m H d v → RV K m' H' d v
  | .non, _, h => h
  | .bl _, _, h => h
  | .int _, _, h => h
  | .str _, _, h => h
  | .tup ds, _, ⟨a, vs, e, s, r⟩ => ⟨a, vs, e, sqT_keep k s, RVs.mono x k ds r⟩
  | .frl ds, _, ⟨a, vs, e, s, r⟩ => ⟨a, vs, e, s.keep k, RVs.mono x k ds r⟩
  | .ref l, _, ⟨a, e, r⟩ => ⟨a, x l a e, r⟩
  | .exn a dd ns ds, _, ⟨e, vs, r, h⟩ => ⟨e, vs, RVs.mono x k ds r, fun n => k _ _ (h n) trivial⟩
theorem RVs.mono (x : Ext m m') (k : Keep H H') : ∀ (ds : List D) {vs : List V}, RVs K m H ds vs → RVs K m' H' ds vs
  | [], _, h => h
  | d :: ds, _, ⟨v, vs', e, r, t⟩ => ⟨v, vs', e, RV.mono x k d r, RVs.mono x k ds t⟩
end
theorem RVs.length : ∀ {ds : List D} {vs : List V}, RVs K m H ds vs → ds.length = vs.length
  | [], _, h => by cases h; rfl
  | d :: ds, _, ⟨v, vs', e, r, t⟩ => by subst e; simp [RVs.length t]
theorem RVs.get : ∀ {ds : List D} {vs : List V} {i : Nat} {d : D}, RVs K m H ds vs → ds[i]? = some d → ∃ v, vs[i]? = some v ∧ RV K m H d v
  | [], _, _, _, _, e => by simp at e
  | d :: ds, _, 0, _, ⟨v, vs', e, r, t⟩, h => by
    subst e; simp at h; subst h; exact ⟨v, rfl, r⟩
  | d :: ds, _, i + 1, _, ⟨v, vs', e, r, t⟩, h => by
    subst e
    obtain ⟨w, e1, e2⟩ := RVs.get (i := i) t (by simpa using h)
    exact ⟨w, by simpa using e1, e2⟩
theorem RVs.set {d : D} {v : V} (r : RV K m H d v) : ∀ {ds : List D} {vs : List V} (i : Nat), RVs K m H ds vs → RVs K m H (ds.set i d) (vs.set i v)
  | [], _, _, h => by cases h; exact rfl
  | _ :: _, _, 0, ⟨w, vs', e, q, t⟩ => by subst e; exact ⟨v, vs', rfl, r, t⟩
  | _ :: _, _, i + 1, ⟨w, vs', e, q, t⟩ => by subst e; exact ⟨w, vs'.set i v, rfl, q, RVs.set r i t⟩
theorem RVs.append : ∀ {ds es : List D} {vs ws : List V}, RVs K m H ds vs → RVs K m H es ws → RVs K m H (ds ++ es) (vs ++ ws)
  | [], _, _, _, h, s => by cases h; exact s
  | _ :: _, _, _, _, ⟨w, vs', e, q, t⟩, s => by subst e; exact ⟨w, _, rfl, q, RVs.append t s⟩
theorem RVs.one {d : D} {v : V} (r : RV K m H d v) : RVs K m H [d] [v] := ⟨v, [], rfl, r, rfl⟩
theorem RVs.take : ∀ {ds : List D} {vs : List V} (n : Nat), RVs K m H ds vs → RVs K m H (ds.take n) (vs.take n)
  | _, _, 0, _ => rfl
  | [], _, _ + 1, h => by cases h; exact rfl
  | _ :: _, _, n + 1, ⟨w, vs', e, q, t⟩ => by subst e; exact ⟨w, _, rfl, q, RVs.take n t⟩
theorem RVs.drop : ∀ {ds : List D} {vs : List V} (n : Nat), RVs K m H ds vs → RVs K m H (ds.drop n) (vs.drop n)
  | _, _, 0, h => h
  | [], _, _ + 1, h => by cases h; exact rfl
  | _ :: _, _, n + 1, ⟨w, vs', e, q, t⟩ => by subst e; exact RVs.drop n t
theorem RVs.rep {ds : List D} {vs : List V} (r : RVs K m H ds vs) : ∀ n : Nat, RVs K m H (List.replicate n ds).flatten (List.replicate n vs).flatten
  | 0 => rfl
  | n + 1 => by
    rw [List.replicate_succ, List.replicate_succ, List.flatten_cons, List.flatten_cons]
    exact RVs.append r (RVs.rep r n)
theorem RVs.snoc {ds : List D} {vs : List V} {d : D} {v : V} (t : RVs K m H ds vs) (r : RV K m H d v) : RVs K m H (ds ++ [d]) (vs ++ [v]) := t.append (.one r)
theorem RVs.dropLast : ∀ {ds : List D} {vs : List V}, RVs K m H ds vs → RVs K m H ds.dropLast vs.dropLast := fun {ds vs} t => by
  rw [List.dropLast_eq_take, List.dropLast_eq_take, t.length]; exact t.take _
end

def RF (K : PySem.W.Frag) (m : List Addr) (H : Hp) : List (Str × D) → List (Str × V) → Prop
  | [], gs => gs = []
  | p :: fs, gs => ∃ v gs', gs = (p.1, v) :: gs' ∧ RV K m H p.2 v ∧ RF K m H fs gs'
def key0 : D → Option Key
  | .int i => some (.inl i)
  | .str x => some (.inr x)
  | _ => none
def RD0 (K : PySem.W.Frag) (m : List Addr) (H : Hp) : List (D × D) → List (Key × V) → Prop
  | [], gs => gs = []
  | p :: fs, gs => ∃ k v gs', gs = (k, v) :: gs' ∧ key0 p.1 = some k ∧ RV K m H p.2 v ∧ RD0 K m H fs gs'
def keys0 : List D → Option (List Key)
  | [] => some []
  | d :: ds => match key0 d, keys0 ds with
    | some k, some ks => some (k :: ks)
    | _, _ => none
def key1 : D → Option (List Key)
  | .tup ds => keys0 ds
  | _ => none
def RD1 (K : PySem.W.Frag) (m : List Addr) (H : Hp) : List (D × D) → List (List Key × V) → Prop
  | [], gs => gs = []
  | p :: fs, gs => ∃ k v gs', gs = (k, v) :: gs' ∧ key1 p.1 = some k ∧ RV K m H p.2 v ∧ RD1 K m H fs gs'
mutual
def nkey : D → Option NestedKey
  | .non => some .none
  | .int i => some (.num i)
  | .str x => some (.text x)
  | .tup ds => match nkeys ds with
    | some ks => some (.tup ks)
    | none => none
  | .bl _ => none
  | .frl _ => none
  | .ref _ => none
  | .exn _ _ _ _ => none
def nkeys : List D → Option (List NestedKey)
  | [] => some []
  | d :: ds => match nkey d, nkeys ds with
    | some k, some ks => some (k :: ks)
    | _, _ => none
end
def RawO (a : Addr) (es : Array DictEntry) (ep : Nat) : HO := .ext fun h => ∃ o, h.get? a = some o ∧ o.ExactDict ∧ o.data = .dict es ep
theorem rawO_ne {a c : Addr} {es : Array DictEntry} {ep : Nat} {q : Str} : RawO a es ep ≠ LamX.CodeO c q := by
  intro z
  unfold RawO LamX.CodeO at z
  injection z with z
  have h1 : ∃ o, (⟨Array.replicate (a + 1) { cls := .type "dict", data := .dict es ep }, {}⟩ : Heap).get? a = some o ∧ o.ExactDict ∧ o.data = .dict es ep := by
    refine ⟨{ cls := .type "dict", data := .dict es ep }, ?_, ⟨rfl, rfl, rfl⟩, rfl⟩
    simp only [Heap.get?, Array.getElem?_replicate]
    rw [if_pos (by omega)]
  have h2 := congrFun z ⟨Array.replicate (a + 1) { cls := .type "dict", data := .dict es ep }, {}⟩
  rw [h2] at h1
  obtain ⟨oc, vs, t, e1, e2, _⟩ := h1
  simp only [Heap.get?, Array.getElem?_replicate] at e1
  by_cases hc : c < a + 1
  · rw [if_pos hc] at e1
    cases e1
    cases e2
  · rw [if_neg hc] at e1
    cases e1
def RD2 (K : PySem.W.Frag) (m : List Addr) (H : Hp) : List (D × D) → List (NestedKey × Addr × Value) → Prop
  | [], xs => xs = []
  | p :: fs, xs => ∃ k b v u xs', xs = (k, b, u) :: xs' ∧ nkey p.1 = some k ∧ k.depth ≤ 8 ∧ RV K m H p.1 (.ref b) ∧ RV K m H p.2 v ∧ RelV v u ∧ RD2 K m H fs xs'
def RO (cl : Cl) (K : PySem.W.Frag) (m : List Addr) (H : Hp) : DO → Addr → Prop
  | .lst ds, a => ∃ vs, H a = some (.lst vs) ∧ RVs K m H ds vs
  | .dic 0 kvs, a => ∃ gs, H a = some (.dK gs) ∧ RD0 K m H kvs gs
  | .dic 1 kvs, a => ∃ gs, H a = some (.dT gs) ∧ RD1 K m H kvs gs
  | .dic 2 kvs, a => ∃ xs es ep, H a = some (RawO a es ep) ∧ es.toList = xs.map (fun x => ⟨cl.hh x.1, .ref x.2.1, x.2.2⟩) ∧ (xs.map (·.1)).Nodup ∧ (a == sysModules) = false ∧ RD2 K m H kvs xs
  | .dic 3 kvs, a => ∃ gs o, H a = some (.frz o (.dK gs)) ∧ RD0 K m H kvs gs
  | .dic 4 kvs, a => ∃ ds o vs, kvs = [(.non, .tup ds)] ∧ H a = some (.frz o (.tup vs)) ∧ o.cls = .type "tuple" ∧ o.dict = none ∧ RVs K m H ds vs
  | .dic 5 kvs, a => ∃ i o u, kvs = [(.int i, .non)] ∧ H a = some (.frz o u) ∧ ∀ H', Keep H H' → cl.lam i.toNat H' o
  | .dic 6 kvs, a => ∃ xs es ep o, H a = some (.frz o (RawO a es ep)) ∧ es.toList = xs.map (fun x => ⟨cl.hh x.1, .ref x.2.1, x.2.2⟩) ∧ (xs.map (·.1)).Nodup ∧ (a == sysModules) = false ∧ RD2 K m H kvs xs
  | .dic 7 kvs, a => ∃ i ds vs o u, kvs = [(.int i, .tup ds)] ∧ H a = some (.frz o u) ∧ RVs K m H ds vs ∧ ∀ H', Keep H H' → cl.lmb i.toNat vs H' o
  | .dic _ _, _ => False
  | .ins c fs, a => ∃ dx gs, H a = some (.ins (cl c) dx gs) ∧ RF K m H fs gs
  | .dead, a => ∃ o xs, H a = some (.frz o (.lst xs))
section
variable {cl : Cl} {K : PySem.W.Frag} {m m' : List Addr} {H H' : Hp}
theorem RF.mono (x : Ext m m') (k : Keep H H') : ∀ {fs : List (Str × D)} {gs : List (Str × V)}, RF K m H fs gs → RF K m' H' fs gs
  | [], _, h => h
  | _ :: _, _, ⟨v, gs', e, r, t⟩ => ⟨v, gs', e, RV.mono x k _ r, RF.mono x k t⟩
theorem RD0.mono (x : Ext m m') (k : Keep H H') : ∀ {fs : List (D × D)} {gs : List (Key × V)}, RD0 K m H fs gs → RD0 K m' H' fs gs
  | [], _, h => h
  | _ :: _, _, ⟨q, v, gs', e, hk, r, t⟩ => ⟨q, v, gs', e, hk, RV.mono x k _ r, RD0.mono x k t⟩
theorem RD1.mono (x : Ext m m') (k : Keep H H') : ∀ {fs : List (D × D)} {gs : List (List Key × V)}, RD1 K m H fs gs → RD1 K m' H' fs gs
  | [], _, h => h
  | _ :: _, _, ⟨q, v, gs', e, hk, r, t⟩ => ⟨q, v, gs', e, hk, RV.mono x k _ r, RD1.mono x k t⟩
theorem RD2.mono (x : Ext m m') (k : Keep H H') : ∀ {fs : List (D × D)} {xs : List (NestedKey × Addr × Value)}, RD2 K m H fs xs → RD2 K m' H' fs xs
  | [], _, h => h
  | _ :: _, _, ⟨q, b, v, u, xs', e, hk, hd, r1, r2, r3, t⟩ => ⟨q, b, v, u, xs', e, hk, hd, RV.mono x k _ r1, RV.mono x k _ r2, r3, RD2.mono x k t⟩
theorem RO.mono (x : Ext m m') (k : Keep H H') {a : Addr} (ha : H' a = H a) : ∀ {o : DO}, RO cl K m H o a → RO cl K m' H' o a
  | .lst ds, ⟨vs, e, r⟩ => ⟨vs, by rw [ha]; exact e, r.mono x k⟩
  | .dic 0 kvs, ⟨gs, e, r⟩ => ⟨gs, by rw [ha]; exact e, r.mono x k⟩
  | .dic 1 kvs, ⟨gs, e, r⟩ => ⟨gs, by rw [ha]; exact e, r.mono x k⟩
  | .dic 2 kvs, ⟨xs, es, ep, e, e1, e2, e3, r⟩ => ⟨xs, es, ep, by rw [ha]; exact e, e1, e2, e3, r.mono x k⟩
  | .dic 3 kvs, ⟨gs, o, e, r⟩ => ⟨gs, o, by rw [ha]; exact e, r.mono x k⟩
  | .dic 4 kvs, ⟨ds, o, vs, e0, e, e1, e2, r⟩ => ⟨ds, o, vs, e0, by rw [ha]; exact e, e1, e2, r.mono x k⟩
  | .dic 5 kvs, ⟨i, o, u, e0, e, r⟩ => ⟨i, o, u, e0, by rw [ha]; exact e, fun H2 k2 => r H2 (k.trans k2)⟩
  | .dic 6 kvs, ⟨xs, es, ep, o, e, e1, e2, e3, r⟩ => ⟨xs, es, ep, o, by rw [ha]; exact e, e1, e2, e3, r.mono x k⟩
  | .dic 7 kvs, ⟨i, ds, vs, o, u, e0, e, r, q⟩ => ⟨i, ds, vs, o, u, e0, by rw [ha]; exact e, r.mono x k, fun H2 k2 => q H2 (k.trans k2)⟩
  | .dic (_ + 8) kvs, h => h.elim
  | .ins c fs, ⟨dx, gs, e, r⟩ => ⟨dx, gs, by rw [ha]; exact e, r.mono x k⟩
  | .dead, ⟨o, u, e⟩ => ⟨o, u, by rw [ha]; exact e⟩
def OwnH (u : HO) : Prop := (∀ ps, u ≠ .tbl ps) ∧ ∀ c q, u ≠ LamX.CodeO c q
theorem RO.some {a : Addr} : ∀ {o : DO}, RO cl K m H o a → o.live = true → ∃ u, H a = some u ∧ ¬ Imm u ∧ OwnH u
  | .lst ds, ⟨vs, e, r⟩, _ => ⟨_, e, (fun z => by obtain ⟨c, q, z⟩ := z; unfold LamX.CodeO at z; cases z), (fun _ z => by cases z), fun _ _ z => by unfold LamX.CodeO at z; cases z⟩
  | .dic 0 kvs, ⟨gs, e, r⟩, _ => ⟨_, e, (fun z => by obtain ⟨c, q, z⟩ := z; unfold LamX.CodeO at z; cases z), (fun _ z => by cases z), fun _ _ z => by unfold LamX.CodeO at z; cases z⟩
  | .dic 1 kvs, ⟨gs, e, r⟩, _ => ⟨_, e, (fun z => by obtain ⟨c, q, z⟩ := z; unfold LamX.CodeO at z; cases z), (fun _ z => by cases z), fun _ _ z => by unfold LamX.CodeO at z; cases z⟩
  | .dic 2 kvs, ⟨xs, es, ep, e, _⟩, _ => ⟨_, e, (fun z => by unfold RawO at z; obtain ⟨c, q, z⟩ := z; exact rawO_ne z), (fun _ z => by unfold RawO at z; cases z), fun _ _ z => rawO_ne z⟩
  | .dic 3 _, _, h => by cases h
  | .dic 4 _, _, h => by cases h
  | .dic 5 _, _, h => by cases h
  | .dic 6 kvs, _, h => by cases h
  | .dic 7 _, _, h => by cases h
  | .dic (_ + 8) kvs, h, _ => h.elim
  | .ins c fs, ⟨dx, gs, e, r⟩, _ => ⟨_, e, (fun z => by obtain ⟨c, q, z⟩ := z; unfold LamX.CodeO at z; cases z), (fun _ z => by cases z), fun _ _ z => by unfold LamX.CodeO at z; cases z⟩
  | .dead, _, h => by cases h
theorem RO.any {a : Addr} : ∀ {o : DO}, RO cl K m H o a → ∃ u, H a = Option.some u ∧ OwnH u
  | .dead, ⟨o, u, e⟩ => ⟨_, e, (fun _ z => by cases z), fun _ _ z => by unfold LamX.CodeO at z; cases z⟩
  | .lst _, h => let ⟨u, e, _, w⟩ := RO.some h rfl; ⟨u, e, w⟩
  | .dic 0 _, h => let ⟨u, e, _, w⟩ := RO.some h rfl; ⟨u, e, w⟩
  | .dic 1 _, h => let ⟨u, e, _, w⟩ := RO.some h rfl; ⟨u, e, w⟩
  | .dic 2 _, h => let ⟨u, e, _, w⟩ := RO.some h rfl; ⟨u, e, w⟩
  | .dic 3 _, ⟨gs, o, e, r⟩ => ⟨_, e, (fun _ z => by cases z), fun _ _ z => by unfold LamX.CodeO at z; cases z⟩
  | .dic 4 _, ⟨_, o, vs, _, e, _⟩ => ⟨_, e, (fun _ z => by cases z), fun _ _ z => by unfold LamX.CodeO at z; cases z⟩
  | .dic 5 _, ⟨_, o, u, _, e, _⟩ => ⟨_, e, (fun _ z => by cases z), fun _ _ z => by unfold LamX.CodeO at z; cases z⟩
  | .dic 6 _, ⟨_, _, _, o, e, _⟩ => ⟨_, e, (fun _ z => by cases z), fun _ _ z => by unfold LamX.CodeO at z; cases z⟩
  | .dic 7 _, ⟨_, _, _, o, _, _, e, _⟩ => ⟨_, e, (fun _ z => by cases z), fun _ _ z => by unfold LamX.CodeO at z; cases z⟩
  | .dic (_ + 8) _, h => h.elim
  | .ins _ _, h => let ⟨u, e, _, w⟩ := RO.some h rfl; ⟨u, e, w⟩
end
structure RS (cl : Cl) (K : PySem.W.Frag) (m : List Addr) (S : Sto) (H : Hp) : Prop where
  len : m.length = S.length
  nd : ∀ (i j : Nat) (a : Addr), m[i]? = some a → m[j]? = some a → i = j
  obj : ∀ (l : Nat) (o : DO) (a : Addr), S[l]? = some o → m[l]? = some a → RO cl K m H o a
  tb : LamX.Tabs cl.T H
structure RSl (K : PySem.W.Frag) (m : List Addr) (H : Hp) (sd : Sl) (σ : L2.St) : Prop where
  len : sd.length = σ.length
  at_ : ∀ (i : Nat) (d : D), sd[i]? = some (some d) → ∃ v, σ[i]? = some (some v) ∧ RV K m H d v
def RX (K : PySem.W.Frag) (m : List Addr) (H : Hp) (x : Exc) (dd : Option Addr) : Prop :=
  match x.fs with
  | none => dd = none
  | some fs => ∃ d gs, dd = some d ∧ H d = some (.xd gs) ∧ RF K m H fs gs
section
variable {cl : Cl} {K : PySem.W.Frag} {m m' : List Addr} {S : Sto} {H H' : Hp} {sd : Sl} {σ : L2.St}
theorem RS.adr (r : RS cl K m S H) {l : Nat} {o : DO} (h : S[l]? = some o) : ∃ a, m[l]? = some a ∧ RO cl K m H o a := by
  have hl : l < m.length := by rw [r.len]; exact (List.getElem?_eq_some_iff.mp h).1
  have e : m[l]? = some m[l] := by simp [hl]
  exact ⟨m[l], e, r.obj l o _ h e⟩
theorem RS.back (r : RS cl K m S H) {l : Nat} {a : Addr} (h : m[l]? = some a) : ∃ o, S[l]? = some o ∧ RO cl K m H o a := by
  have hl : l < S.length := by rw [← r.len]; exact (List.getElem?_eq_some_iff.mp h).1
  have e : S[l]? = some S[l] := by simp [hl]
  exact ⟨S[l], e, r.obj l _ _ e h⟩
theorem RS.new (r : RS cl K m S H) {p : Addr} {u : HO} {o : DO} (hp : H p = none) (ho : RO cl K (m ++ [p]) (upd H p u) o p) : RS cl K (m ++ [p]) (S ++ [o]) (upd H p u) := by
  have ne : ∀ (l : Nat) (a : Addr), m[l]? = some a → a ≠ p := fun l a e => by
    obtain ⟨o', _, ro⟩ := r.back e
    obtain ⟨u', h', _⟩ := ro.any
    exact ne_of_none h' hp
  refine ⟨by simp [r.len], fun i j a hi hj => ?_, fun l o' a hs hm => ?_, r.tb.ext fun b o e => by rw [upd_ne (ne_of_none e hp)]; exact e⟩
  · rw [List.getElem?_append] at hi hj
    split at hi <;> split at hj
    · exact r.nd i j a hi hj
    · rename_i h1 h2
      have : a = p := by
        cases hz : j - m.length with
        | zero => rw [hz] at hj; simp at hj; exact hj.symm
        | succ n => rw [hz] at hj; simp at hj
      exact absurd this (ne i a hi)
    · have : a = p := by
        cases hz : i - m.length with
        | zero => rw [hz] at hi; simp at hi; exact hi.symm
        | succ n => rw [hz] at hi; simp at hi
      exact absurd this (ne j a hj)
    · rename_i h1 h2
      have e1 : i - m.length = 0 := by
        cases hz : i - m.length with
        | zero => rfl
        | succ n => rw [hz] at hi; simp at hi
      have e2 : j - m.length = 0 := by
        cases hz : j - m.length with
        | zero => rfl
        | succ n => rw [hz] at hj; simp at hj
      omega
  · rw [List.getElem?_append] at hs hm
    rw [← r.len] at hs
    split at hm
    · rename_i h1
      rw [if_pos h1] at hs
      exact (r.obj l o' a hs hm).mono (Ext.snoc m p) (Keep.new hp) (upd_ne (ne l a hm))
    · rename_i h1
      rw [if_neg h1] at hs
      have e1 : l - m.length = 0 := by
        cases hz : l - m.length with
        | zero => rfl
        | succ n => rw [hz] at hm; simp at hm
      rw [e1] at hm hs
      simp at hm hs
      subst hm hs
      exact ho
theorem tabs_put {T : List (Addr × Str)} {H : Hp} {a : Addr} {u0 u : HO} (hu : H a = some u0) (ow : OwnH u0) (t : LamX.Tabs T H) : LamX.Tabs T (upd H a u) := fun p hp => by
  obtain ⟨ps, h1, h2, h3⟩ := t p hp
  have ne : ∀ b w, H b = some w → (w = u0 → False) → b ≠ a := fun b w e n z => by subst z; rw [hu] at e; cases e; exact n rfl
  refine ⟨ps, by rw [upd_ne (ne _ _ h1 fun z => ow.1 ps z.symm)]; exact h1, h2, fun pos cv hc => ?_⟩
  obtain ⟨c, e1, e2⟩ := h3 pos cv hc
  exact ⟨c, e1, by rw [upd_ne (ne _ _ e2 fun z => ow.2 _ _ z.symm)]; exact e2⟩
theorem RS.put (r : RS cl K m S H) {l : Nat} {a : Addr} {o o' : DO} {u : HO} (hs : S[l]? = some o) (hm : m[l]? = some a) (ho : RO cl K m (upd H a u) o' a) (lv : o.live = true := by rfl) : RS cl K m (S.set l o') (upd H a u) := by
  have hl : l < S.length := (List.getElem?_eq_some_iff.mp hs).1
  obtain ⟨u0, hu, ni, ow⟩ := (r.obj l o a hs hm).some lv
  refine ⟨by simp [r.len], r.nd, fun i o2 b h1 h2 => ?_, tabs_put hu ow r.tb⟩
  by_cases e : l = i
  · subst e
    rw [hm] at h2; cases h2
    rw [List.getElem?_set_self hl] at h1; cases h1
    exact ho
  · rw [List.getElem?_set_ne e] at h1
    have nb : b ≠ a := fun z => by subst z; exact e (r.nd l i b hm h2)
    exact (r.obj i o2 b h1 h2).mono (Ext.refl m) (Keep.put hu ni) (upd_ne nb)
theorem RS.keepPut (r : RS cl K m S H) {l : Nat} {a : Addr} {o : DO} {u : HO} (hs : S[l]? = some o) (hm : m[l]? = some a) (lv : o.live = true := by rfl) : Keep H (upd H a u) := by
  obtain ⟨u0, hu, ni, _⟩ := (r.obj l o a hs hm).some lv
  exact Keep.put hu ni
theorem RS.ext (r : RS cl K m S H) {p : Addr} {u : HO} (hp : H p = none) : RS cl K m S (upd H p u) :=
  ⟨r.len, r.nd, fun l o a h1 h2 => by
    obtain ⟨u0, hu, _⟩ := (r.obj l o a h1 h2).any
    exact (r.obj l o a h1 h2).mono (Ext.refl m) (Keep.new hp) (upd_ne (ne_of_none hu hp)), r.tb.ext fun b o e => by rw [upd_ne (ne_of_none e hp)]; exact e⟩
theorem RSl.mono (x : Ext m m') (k : Keep H H') (r : RSl K m H sd σ) : RSl K m' H' sd σ :=
  ⟨r.len, fun i d e => let ⟨v, e1, e2⟩ := r.at_ i d e; ⟨v, e1, RV.mono x k d e2⟩⟩
theorem RSl.set {d : D} {v : V} (r : RSl K m H sd σ) (i : Nat) (h : RV K m H d v) : RSl K m H (sd.set i (some d)) (σ.set i (some v)) := by
  refine ⟨by simp [r.len], fun j d' e => ?_⟩
  by_cases z : i = j
  · subst z
    have hl : i < sd.length := by have := (List.getElem?_eq_some_iff.mp e).1; simpa using this
    rw [List.getElem?_set_self hl] at e; cases e
    exact ⟨v, by rw [List.getElem?_set_self (by rw [← r.len]; exact hl)], h⟩
  · rw [List.getElem?_set_ne z] at e
    rw [List.getElem?_set_ne z]
    exact r.at_ j d' e
theorem RSl.unset (r : RSl K m H sd σ) (i : Nat) : RSl K m H (sd.set i none) (σ.set i none) := by
  refine ⟨by simp [r.len], fun j d' e => ?_⟩
  by_cases z : i = j
  · subst z
    have hl : i < sd.length := by have := (List.getElem?_eq_some_iff.mp e).1; simpa using this
    rw [List.getElem?_set_self hl] at e; cases e
  · rw [List.getElem?_set_ne z] at e
    rw [List.getElem?_set_ne z]
    exact r.at_ j d' e
end

section
variable (cl : Cl) (K : PySem.W.Frag)
def Post {α β : Type} (Rv : List Addr → Hp → α → β → Prop) (m : List Addr) (H : Hp) (E : XK) (Q : β → Hp → Prop) : Res α → Prop
  | .ok d S' => ∀ m' v H', Ext m m' → Keep H H' → RS cl K m' S' H' → Rv m' H' d v → Q v H'
  | .exc x S' => ∀ m' dd H', Ext m m' → Keep H H' → RS cl K m' S' H' → RX K m' H' x dd → E (.ref (cl x.c)) dd H'
  | .stuck => False
end
section
variable {cl : Cl} {K : PySem.W.Frag} {α β γ δ : Type} {Rv : List Addr → Hp → α → β → Prop} {Rw : List Addr → Hp → γ → δ → Prop} {m m' : List Addr} {H H' : Hp} {E : XK} {Q : β → Hp → Prop}
theorem Post.mono (x : Ext m m') (k : Keep H H') : ∀ {r : Res α}, Post cl K Rv m H E Q r → Post cl K Rv m' H' E Q r
  | .ok _ _, h => fun m2 v H2 x2 k2 => h m2 v H2 (x.trans x2) (k.trans k2)
  | .exc _ _, h => fun m2 v H2 x2 k2 => h m2 v H2 (x.trans x2) (k.trans k2)
  | .stuck, h => h
theorem Post.bind {r : Res α} {k : α → Sto → Res γ} {Q' : δ → Hp → Prop} (h : Post cl K Rw m H E Q' (r.bind k))
    (hk : ∀ d S1 m1 v H1, Ext m m1 → Keep H H1 → RS cl K m1 S1 H1 → Rv m1 H1 d v → Post cl K Rw m1 H1 E Q' (k d S1) → Q v H1) : Post cl K Rv m H E Q r := by
  cases r with
  | ok d S1 => exact fun m1 v H1 x1 k1 rs rv => hk d S1 m1 v H1 x1 k1 rs rv (Post.mono x1 k1 h)
  | exc x S1 => exact h
  | stuck => exact h
theorem Post.imp {Q' : β → Hp → Prop} (hq : ∀ v H, Q v H → Q' v H) : ∀ {r : Res α}, Post cl K Rv m H E Q r → Post cl K Rv m H E Q' r
  | .ok _ _, h => fun m2 v H2 x2 k2 a b => hq _ _ (h m2 v H2 x2 k2 a b)
  | .exc _ _, h => h
  | .stuck, h => h
theorem Post.here {d : α} {v : β} {S : Sto} (h : Post cl K Rv m H E Q (.ok d S)) (rs : RS cl K m S H) (rv : Rv m H d v) : Q v H := h m v H (Ext.refl m) (Keep.refl H) rs rv
end
def RBool : List Addr → Hp → Bool → Bool → Prop := fun _ _ a b => a = b
inductive FC where
  | nx (σ : L2.St) | ret (v : V) | brk (σ : L2.St) | cnt (σ : L2.St)
def endQ (D : Ends) : FC → Hp → Prop
  | .nx σ, H => D.nx σ H
  | .ret v, H => D.rt v H
  | .brk σ, H => D.bk σ H
  | .cnt σ, H => D.ct σ H
def RFl (K : PySem.W.Frag) (m : List Addr) (H : Hp) : Fl → FC → Prop
  | .nx sd, .nx σ => RSl K m H sd σ
  | .ret d, .ret v => RV K m H d v
  | .brk sd, .brk σ => RSl K m H sd σ
  | .cnt sd, .cnt σ => RSl K m H sd σ
  | _, _ => False

section
variable (cl : Cl) (X : Cx) (E : XK)
def DE (e : Expr) (f : Sl → Sto → Res D) : Prop :=
  ∃ t, PE X e t ∧ ∀ m S H sd σ Q, RS cl X.K m S H → RSl X.K m H sd σ → Post cl X.K (RV X.K) m H E Q (f sd S) → t σ H Q
def DT (e : Expr) (f : Sl → Sto → Res Bool) : Prop :=
  ∃ t, PT X e t ∧ ∀ m S H sd σ Q, RS cl X.K m S H → RSl X.K m H sd σ → Post cl X.K RBool m H E Q (f sd S) → t σ H Q
def DW (e : Expr) (f : Sl → Sto → Res Bool) : Prop :=
  ∃ t, PW X e t ∧ ∀ m S H sd σ Q, RS cl X.K m S H → RSl X.K m H sd σ → Post cl X.K RBool m H E Q (f sd S) → t σ H Q
def DA (es : List Expr) (f : Sl → Sto → Res (List D)) : Prop :=
  ∃ t, PA X es t ∧ ∀ m S H sd σ Q, RS cl X.K m S H → RSl X.K m H sd σ → Post cl X.K (RVs X.K) m H E Q (f sd S) → t σ H Q
def DS (st : Stmt) (f : Sl → Sto → Res Fl) : Prop :=
  ∃ t, PS X st t ∧ ∀ m S H sd σ D, RS cl X.K m S H → RSl X.K m H sd σ → Post cl X.K (RFl X.K) m H E (endQ D) (f sd S) → t D σ H
def DSs (st : List Stmt) (f : Sl → Sto → Res Fl) : Prop :=
  ∃ t, PSs X st t ∧ ∀ m S H sd σ D, RS cl X.K m S H → RSl X.K m H sd σ → Post cl X.K (RFl X.K) m H E (endQ D) (f sd S) → t D σ H
def DG (tg : Expr) (f : D → Sl → Sto → Res Sl) : Prop :=
  ∃ g, PG X tg g ∧ ∀ m S H sd σ d v Q, RS cl X.K m S H → RSl X.K m H sd σ → RV X.K m H d v → Post cl X.K (RSl X.K) m H E Q (f d sd S) → g v σ H Q
def DGs (tg : List Expr) (f : List D → Sl → Sto → Res Sl) : Prop :=
  ∃ g, PGs X tg g ∧ ∀ m S H sd σ ds vs Q, RS cl X.K m S H → RSl X.K m H sd σ → RVs X.K m H ds vs → Post cl X.K (RSl X.K) m H E Q (f ds sd S) → g vs σ H Q
end

section
variable {cl : Cl} {X : Cx} {E : XK}
def dVar (i : Nat) : Sl → Sto → Res D := fun sd S => match sd[i]? with
  | some (some d) => .ok d S
  | _ => .stuck
def dC (d : D) : Sl → Sto → Res D := fun _ S => .ok d S
theorem z5 (i : Nat) {x : Str} {pos : Pos} (hN : X.N[i]? = some x := by rfl) (hv : Vis X.env.scope x := by first | exact Or.inl rfl | exact Or.inr (Or.inl rfl) | exact Or.inr (Or.inr rfl)) (hd : (x == ("__debug__" : Str)) = false := by decide)
    (hcd : (x == ("__classdict__" : Str)) = false := by decide) : DE cl X E (.Name x pos) (dVar i) := by
  refine ⟨_, pe_var hN hv hd hcd, fun m S H sd σ Q rs rl h => ?_⟩
  unfold dVar at h
  split at h
  · rename_i d e
    obtain ⟨v, e1, r⟩ := rl.at_ i d e
    exact ⟨v, e1, h.here rs r⟩
  · exact h.elim
theorem z9 {i : Int} {j pos} : DE cl X E (.Constant (.int i) j pos) (dC (.int i)) := ⟨_, pe_int, fun m S H sd σ Q rs rl h => h.here rs rfl⟩
theorem de_bl {i : Bool} {j pos} : DE cl X E (.Constant (.bool i) j pos) (dC (.bl i)) := ⟨_, pe_bl, fun m S H sd σ Q rs rl h => h.here rs rfl⟩
theorem de_non {j pos} : DE cl X E (.Constant .none j pos) (dC .non) := ⟨_, pe_non, fun m S H sd σ Q rs rl h => h.here rs rfl⟩
theorem zg {x : Str} {j pos} : DE cl X E (.Constant (.str x) j pos) (dC (.str x)) := ⟨_, pe_str, fun m S H sd σ Q rs rl h => h.here rs rfl⟩

def dNil : Sl → Sto → Res (List D) := fun _ S => .ok [] S
def dCons (f : Sl → Sto → Res D) (g : Sl → Sto → Res (List D)) : Sl → Sto → Res (List D) := fun sd S =>
  (f sd S).bind fun d S1 => (g sd S1).bind fun ds S2 => .ok (d :: ds) S2
theorem z7 : DA cl X E [] dNil := ⟨_, pa_nil, fun m S H sd σ Q rs rl h => h.here rs rfl⟩
theorem z3 {e : Expr} {es : List Expr} {f g} (he : DE cl X E e f) (hr : DA cl X E es g) (hs : starEach (e :: es) X.env = (false, eval e X.env) :: starEach es X.env := by rfl) : DA cl X E (e :: es) (dCons f g) := by
  obtain ⟨t, p, he⟩ := he
  obtain ⟨u, q, hr⟩ := hr
  refine ⟨_, pa_cons p q hs, fun m S H sd σ Q rs rl h => ?_⟩
  refine he m S H sd σ _ rs rl (Post.bind h fun d S1 m1 v H1 x1 k1 rs1 rv1 h1 => ?_)
  refine hr m1 S1 H1 sd σ _ rs1 (rl.mono x1 k1) (Post.bind h1 fun ds S2 m2 vs H2 x2 k2 rs2 rv2 h2 => ?_)
  exact h2.here rs2 ⟨v, vs, rfl, RV.mono x2 k2 d rv1, rv2⟩

def dTup (f : Sl → Sto → Res (List D)) : Sl → Sto → Res D := fun sd S => (f sd S).bind fun ds S1 => if ds.length ≤ sizeLine then .ok (.tup ds) S1 else .stuck
def dLst (f : Sl → Sto → Res (List D)) : Sl → Sto → Res D := fun sd S => (f sd S).bind fun ds S1 => if ds.length ≤ sizeLine then .ok (.ref S1.length) (S1 ++ [.lst ds]) else .stuck
theorem newTup {m : List Addr} {S : Sto} {H : Hp} {ds : List D} {vs : List V} {p : Addr} {K : PySem.W.Frag} (rs : RS cl K m S H) (r : RVs K m H ds vs) (hp : H p = none) :
    RS cl K m S (upd H p (.tup vs)) ∧ RV K m (upd H p (.tup vs)) (.tup ds) (.ref p) :=
  ⟨rs.ext hp, p, vs, rfl, .of upd_same, r.mono (Ext.refl m) (Keep.new hp)⟩
theorem newLst {m : List Addr} {S : Sto} {H : Hp} {ds : List D} {vs : List V} {p : Addr} {K : PySem.W.Frag} (rs : RS cl K m S H) (r : RVs K m H ds vs) (hp : H p = none) :
    RS cl K (m ++ [p]) (S ++ [.lst ds]) (upd H p (.lst vs)) ∧ RV K (m ++ [p]) (upd H p (.lst vs)) (.ref S.length) (.ref p) :=
  ⟨rs.new hp ⟨vs, upd_same, r.mono (Ext.snoc m p) (Keep.new hp)⟩, p, by rw [← rs.len]; simp, rfl⟩
theorem de_tup {es : List Expr} {f x1 pos} (h : DA cl X E es f) : DE cl X E (.Tuple es x1 pos) (dTup f) := by
  obtain ⟨t, p, h⟩ := h
  refine ⟨_, pe_tup p, fun m S H sd σ Q rs rl hh => ?_⟩
  refine h m S H sd σ _ rs rl (Post.bind hh fun ds S1 m1 vs H1 x1 k1 rs1 rv1 h1 => ?_)
  split at h1
  · rename_i hz
    refine ⟨by rw [← rv1.length]; exact hz, fun p hp => ?_⟩
    obtain ⟨a, b⟩ := newTup rs1 rv1 hp
    exact h1 m1 _ _ (Ext.refl m1) (Keep.new hp) a b
  · exact h1.elim
theorem de_lst {es : List Expr} {f pos} (h : DA cl X E es f) : DE cl X E (.List es pos) (dLst f) := by
  obtain ⟨t, p, h⟩ := h
  refine ⟨_, pe_lst p, fun m S H sd σ Q rs rl hh => ?_⟩
  refine h m S H sd σ _ rs rl (Post.bind hh fun ds S1 m1 vs H1 x1 k1 rs1 rv1 h1 => ?_)
  split at h1
  · rename_i hz
    refine ⟨by rw [← rv1.length]; exact hz, fun p hp => ?_⟩
    obtain ⟨a, b⟩ := newLst rs1 rv1 hp
    exact h1 _ _ _ (Ext.snoc m1 p) (Keep.new hp) a b
  · exact h1.elim
end
def lsD (d : D) (S : Sto) : Option (List D) := match d with
  | .frl ds => some ds
  | .ref l => match S[l]? with
    | some (.lst ds) => some ds
    | _ => none
  | _ => none
theorem ls_rv {cl : Cl} {K : PySem.W.Frag} {m : List Addr} {S : Sto} {H : Hp} {d : D} {v : V} {ds : List D} (rs : RS cl K m S H) (rv : RV K m H d v) (h : lsD d S = some ds) :
    ∃ a vs, v = .ref a ∧ SqL K H a vs ∧ RVs K m H ds vs := by
  unfold lsD at h
  split at h
  · cases h
    obtain ⟨a, vs, rfl, s1, r1⟩ := rv
    exact ⟨a, vs, rfl, s1.sq, r1⟩
  · split at h
    · rename_i es e1
      cases h
      obtain ⟨a, h1, ws, hv, r1⟩ := rs.adr e1
      obtain ⟨a', h2, rfl⟩ := rv
      rw [h1] at h2; cases h2
      exact ⟨a, ws, rfl, SqL.of hv, r1⟩
    · cases h
  · cases h
end DL

namespace DL
open PySem PySem.Spec PyProof.Rows L2

section
variable (cl : Cl) (X : Cx)
def OpD (f : Value → Value → Sem Value) (g : D → D → Sto → Res D) : Prop :=
  ∃ r, OpR X f r ∧ ∀ (E : XK) m S H x y vx vy Q, RS cl X.K m S H → RV X.K m H x vx → RV X.K m H y vy → Post cl X.K (RV X.K) m H E Q (g x y S) → r vx vy H Q
end
def d2 (g : D → D → Sto → Res D) (fa fb : Sl → Sto → Res D) : Sl → Sto → Res D := fun sd S => (fa sd S).bind fun x S1 => (fb sd S1).bind fun y S2 => g x y S2
def d2T (g : D → D → Sto → Res D) (fa fb : Sl → Sto → Res D) : Sl → Sto → Res Bool := fun sd S => (d2 g fa fb sd S).bind fun d S1 => match d with
  | .bl b => .ok b S1
  | _ => .stuck
section
variable {cl : Cl} {X : Cx} {E : XK} {a b c : Expr} {fa fb fc : Sl → Sto → Res D}
theorem zf {op : Operator} {g} (ho : OpD cl X (binaryOp op) g) (ha : DE cl X E a fa) (hb : DE cl X E b fb) {pos} : DE cl X E (.BinOp a op b pos) (d2 g fa fb) := by
  obtain ⟨r, ho, hr⟩ := ho
  obtain ⟨ta, pa, ha⟩ := ha
  obtain ⟨tb, pb, hb⟩ := hb
  refine ⟨_, pe_op ho pa pb, fun m S H sd σ Q rs rl h => ?_⟩
  refine ha m S H sd σ _ rs rl (Post.bind h fun x S1 m1 vx H1 x1 k1 rs1 rx h1 => ?_)
  refine hb m1 S1 H1 sd σ _ rs1 (rl.mono x1 k1) (Post.bind h1 fun y S2 m2 vy H2 x2 k2 rs2 ry h2 => ?_)
  exact hr E m2 S2 H2 x y vx vy Q rs2 (RV.mono x2 k2 x rx) ry h2
theorem de_cmp {op : CmpOp} {g} (ho : OpD cl X (compareOp op) g) (ha : DE cl X E a fa) (hb : DE cl X E b fb) {pos} (hm : behindInMarks op b = false := by with_unfolding_all rfl) : DE cl X E (.Compare a [op] [b] pos) (d2 g fa fb) := by
  obtain ⟨r, ho, hr⟩ := ho
  obtain ⟨ta, pa, ha⟩ := ha
  obtain ⟨tb, pb, hb⟩ := hb
  refine ⟨_, pe_cmpR ho pa pb hm, fun m S H sd σ Q rs rl h => ?_⟩
  refine ha m S H sd σ _ rs rl (Post.bind h fun x S1 m1 vx H1 x1 k1 rs1 rx h1 => ?_)
  refine hb m1 S1 H1 sd σ _ rs1 (rl.mono x1 k1) (Post.bind h1 fun y S2 m2 vy H2 x2 k2 rs2 ry h2 => ?_)
  exact hr E m2 S2 H2 x y vx vy Q rs2 (RV.mono x2 k2 x rx) ry h2
theorem bind_assoc {α β γ : Type} (r : Res α) (f : α → Sto → Res β) (g : β → Sto → Res γ) : (r.bind f).bind g = r.bind fun a S => (f a S).bind g := by
  cases r <;> rfl
theorem dt_cmp {op : CmpOp} {g} (ho : OpD cl X (compareOp op) g) (ha : DE cl X E a fa) (hb : DE cl X E b fb) {pos} (hm : behindInMarks op b = false := by with_unfolding_all rfl) : DT cl X E (.Compare a [op] [b] pos) (d2T g fa fb) := by
  obtain ⟨r, ho, hr⟩ := ho
  obtain ⟨ta, pa, ha⟩ := ha
  obtain ⟨tb, pb, hb⟩ := hb
  refine ⟨_, pt_cmpR ho pa pb hm, fun m S H sd σ Q rs rl h => ?_⟩
  unfold d2T d2 at h
  rw [bind_assoc] at h
  refine ha m S H sd σ _ rs rl (Post.bind h fun x S1 m1 vx H1 x1 k1 rs1 rx h1 => ?_)
  rw [bind_assoc] at h1
  refine hb m1 S1 H1 sd σ _ rs1 (rl.mono x1 k1) (Post.bind h1 fun y S2 m2 vy H2 x2 k2 rs2 ry h2 => ?_)
  refine hr E m2 S2 H2 x y vx vy _ rs2 (RV.mono x2 k2 x rx) ry (Post.bind h2 fun z S3 m3 vz H3 x3 k3 rs3 rz h3 => ?_)
  cases z with
  | bl k => exact ⟨k, rz, h3.here rs3 rfl⟩
  | _ => exact h3.elim
def d3 (g g' : D → D → Sto → Res D) (fa fb fc : Sl → Sto → Res D) : Sl → Sto → Res D := fun sd S => (fa sd S).bind fun x S1 => (fb sd S1).bind fun y S2 => (g x y S2).bind fun z S3 => match z with
  | .bl true => (fc sd S3).bind fun w S4 => g' y w S4
  | .bl false => .ok (.bl false) S3
  | _ => .stuck
def d3T (g g' : D → D → Sto → Res D) (fa fb fc : Sl → Sto → Res D) : Sl → Sto → Res Bool := fun sd S => (d3 g g' fa fb fc sd S).bind fun d S1 => match d with
  | .bl b => .ok b S1
  | _ => .stuck
theorem dt_chain {op op' : CmpOp} {g g'} (ho : OpD cl X (compareOp op) g) (ho' : OpD cl X (compareOp op') g') (ha : DE cl X E a fa) (hb : DE cl X E b fb) (hc : DE cl X E c fc) {pos} (hm : lastMarks [op, op'] [b, c] = false := by with_unfolding_all rfl) :
    DT cl X E (.Compare a [op, op'] [b, c] pos) (d3T g g' fa fb fc) := by
  obtain ⟨r, ho, hr⟩ := ho
  obtain ⟨r', ho', hr'⟩ := ho'
  obtain ⟨ta, pa, ha⟩ := ha
  obtain ⟨tb, pb, hb⟩ := hb
  obtain ⟨tc, pc, hc⟩ := hc
  refine ⟨_, pt_chain ho ho' pa pb pc hm, fun m S H sd σ Q rs rl h => ?_⟩
  unfold d3T d3 at h
  rw [bind_assoc] at h
  refine ha m S H sd σ _ rs rl (Post.bind h fun x S1 m1 vx H1 x1 k1 rs1 rx h1 => ?_)
  rw [bind_assoc] at h1
  refine hb m1 S1 H1 sd σ _ rs1 (rl.mono x1 k1) (Post.bind h1 fun y S2 m2 vy H2 x2 k2 rs2 ry h2 => ?_)
  rw [bind_assoc] at h2
  refine hr E m2 S2 H2 x y vx vy _ rs2 (RV.mono x2 k2 x rx) ry (Post.bind h2 fun z S3 m3 vz H3 x3 k3 rs3 rz h3 => ?_)
  cases z with
  | bl k =>
    refine ⟨k, rz, ?_⟩
    cases k with
    | false => exact iteF ⟨false, rfl, h3.here rs3 rfl⟩
    | true =>
      dsimp only at h3
      rw [bind_assoc] at h3
      refine iteT (hc m3 S3 H3 sd σ _ rs3 (rl.mono ((x1.trans x2).trans x3) ((k1.trans k2).trans k3)) (Post.bind h3 fun w S4 m4 vw H4 x4 k4 rs4 rw' h4 => ?_))
      refine hr' E m4 S4 H4 y w vy vw _ rs4 (RV.mono (x3.trans x4) (k3.trans k4) y ry) rw' (Post.bind h4 fun q S5 m5 vq H5 x5 k5 rs5 rq h5 => ?_)
      cases q with
      | bl k' => exact ⟨k', rq, h5.here rs5 rfl⟩
      | _ => exact h5.elim
  | _ => exact h3.elim
end

def addD : D → D → Sto → Res D
  | .int a, .int b, S => .ok (.int (a + b)) S
  | .str a, .str b, S => if a.length + b.length ≤ sizeLine then .ok (.str (a ++ b)) S else .stuck
  | .tup a, .tup b, S => if a.length + b.length ≤ sizeLine then .ok (.tup (a ++ b)) S else .stuck
  | a, b, S => match lsD a S, lsD b S with
    | some x, some y => if x.length + y.length ≤ sizeLine then .ok (.ref S.length) (S ++ [.lst (x ++ y)]) else .stuck
    | _, _ => .stuck
def subD : D → D → Sto → Res D
  | .int a, .int b, S => .ok (.int (a - b)) S
  | _, _, _ => .stuck
noncomputable def bnd (k : Nat) (a : Int) : Bool := @decide (-(2 ^ k : Int) ≤ a ∧ a < 2 ^ k) (Classical.propDecidable _)
theorem bnd_ok {k : Nat} {a : Int} (h : bnd k a = true) : -(2 ^ k : Int) ≤ a ∧ a < 2 ^ k := @of_decide_eq_true _ (Classical.propDecidable _) h
theorem bnd_of {k : Nat} {a : Int} (h : -(2 ^ k : Int) ≤ a ∧ a < 2 ^ k) : bnd k a = true := @decide_eq_true _ (Classical.propDecidable _) h
noncomputable def fdOk (b : Int) : Bool := @decide (0 < b ∧ b.natAbs.log2 < 9000) (Classical.propDecidable _)
theorem fdOk_ok {b : Int} (h : fdOk b = true) : 0 < b ∧ b.natAbs.log2 < 9000 := @of_decide_eq_true _ (Classical.propDecidable _) h
theorem fdOk_of {b : Int} (h : 0 < b ∧ b.natAbs.log2 < 9000) : fdOk b = true := @decide_eq_true _ (Classical.propDecidable _) h
theorem mul_ok {a b : Int} (hz : (bnd 63 a || bnd 63 b) = true) : (-(2 ^ 64) < a ∧ a < 2 ^ 64) ∨ (-(2 ^ 64) < b ∧ b < 2 ^ 64) := by
  rw [Bool.or_eq_true] at hz
  rcases hz with hz | hz
  · have := bnd_ok hz; exact .inl ⟨by omega, by omega⟩
  · have := bnd_ok hz; exact .inr ⟨by omega, by omega⟩
noncomputable def powOk (a b : Int) : Bool := @decide (0 ≤ b ∧ b ≤ 1000000 ∧ a.natAbs < 2 ^ 64) (Classical.propDecidable _)
theorem powOk_ok {a b : Int} (h : powOk a b = true) : 0 ≤ b ∧ b ≤ 1000000 ∧ a.natAbs < 2 ^ 64 := @of_decide_eq_true _ (Classical.propDecidable _) h
theorem powOk_of {a b : Int} (h : 0 ≤ b ∧ b ≤ 1000000 ∧ a.natAbs < 2 ^ 64) : powOk a b = true := @decide_eq_true _ (Classical.propDecidable _) h
def repS (z : Str) (n : Int) : Str := ⟨(List.replicate n.toNat z.cps.toList).flatten.toArray⟩
noncomputable def mulD : D → D → Sto → Res D
  | .int a, .int b, S => if (bnd 63 a || bnd 63 b) = true then .ok (.int (a * b)) S else .stuck
  | .str z, .int n, S => if bnd 63 n = true ∧ z.length * n.toNat ≤ sizeLine then .ok (.str (repS z n)) S else .stuck
  | .tup xs, .int n, S => if bnd 63 n = true ∧ xs.length * n.toNat ≤ sizeLine then .ok (.tup (List.replicate n.toNat xs).flatten) S else .stuck
  | .ref a, .int n, S => match S[a]? with
    | some (.lst xs) => if bnd 63 n = true ∧ xs.length * n.toNat ≤ sizeLine then .ok (.ref S.length) (S ++ [.lst (List.replicate n.toNat xs).flatten]) else .stuck
    | _ => .stuck
  | _, _, _ => .stuck
noncomputable def fdivD : D → D → Sto → Res D
  | .int a, .int b, S => if fdOk b = true then .ok (.int (a / b)) S else .stuck
  | _, _, _ => .stuck
def modD : D → D → Sto → Res D
  | .int a, .int b, S => if 0 < b then .ok (.int (a % b)) S else .stuck
  | _, _, _ => .stuck
noncomputable def powD : D → D → Sto → Res D
  | .int a, .int b, S => if powOk a b = true then .ok (.int (a ^ b.toNat)) S else .stuck
  | _, _, _ => .stuck
section
variable {cl : Cl} {X : Cx}
theorem op_catS : OpR X (binaryOp .Add) (fun x y H Q => ∃ l b xs zs, x = .ref l ∧ y = .ref b ∧ SqL X.K H l xs ∧ SqL X.K H b zs ∧ xs.length + zs.length ≤ sizeLine ∧ ∀ p, H p = none → Q (.ref p) (upd H p (.lst (xs ++ zs)))) := by
  intro pins s σ H x y v u Q I rx ry h
  obtain ⟨l, b, xs, zs, rfl, rfl, hH, hB, hz, q⟩ := h
  cases rx
  cases ry
  obtain ⟨its, r, ⟨⟨cls, dd, data, sl⟩, n, ho, hc, hdn, hdt⟩, hlen⟩ := I.list hH
  obtain ⟨its2, r2, ⟨⟨cls2, dd2, data2, sl2⟩, n2, ho2, hc2, hdn2, hdt2⟩, hlen2⟩ := I.list hB
  simp only at hc hdt hc2 hdt2
  subst hc hdt hc2 hdt2
  have ea : its.toArray ++ its2.toArray = (its ++ its2).toArray := by simp
  have l1 := r.length
  have l2 := r2.length
  refine concat_meets ⟨_, ho, rfl⟩ ⟨_, ho2, rfl⟩ noFill_list_add seq_list_add PySem.F.slot_list_add PySem.F.entry_list_add (PySem.F.args_list_add_2 _ _) (list_addW l b its.toArray its2.toArray n n2 dd dd2 sl sl2 (by simp; omega)) ⟨ho, ho2, ?_⟩
  rw [ea]
  exact ⟨.ref _, _, I.lnew (t' := s.toks) (r.append r2) (by rw [List.length_append]; omega), rfl, q _ I.fresh⟩
theorem flat_len (xs : List Nat) (n : Nat) : (List.replicate n xs).flatten.length = xs.length * n := by
  induction n with
  | zero => simp
  | succ n ih => rw [List.replicate_succ, List.flatten_cons, List.length_append, ih, Nat.mul_succ, Nat.add_comm]
theorem fold_rep (xs : Array Nat) : ∀ (n : Nat) (acc : Array Nat), (List.replicate n xs).foldl (· ++ ·) acc = acc ++ (List.replicate n xs.toList).flatten.toArray
  | 0, acc => by simp
  | n + 1, acc => by
    rw [List.replicate_succ, List.foldl_cons, fold_rep xs n, List.replicate_succ, List.flatten_cons]
    apply Array.ext'
    simp
theorem op_repS : OpR X (binaryOp .Mult) (fun x y H Q => ∃ (z : Str) (k : Int), x = .str z ∧ y = .int k ∧ -(2 ^ 63) ≤ k ∧ k < 2 ^ 63 ∧ z.length * k.toNat ≤ sizeLine ∧ Q (.str (repS z k)) H) := by
  intro pins s σ H x y v u Q I rx ry h
  obtain ⟨z, k, rfl, rfl, h1, h2, hz, q⟩ := h
  obtain ⟨t, rfl⟩ := rx
  obtain ⟨t', rfl⟩ := ry
  have hzl : z.length = z.cps.toList.length := by simp [Str.length]
  have sL : sizeLine = 16777216 := sizeLine_eq
  refine PySem.P.mul_str (by rw [decide_eq_false (by omega), decide_eq_false (by omega)]; rfl) (fun c1 c2 => ?_) (fun c1 c2 => ?_) ?_
  · rw [Bool.or_eq_false_iff] at c2
    have hk : 0 < k := by omega
    have e1 : (z.length : Int) * k ≤ 16777216 := by
      have : ((z.length * k.toNat : Nat) : Int) ≤ 16777216 := by rw [sL] at hz; exact Int.ofNat_le.mpr hz
      have e2 : ((z.length * k.toNat : Nat) : Int) = (z.length : Int) * k := by
        rw [Int.natCast_mul, Int.toNat_of_nonneg (by omega)]
      omega
    intro hgt
    have : (z.length : Int) ≤ (2 ^ 63 - 1) / k := by
      rw [Int.le_ediv_iff_mul_le hk]
      omega
    omega
  · exact decide_eq_false (by omega)
  · by_cases c1 : k < 1
    · rw [if_pos c1]
      have e : repS z k = Str.empty := by
        unfold repS
        rw [show k.toNat = 0 by omega]
        rfl
      rw [e] at q
      exact ⟨by decide, ⟨.str _, H, I.tok _, ⟨_, rfl⟩, q⟩⟩
    · rw [if_neg c1]
      by_cases c2 : (k == 1 || z.length == 0) = true
      · rw [if_pos c2]
        have e : repS z k = z := by
          unfold repS
          rw [Bool.or_eq_true] at c2
          rcases c2 with c2 | c2
          · have : k = 1 := by simpa using c2
            subst this
            simp
          · have : z.length = 0 := by simpa using c2
            have e0 : z.cps = #[] := by
              apply Array.eq_empty_of_size_eq_zero
              simpa [Str.length] using this
            cases z with
            | mk cps =>
              simp only at e0
              subst e0
              simp
        rw [e] at q
        exact ⟨.str _, H, I, ⟨_, rfl⟩, q⟩
      · rw [if_neg c2]
        have e : (⟨(List.replicate k.toNat z.cps).foldl (· ++ ·) #[]⟩ : Str) = repS z k := by
          unfold repS
          rw [fold_rep]
          simp
        show Made.post (.str _) _ _
        rw [e]
        refine ⟨?_, ⟨.str _, H, I.tok _, ⟨_, rfl⟩, q⟩⟩
        show (repS z k).cps.size ≤ _
        unfold repS
        rw [List.size_toArray, flat_len, ← hzl]
        exact hz
theorem tuple_mul1 (l : Addr) (items : Array Value) (n : Nat) (dd : Option Addr) (sl : Array (Option Value)) (x : Int) (u : Tok) (c0 : (decide (x < -(2 ^ 63)) || decide (x ≥ 2 ^ 63)) = false) (c1 : (items.isEmpty || x == 1) = true) :
    Meets (Builtin.«tuple.__mul__» ⟨[.ref l, .int x u], []⟩) (fun _ R s => s.heap.get? l = some { cls := .type "tuple", dict := dd, data := .seq items n, slots := sl } ∧
      R (.ok (.ret (Value.ref l))) s) :=
  .of_wp fun prog w A R s h => by
    obtain ⟨hp, g, d, tk, os⟩ := s
    obtain ⟨hl, h⟩ := h
    have f1 := AutoSeq1.idx_int
    wp_walk using wpAny_loadPart' hl
    repeat (first
      | (refine wpAny_ite_false (decide_eq_false (by rw [c0]; exact Bool.false_ne_true)) ?_; wp_walk using wpAny_loadPart' hl)
      | (refine wpAny_ite_true (decide_eq_true c1) ?_; wp_walk using wpAny_loadPart' hl))
    exact ⟨_, rfl, h⟩
theorem tuple_mul0 (l : Addr) (items : Array Value) (n : Nat) (dd : Option Addr) (sl : Array (Option Value)) (x : Int) (u : Tok) (c0 : (decide (x < -(2 ^ 63)) || decide (x ≥ 2 ^ 63)) = false) (c1 : (items.isEmpty || x == 1) = false) (c2 : (decide (x ≤ 0) || items.isEmpty) = true) :
    Meets (Builtin.«tuple.__mul__» ⟨[.ref l, .int x u], []⟩) (fun _ R s => s.heap.get? l = some { cls := .type "tuple", dict := dd, data := .seq items n, slots := sl } ∧
      R (.ok (.ret (Value.ref s.heap.objs.size))) { s with heap := s.heap.push { cls := Value.type "tuple", data := Data.seq #[] }, toks := s.toks }) :=
  .of_wp fun prog w A R s h => by
    obtain ⟨hp, g, d, tk, os⟩ := s
    obtain ⟨hl, h⟩ := h
    have f1 := AutoSeq1.idx_int
    wp_walk using wpAny_loadPart' hl
    repeat (first
      | (refine wpAny_ite_false (decide_eq_false (by rw [c0]; exact Bool.false_ne_true)) ?_; wp_walk using wpAny_loadPart' hl)
      | (refine wpAny_ite_false (decide_eq_false (by rw [c1]; exact Bool.false_ne_true)) ?_; wp_walk using wpAny_loadPart' hl)
      | (refine wpAny_ite_true (decide_eq_true c2) ?_; wp_walk using wpAny_loadPart' hl))
    exact ⟨_, rfl, h⟩
end
end DL

namespace DL
open PySem PySem.Spec PyProof.Rows L2
section
variable {cl : Cl} {X : Cx}
def rRepA (K : PySem.W.Frag) : R2 := fun x y H Q => ∃ l k xs, x = .ref l ∧ y = .int k ∧ SqT K H l xs ∧ -(2 ^ 63) ≤ k ∧ k < 2 ^ 63 ∧ xs.length * k.toNat ≤ sizeLine ∧
  ((xs = [] ∨ k = 1) → Q (.ref l) H) ∧ (¬ (xs = [] ∨ k = 1) → ∀ p, H p = none → Q (.ref p) (upd H p (.tup (List.replicate k.toNat xs).flatten)))
theorem op_repA : OpR X (binaryOp .Mult) (rRepA X.K) := by
  intro pins s σ H x y v u Q I rx ry h
  obtain ⟨l, k, xs, rfl, rfl, hT, h1, h2, hz, q1, q2⟩ := h
  cases rx
  obtain ⟨t, rfl⟩ := ry
  obtain ⟨its, r, ⟨⟨cls, dd, data, sl⟩, ho, hc, n, hd⟩, hs⟩ := I.tuple hT
  simp only at hc hd
  subst hc hd
  have hle : its.length = xs.length := r.length.symm
  have c0 : (decide (k < -(2 ^ 63)) || decide (k ≥ 2 ^ 63)) = false := by
    rw [decide_eq_false (by omega), decide_eq_false (by omega)] <;> rfl
  have sL : sizeLine = 16777216 := sizeLine_eq
  by_cases c : xs = [] ∨ k = 1
  · have c1 : (its.toArray.isEmpty || k == 1) = true := by
      rw [Bool.or_eq_true]
      rcases c with c | c
      · left
        rw [c] at hle
        rw [List.eq_nil_of_length_eq_zero hle]
        rfl
      · right; simp [c]
    refine wpAny_binaryOp_repeat_ref (T := "tuple") (U := "int") (by decide) ⟨_, ho, rfl⟩ (fun s' => typeIs_int s' k t) noFill_tuple_mul F.fills_int_mul F.slot_int_rmul repeat_tuple F.slot_int_index.lookup
      (call_meets F.slot_int_rmul (typeIs_int s k t) F.entry_int_rmul (F.args_int_rmul_2 _ _) (int_rmul_tuple k t l its.toArray n dd sl)
        ⟨ho, rfl, ⟨_, ho, rfl⟩, call_meets F.slot_tuple_mul ⟨_, ho, rfl⟩ F.entry_tuple_mul (F.args_tuple_mul_2 _ _) (tuple_mul1 l its.toArray n dd sl k t c0 c1) ⟨ho, ?_⟩⟩)
    exact ⟨.ref l, H, I, rfl, q1 c⟩
  · have hne : xs ≠ [] := fun e => c (.inl e)
    have hk1 : k ≠ 1 := fun e => c (.inr e)
    have hn : its ≠ [] := fun e => hne (by
      rw [e] at hle
      exact List.eq_nil_of_length_eq_zero hle.symm)
    have hi : its.toArray.isEmpty = false := by
      cases its with
      | nil => exact absurd rfl hn
      | cons a b => rfl
    have c1 : (its.toArray.isEmpty || k == 1) = false := by
      rw [hi, Bool.false_or]
      exact beq_eq_false_iff_ne.mpr hk1
    by_cases k0 : k ≤ 0
    · have c2 : (decide (k ≤ 0) || its.toArray.isEmpty) = true := by rw [decide_eq_true k0]; rfl
      refine wpAny_binaryOp_repeat_ref (T := "tuple") (U := "int") (by decide) ⟨_, ho, rfl⟩ (fun s' => typeIs_int s' k t) noFill_tuple_mul F.fills_int_mul F.slot_int_rmul repeat_tuple F.slot_int_index.lookup
        (call_meets F.slot_int_rmul (typeIs_int s k t) F.entry_int_rmul (F.args_int_rmul_2 _ _) (int_rmul_tuple k t l its.toArray n dd sl)
          ⟨ho, rfl, ⟨_, ho, rfl⟩, call_meets F.slot_tuple_mul ⟨_, ho, rfl⟩ F.entry_tuple_mul (F.args_tuple_mul_2 _ _) (tuple_mul0 l its.toArray n dd sl k t c0 c1 c2) ⟨ho, ?_⟩⟩)
      have e0 : (List.replicate k.toNat xs).flatten = [] := by rw [show k.toNat = 0 by omega]; rfl
      have q := q2 c
      rw [e0] at q
      refine ⟨.ref s.heap.objs.size, _, I.laid (t' := s.toks) (o := .tup []) (fun b ob q => Heap.get?_push_of_some _ q) (Nat.le_refl _) ?_, rfl, q _ (I.hok.fresh (Nat.le_refl _))⟩
      exact ⟨Nat.zero_le _, [], .nil, IsTup.new _ _⟩
    · have c2 : (decide (k ≤ 0) || its.toArray.isEmpty) = false := by
        rw [hi, Bool.or_false]
        exact decide_eq_false k0
      have hsz0 : its.toArray.size = xs.length := by rw [List.size_toArray, hle]
      have hm : ((its.toArray.size : Nat) : Int) * k ≤ 16777216 := by
        rw [hsz0]
        have e1 : ((xs.length * k.toNat : Nat) : Int) ≤ 16777216 := by rw [sL] at hz; exact Int.ofNat_le.mpr hz
        have e2 : ((xs.length * k.toNat : Nat) : Int) = (xs.length : Int) * k := by
          rw [Int.natCast_mul, Int.toNat_of_nonneg (by omega)]
        omega
      have flen : (List.replicate k.toNat its).flatten.length ≤ sizeLine := by
        rw [PyProof.Rows.lm_len_rep_flat, hle, Nat.mul_comm]
        exact hz
      have c4 : Builtin.Tuple.tupleTooMany (((its.toArray.size : Nat) : Int) * k) = false := by
        unfold Builtin.Tuple.tupleTooMany
        rw [sizeLine_eq]
        exact decide_eq_false (by omega)
      refine wpAny_binaryOp_repeat_ref (T := "tuple") (U := "int") (by decide) ⟨_, ho, rfl⟩ (fun s' => typeIs_int s' k t) noFill_tuple_mul F.fills_int_mul F.slot_int_rmul repeat_tuple F.slot_int_index.lookup
        (call_meets F.slot_int_rmul (typeIs_int s k t) F.entry_int_rmul (F.args_int_rmul_2 _ _) (int_rmul_tuple k t l its.toArray n dd sl)
          ⟨ho, rfl, ⟨_, ho, rfl⟩, call_meets F.slot_tuple_mul ⟨_, ho, rfl⟩ F.entry_tuple_mul (F.args_tuple_mul_2 _ _) (tuple_mulW l its.toArray n dd sl k t c0 c1 c2 (by omega) c4 (by rw [size_rep, List.size_toArray]; exact flen)) ⟨ho, ?_⟩⟩)
      rw [size_rep]
      refine ⟨.ref s.heap.objs.size, _, I.laid (t' := s.toks) (o := .tup (List.replicate k.toNat xs).flatten) (fun b ob q => Heap.get?_push_of_some _ q) (Nat.le_refl _) ?_, rfl, q2 c _ (I.hok.fresh (Nat.le_refl _))⟩
      exact ⟨by rw [PyProof.Rows.lm_len_rep_flat, Nat.mul_comm]; exact hz, _, r.rep k.toNat, IsTup.new _ _⟩

theorem op_addD : OpD cl X (binaryOp .Add) addD := by
  refine ⟨_, ((op_add.or op_add_str).or op_catA).or op_catS, fun E m S H x y vx vy Q rs rx ry h => ?_⟩
  unfold addD at h
  split at h
  · rename_i a b
    cases rx; cases ry
    exact .inl (.inl (.inl ⟨_, _, rfl, rfl, h.here rs rfl⟩))
  · rename_i a b
    cases rx; cases ry
    split at h
    · rename_i hz
      exact .inl (.inl (.inr ⟨_, _, rfl, rfl, hz, h.here rs rfl⟩))
    · exact h.elim
  · rename_i a b
    split at h
    · rename_i hz
      obtain ⟨p, vs, rfl, s1, r1⟩ := rx
      obtain ⟨q, ws, rfl, s2, r2⟩ := ry
      refine .inl (.inr ⟨p, q, vs, ws, rfl, rfl, s1, s2, by rw [← r1.length, ← r2.length]; exact hz, fun e => ?_, fun e1 e2 => ?_, fun e1 e2 p' hp => ?_⟩)
      · subst e
        have : a = [] := List.eq_nil_of_length_eq_zero r1.length
        subst this
        exact h.here rs ⟨q, ws, rfl, s2, r2⟩
      · subst e2
        have : b = [] := List.eq_nil_of_length_eq_zero r2.length
        subst this
        exact h.here rs ⟨p, vs, rfl, s1, by rw [List.append_nil]; exact r1⟩
      · obtain ⟨a1, b1⟩ := newTup rs (r1.append r2) hp
        exact h _ _ _ (Ext.refl m) (Keep.new hp) a1 b1
    · exact h.elim
  · rename_i a b _ _ _
    split at h
    · rename_i x y e1 e2
      split at h
      · rename_i hz
        obtain ⟨p, vs, rfl, hv, r1⟩ := ls_rv rs rx e1
        obtain ⟨q, ws, rfl, hw, r2⟩ := ls_rv rs ry e2
        refine .inr ⟨p, q, vs, ws, rfl, rfl, hv, hw, by rw [← r1.length, ← r2.length]; exact hz, fun p' hp => ?_⟩
        obtain ⟨a1, b1⟩ := newLst rs (r1.append r2) hp
        exact h _ _ _ (Ext.snoc m p') (Keep.new hp) a1 b1
      · exact h.elim
    · exact h.elim
theorem op_subD : OpD cl X (binaryOp .Sub) subD := by
  refine ⟨_, op_sub, fun E m S H x y vx vy Q rs rx ry h => ?_⟩
  unfold subD at h
  split at h
  · cases rx; cases ry
    exact ⟨_, _, rfl, rfl, h.here rs rfl⟩
  · exact h.elim
theorem op_fdivD : OpD cl X (binaryOp .FloorDiv) fdivD := by
  refine ⟨_, op_fdivW, fun E m S H x y vx vy Q rs rx ry h => ?_⟩
  unfold fdivD at h
  split at h
  · cases rx; cases ry
    split at h
    · rename_i hz
      exact ⟨_, _, rfl, rfl, fdOk_ok hz, h.here rs rfl⟩
    · exact h.elim
  · exact h.elim
theorem op_modD : OpD cl X (binaryOp .Mod) modD := by
  refine ⟨_, op_mod, fun E m S H x y vx vy Q rs rx ry h => ?_⟩
  unfold modD at h
  split at h
  · cases rx; cases ry
    split at h
    · rename_i hz
      exact ⟨_, _, rfl, rfl, hz, h.here rs rfl⟩
    · exact h.elim
  · exact h.elim
theorem op_powD : OpD cl X (binaryOp .Pow) powD := by
  refine ⟨_, op_pow, fun E m S H x y vx vy Q rs rx ry h => ?_⟩
  unfold powD at h
  split at h
  · cases rx; cases ry
    split at h
    · rename_i hz
      exact ⟨_, _, rfl, rfl, powOk_ok hz, h.here rs rfl⟩
    · exact h.elim
  · exact h.elim
theorem op_mulD : OpD cl X (binaryOp .Mult) mulD := by
  refine ⟨_, ((op_mul.or op_repS).or op_repA).or op_rep, fun E m S H x y vx vy Q rs rx ry h => ?_⟩
  unfold mulD at h
  split at h
  · cases rx; cases ry
    split at h
    · rename_i hz
      exact .inl (.inl (.inl ⟨_, _, rfl, rfl, mul_ok hz, h.here rs rfl⟩))
    · exact h.elim
  · cases rx; cases ry
    split at h
    · rename_i hz
      exact .inl (.inl (.inr ⟨_, _, rfl, rfl, (bnd_ok hz.1).1, (bnd_ok hz.1).2, hz.2, h.here rs rfl⟩))
    · exact h.elim
  · rename_i xs n
    split at h
    · rename_i hz
      obtain ⟨p, vs, rfl, s1, r1⟩ := rx
      cases ry
      refine .inl (.inr ⟨p, n, vs, rfl, rfl, s1, (bnd_ok hz.1).1, (bnd_ok hz.1).2, by rw [← r1.length]; exact hz.2, fun e => ?_, fun e p' hp => ?_⟩)
      · have e1 : (List.replicate n.toNat xs).flatten = xs := by
          rcases e with e | e
          · subst e
            have : xs = [] := List.eq_nil_of_length_eq_zero r1.length
            subst this
            simp
          · subst e; simp
        rw [e1] at h
        exact h.here rs ⟨p, vs, rfl, s1, r1⟩
      · obtain ⟨a1, b1⟩ := newTup rs (r1.rep n.toNat) hp
        exact h _ _ _ (Ext.refl m) (Keep.new hp) a1 b1
    · exact h.elim
  · rename_i a n
    split at h
    · rename_i xs e1
      split at h
      · rename_i hz
        obtain ⟨p, h1, ⟨vs, hv, r1⟩⟩ := rs.adr e1
        obtain ⟨p', h1', rfl⟩ := rx
        rw [h1] at h1'; cases h1'
        cases ry
        refine .inr ⟨p, n, vs, rfl, rfl, hv, (bnd_ok hz.1).1, (bnd_ok hz.1).2, by rw [← r1.length]; exact hz.2, fun p' hp => ?_⟩
        obtain ⟨a1, b1⟩ := newLst rs (r1.rep n.toNat) hp
        exact h _ _ _ (Ext.snoc m p') (Keep.new hp) a1 b1
      · exact h.elim
    · exact h.elim
  · exact h.elim

def mapO {α β : Type} (f : α → Option β) : List α → Option (List β)
  | [] => some []
  | x :: xs => match f x, mapO f xs with
    | some a, some b => some (a :: b)
    | _, _ => none
def toP (S : Sto) : Nat → D → Option PyData
  | _, .non => some .none
  | _, .bl b => some (.bool b)
  | _, .int i => some (.int i)
  | _, .str x => some (.str x)
  | n + 1, .tup ds => (mapO (toP S n) ds).map .tuple
  | n + 1, .frl ds => (mapO (toP S n) ds).map .list
  | n + 1, .ref l => match S[l]? with
    | some (.lst ds) => (mapO (toP S n) ds).map .list
    | _ => none
  | _, .exn _ _ _ _ => none
  | 0, _ => none
theorem dpAll {K : PySem.W.Frag} {m : List Addr} {H : Hp} {f : D → Option PyData} (hf : ∀ d p v, f d = some p → RV K m H d v → Dp K H v p) :
    ∀ (ds : List D) (ps : List PyData) (vs : List V), mapO f ds = some ps → RVs K m H ds vs → DpAll K H vs ps
  | [], ps, vs, e, r => by
    cases e; cases r; exact .nil
  | d :: ds, ps, vs, e, r => by
    obtain ⟨v, vs', rfl, r1, r2⟩ := r
    unfold mapO at e
    split at e
    · rename_i a b ea eb
      cases e
      exact .cons (hf d a v ea r1) (dpAll hf ds b vs' eb r2)
    · cases e
theorem toP_dp {K : PySem.W.Frag} {m : List Addr} {S : Sto} {H : Hp} (rs : RS cl K m S H) : ∀ (n : Nat) (d : D) (p : PyData) (v : V), toP S n d = some p → RV K m H d v → Dp K H v p := by
  have base : ∀ (n : Nat), (∀ d p v, toP S n d = some p → RV K m H d v → Dp K H v p) → ∀ d p v, toP S (n + 1) d = some p → RV K m H d v → Dp K H v p := by
    intro n ih d p v e r
    cases d with
    | non => cases e; cases r; exact .non
    | bl b => cases e; cases r; exact .bl b
    | int b => cases e; cases r; exact .int b
    | str b => cases e; cases r; exact .str b
    | exn _ _ _ _ => cases e
    | tup ds =>
      obtain ⟨a, vs, rfl, s1, r1⟩ := r
      obtain ⟨ps, e1, rfl⟩ := Option.map_eq_some_iff.mp e
      exact .tup s1 (dpAll ih ds ps vs e1 r1)
    | frl ds =>
      obtain ⟨a, vs, rfl, s1, r1⟩ := r
      obtain ⟨ps, e1, rfl⟩ := Option.map_eq_some_iff.mp e
      exact .lst s1.sq (dpAll ih ds ps vs e1 r1)
    | ref l =>
      obtain ⟨a, e0, rfl⟩ := r
      unfold toP at e
      split at e
      · rename_i ds es
        obtain ⟨a', h1, vs, hv, r1⟩ := rs.adr es
        rw [e0] at h1; cases h1
        obtain ⟨ps, e1, rfl⟩ := Option.map_eq_some_iff.mp e
        exact .lst (SqL.of hv) (dpAll ih ds ps vs e1 r1)
      · cases e
  intro n
  induction n with
  | zero =>
    intro d p v e r
    cases d with
    | non => cases e; cases r; exact .non
    | bl b => cases e; cases r; exact .bl b
    | int b => cases e; cases r; exact .int b
    | str b => cases e; cases r; exact .str b
    | _ => cases e
  | succ n ih => exact base n ih
def sameD (x y : D) (S : Sto) : Option Bool :=
  match x, y with
  | .int a, .int b => some (decide (a = b))
  | .str a, .str b => some (decide (a = b))
  | .bl a, .bl b => some (decide (a = b))
  | _, _ => match toP S 60 x, toP S 60 y with
    | some a, some b => if SeqAt.shaped a && SeqAt.shaped b then some (PyData.eqv a b) else none
    | _, _ => none
def eqD (x y : D) (S : Sto) : Res D := match sameD x y S with
  | some b => .ok (.bl b) S
  | none => .stuck
def neD (x y : D) (S : Sto) : Res D := match sameD x y S with
  | some b => .ok (.bl (!b)) S
  | none => .stuck
theorem sameD_cases {x y : D} {S : Sto} {b : Bool} (h : sameD x y S = some b) :
    (∃ i j, x = .int i ∧ y = .int j ∧ b = decide (i = j)) ∨ (∃ i j, x = .str i ∧ y = .str j ∧ b = decide (i = j)) ∨ (∃ i j, x = .bl i ∧ y = .bl j ∧ b = decide (i = j)) ∨
    ∃ p q, toP S 60 x = some p ∧ toP S 60 y = some q ∧ SeqAt.shaped p = true ∧ SeqAt.shaped q = true ∧ b = PyData.eqv p q := by
  unfold sameD at h
  split at h
  · cases h; exact .inl ⟨_, _, rfl, rfl, rfl⟩
  · cases h; exact .inr (.inl ⟨_, _, rfl, rfl, rfl⟩)
  · cases h; exact .inr (.inr (.inl ⟨_, _, rfl, rfl, rfl⟩))
  · split at h
    · rename_i p q e1 e2
      split at h
      · rename_i hs
        rw [Bool.and_eq_true] at hs
        cases h
        exact .inr (.inr (.inr ⟨p, q, e1, e2, hs.1, hs.2, rfl⟩))
      · cases h
    · cases h
theorem op_eqDD (hu : X.A.units + 64 < cLine) : OpD cl X (compareOp .Eq) eqD := by
  refine ⟨_, op_eq.or (op_eqD hu), fun E m S H x y vx vy Q rs rx ry h => ?_⟩
  unfold eqD at h
  split at h
  · rename_i b e
    rcases sameD_cases e with ⟨i, j, rfl, rfl, rfl⟩ | ⟨i, j, rfl, rfl, rfl⟩ | ⟨i, j, rfl, rfl, rfl⟩ | ⟨p, q, e1, e2, s1, s2, rfl⟩
    · cases rx; cases ry
      refine .inl ⟨rfl, ?_⟩
      have : decide (V.int i = V.int j) = decide (i = j) := by simp
      rw [this]; exact h.here rs rfl
    · cases rx; cases ry
      refine .inl ⟨rfl, ?_⟩
      have : decide (V.str i = V.str j) = decide (i = j) := by simp
      rw [this]; exact h.here rs rfl
    · cases rx; cases ry
      refine .inl ⟨rfl, ?_⟩
      have : decide (V.bl i = V.bl j) = decide (i = j) := by simp
      rw [this]; exact h.here rs rfl
    · exact .inr ⟨p, q, toP_dp rs _ _ _ _ e1 rx, toP_dp rs _ _ _ _ e2 ry, s1, s2, h.here rs rfl⟩
  · exact h.elim
theorem op_neDD (hu : X.A.units + 64 < cLine) : OpD cl X (compareOp .NotEq) neD := by
  refine ⟨_, op_ne.or (op_neD hu), fun E m S H x y vx vy Q rs rx ry h => ?_⟩
  unfold neD at h
  split at h
  · rename_i b e
    rcases sameD_cases e with ⟨i, j, rfl, rfl, rfl⟩ | ⟨i, j, rfl, rfl, rfl⟩ | ⟨i, j, rfl, rfl, rfl⟩ | ⟨p, q, e1, e2, s1, s2, rfl⟩
    · cases rx; cases ry
      refine .inl ⟨rfl, ?_⟩
      have : decide (V.int i = V.int j) = decide (i = j) := by simp
      rw [this]; exact h.here rs rfl
    · cases rx; cases ry
      refine .inl ⟨rfl, ?_⟩
      have : decide (V.str i = V.str j) = decide (i = j) := by simp
      rw [this]; exact h.here rs rfl
    · cases rx; cases ry
      refine .inl ⟨rfl, ?_⟩
      have : decide (V.bl i = V.bl j) = decide (i = j) := by simp
      rw [this]; exact h.here rs rfl
    · exact .inr ⟨p, q, toP_dp rs _ _ _ _ e1 rx, toP_dp rs _ _ _ _ e2 ry, s1, s2, h.here rs rfl⟩
  · exact h.elim
def ltD : D → D → Sto → Res D
  | .int a, .int b, S => .ok (.bl (decide (a < b))) S
  | _, _, _ => .stuck
def leD : D → D → Sto → Res D
  | .int a, .int b, S => .ok (.bl (decide (a ≤ b))) S
  | _, _, _ => .stuck
def gtD : D → D → Sto → Res D
  | .int a, .int b, S => .ok (.bl (decide (b < a))) S
  | _, _, _ => .stuck
def geD : D → D → Sto → Res D
  | .int a, .int b, S => .ok (.bl (decide (b ≤ a))) S
  | _, _, _ => .stuck
theorem op_ltD : OpD cl X (compareOp .Lt) ltD := by
  refine ⟨_, op_lt, fun E m S H x y vx vy Q rs rx ry h => ?_⟩
  unfold ltD at h
  split at h
  · cases rx; cases ry; exact ⟨_, _, rfl, rfl, h.here rs rfl⟩
  · exact h.elim
theorem op_leD : OpD cl X (compareOp .LtE) leD := by
  refine ⟨_, op_le, fun E m S H x y vx vy Q rs rx ry h => ?_⟩
  unfold leD at h
  split at h
  · cases rx; cases ry; exact ⟨_, _, rfl, rfl, h.here rs rfl⟩
  · exact h.elim
theorem op_gtD : OpD cl X (compareOp .Gt) gtD := by
  refine ⟨_, op_gt, fun E m S H x y vx vy Q rs rx ry h => ?_⟩
  unfold gtD at h
  split at h
  · cases rx; cases ry; exact ⟨_, _, rfl, rfl, h.here rs rfl⟩
  · exact h.elim
theorem op_geD : OpD cl X (compareOp .GtE) geD := by
  refine ⟨_, op_ge, fun E m S H x y vx vy Q rs rx ry h => ?_⟩
  unfold geD at h
  split at h
  · cases rx; cases ry; exact ⟨_, _, rfl, rfl, h.here rs rfl⟩
  · exact h.elim
def isD : D → D → Sto → Res D
  | x, .non, S => .ok (.bl (decide (x = .non))) S
  | _, _, _ => .stuck
def isNotD : D → D → Sto → Res D
  | x, .non, S => .ok (.bl (!decide (x = .non))) S
  | _, _, _ => .stuck
theorem rv_non {K : PySem.W.Frag} {m : List Addr} {H : Hp} {x : D} {v : V} (r : RV K m H x v) : decide (v = .non) = decide (x = .non) := by
  cases x with
  | non => cases r; simp
  | bl _ => cases r; simp
  | int _ => cases r; simp
  | str _ => cases r; simp
  | tup _ => obtain ⟨a, vs, rfl, _⟩ := r; simp
  | frl _ => obtain ⟨a, vs, rfl, _⟩ := r; simp
  | ref _ => obtain ⟨a, _, rfl⟩ := r; simp
  | exn _ _ _ _ => obtain ⟨rfl, _⟩ := r; simp
theorem op_isD : OpD cl X (compareOp .Is) isD := by
  refine ⟨_, op_isN, fun E m S H x y vx vy Q rs rx ry h => ?_⟩
  unfold isD at h
  split at h
  · cases ry
    refine ⟨rfl, ?_⟩
    rw [rv_non rx]; exact h.here rs rfl
  · exact h.elim
end
end DL

namespace DL
open PySem PySem.Spec PyProof.Rows L2
section
variable {cl : Cl} {K : PySem.W.Frag} {m : List Addr} {H : Hp} {E : XK} {D : Ends} {S : Sto} {sd : Sl} {σ : L2.St}
theorem Post.toNx (h : Post cl K (RFl K) m H E (endQ D) (.ok (.nx sd) S)) (rs : RS cl K m S H) (rl : RSl K m H sd σ) : D.nx σ H := h m (.nx σ) H (Ext.refl m) (Keep.refl H) rs rl
theorem Post.toBk (h : Post cl K (RFl K) m H E (endQ D) (.ok (.brk sd) S)) (rs : RS cl K m S H) (rl : RSl K m H sd σ) : D.bk σ H := h m (.brk σ) H (Ext.refl m) (Keep.refl H) rs rl
theorem Post.toCt (h : Post cl K (RFl K) m H E (endQ D) (.ok (.cnt sd) S)) (rs : RS cl K m S H) (rl : RSl K m H sd σ) : D.ct σ H := h m (.cnt σ) H (Ext.refl m) (Keep.refl H) rs rl
end
section
variable {cl : Cl} {K : PySem.W.Frag} {m : List Addr} {H : Hp} {E : XK} {En : Ends} {S : Sto} {d : D} {v : V}
theorem Post.toRt (h : Post cl K (RFl K) m H E (endQ En) (.ok (.ret d) S)) (rs : RS cl K m S H) (rv : RV K m H d v) : En.rt v H := h m (.ret v) H (Ext.refl m) (Keep.refl H) rs rv
end
def tstB (f : Sl → Sto → Res D) : Sl → Sto → Res Bool := fun sd S => (f sd S).bind fun d S1 => match d with
  | .bl b => .ok b S1
  | _ => .stuck
def tAndD (f g : Sl → Sto → Res Bool) : Sl → Sto → Res Bool := fun sd S => (f sd S).bind fun b S1 => if b then g sd S1 else .ok false S1
def tOrD (f g : Sl → Sto → Res Bool) : Sl → Sto → Res Bool := fun sd S => (f sd S).bind fun b S1 => if b then .ok true S1 else g sd S1
def tNotD (f : Sl → Sto → Res Bool) : Sl → Sto → Res Bool := fun sd S => (f sd S).bind fun b S1 => .ok (!b) S1
def dAnd (f g : Sl → Sto → Res D) : Sl → Sto → Res D := fun sd S => (f sd S).bind fun d S1 => match d with
  | .bl true => g sd S1
  | .bl false => .ok (.bl false) S1
  | _ => .stuck
def dOr (f g : Sl → Sto → Res D) : Sl → Sto → Res D := fun sd S => (f sd S).bind fun d S1 => match d with
  | .bl true => .ok (.bl true) S1
  | .bl false => g sd S1
  | _ => .stuck
def dNot (f : Sl → Sto → Res D) : Sl → Sto → Res D := fun sd S => (f sd S).bind fun d S1 => match d with
  | .bl b => .ok (.bl (!b)) S1
  | _ => .stuck
def dIf (c : Sl → Sto → Res Bool) (f g : Sl → Sto → Res D) : Sl → Sto → Res D := fun sd S => (c sd S).bind fun b S1 => if b then f sd S1 else g sd S1
def dNeg (f : Sl → Sto → Res D) : Sl → Sto → Res D := fun sd S => (f sd S).bind fun d S1 => match d with
  | .int i => .ok (.int (-i)) S1
  | _ => .stuck
section
variable {cl : Cl} {X : Cx} {E : XK} {a b c : Expr} {rest : List Expr} {fa fb fc : Sl → Sto → Res D} {ga gb gc : Sl → Sto → Res Bool} {pos : Pos}
theorem dt_val (ha : DE cl X E a fa) (he : ∀ whole, isTrue a X.env whole = (do let v ← whole; standAt a.pos; holding [v] (truthy v)) := by intro _; rfl) : DT cl X E a (tstB fa) := by
  obtain ⟨ta, pa, ha⟩ := ha
  refine ⟨_, pt_val pa he, fun m S H sd σ Q rs rl h => ?_⟩
  refine ha m S H sd σ _ rs rl (Post.bind h fun x S1 m1 vx H1 x1 k1 rs1 rx h1 => ?_)
  cases x with
  | bl k => exact ⟨k, rx, h1.here rs1 rfl⟩
  | _ => exact h1.elim
theorem dt_bool (h : DW cl X E a ga) : DT cl X E a ga := by
  obtain ⟨t, p, h⟩ := h
  exact ⟨t, p.pt, h⟩
theorem dw_or1 (ha : DT cl X E a ga) : DW cl X E (.BoolOp .Or [a] pos) ga := by
  obtain ⟨t, p, h⟩ := ha
  exact ⟨t, pw_or1 p, h⟩
theorem dw_or (ha : DT cl X E a ga) (hb : DW cl X E (.BoolOp .Or (b :: rest) pos) gb) : DW cl X E (.BoolOp .Or (a :: b :: rest) pos) (tOrD ga gb) := by
  obtain ⟨t, p, ha⟩ := ha
  obtain ⟨u, q, hb⟩ := hb
  refine ⟨_, pw_or p q, fun m S H sd σ Q rs rl h => ?_⟩
  refine ha m S H sd σ _ rs rl (Post.bind h fun x S1 m1 vx H1 x1 k1 rs1 rx h1 => ?_)
  cases rx
  cases x with
  | true => exact iteT (h1.here rs1 rfl)
  | false => exact iteF (hb m1 S1 H1 sd σ _ rs1 (rl.mono x1 k1) h1)
theorem dt_not (ha : DT cl X E a ga) : DT cl X E (.UnaryOp .Not a pos) (tNotD ga) := by
  obtain ⟨t, p, ha⟩ := ha
  refine ⟨_, pt_not p, fun m S H sd σ Q rs rl h => ?_⟩
  refine ha m S H sd σ _ rs rl (Post.bind h fun x S1 m1 vx H1 x1 k1 rs1 rx h1 => ?_)
  cases rx
  exact h1.here rs1 rfl
theorem de_one {op} (ha : DE cl X E a fa) : DE cl X E (.BoolOp op [a] pos) fa := by
  obtain ⟨t, p, ha⟩ := ha
  exact ⟨t, pe_one p, ha⟩
theorem de_and (ha : DE cl X E a fa) (hb : DE cl X E (.BoolOp .And (b :: rest) pos) fb) : DE cl X E (.BoolOp .And (a :: b :: rest) pos) (dAnd fa fb) := by
  obtain ⟨t, p, ha⟩ := ha
  obtain ⟨u, q, hb⟩ := hb
  refine ⟨_, pe_and p q, fun m S H sd σ Q rs rl h => ?_⟩
  refine ha m S H sd σ _ rs rl (Post.bind h fun x S1 m1 vx H1 x1 k1 rs1 rx h1 => ?_)
  cases x with
  | bl k =>
    refine ⟨k, rx, ?_⟩
    cases k with
    | true => exact iteT (hb m1 S1 H1 sd σ _ rs1 (rl.mono x1 k1) h1)
    | false => exact iteF (h1.here rs1 rfl)
  | _ => exact h1.elim
theorem de_if (hc : DT cl X E c gc) (ha : DE cl X E a fa) (hb : DE cl X E b fb) : DE cl X E (.IfExp c a b pos) (dIf gc fa fb) := by
  obtain ⟨tc, pc, hc⟩ := hc
  obtain ⟨t, p, ha⟩ := ha
  obtain ⟨u, q, hb⟩ := hb
  refine ⟨_, pe_ifExp pc p q, fun m S H sd σ Q rs rl h => ?_⟩
  refine hc m S H sd σ _ rs rl (Post.bind h fun x S1 m1 vx H1 x1 k1 rs1 rx h1 => ?_)
  cases rx
  cases x with
  | true => exact iteT (ha m1 S1 H1 sd σ _ rs1 (rl.mono x1 k1) h1)
  | false => exact iteF (hb m1 S1 H1 sd σ _ rs1 (rl.mono x1 k1) h1)
end

def sNext : Sl → Sto → Res Fl := fun sd S => .ok (.nx sd) S
def sSeq (f g : Sl → Sto → Res Fl) : Sl → Sto → Res Fl := fun sd S => (f sd S).bind fun fl S1 => match fl with
  | .nx sd1 => g sd1 S1
  | r => .ok r S1
def sIf (c : Sl → Sto → Res Bool) (f g : Sl → Sto → Res Fl) : Sl → Sto → Res Fl := fun sd S => (c sd S).bind fun b S1 => if b then f sd S1 else g sd S1
def sRet (f : Sl → Sto → Res D) : Sl → Sto → Res Fl := fun sd S => (f sd S).bind fun d S1 => .ok (.ret d) S1
def sExpr (f : Sl → Sto → Res D) : Sl → Sto → Res Fl := fun sd S => (f sd S).bind fun _ S1 => .ok (.nx sd) S1
def sAsg (f : Sl → Sto → Res D) (g : D → Sl → Sto → Res Sl) : Sl → Sto → Res Fl := fun sd S => (f sd S).bind fun d S1 => (g d sd S1).bind fun sd1 S2 => .ok (.nx sd1) S2
def gVar (i : Nat) : D → Sl → Sto → Res Sl := fun d sd S => .ok (sd.set i (some d)) S
section
variable {cl : Cl} {X : Cx} {E : XK} {a b c e : Expr} {st : Stmt} {sts sts' : List Stmt} {fa fb fc : Sl → Sto → Res D} {gc : Sl → Sto → Res Bool} {f g : Sl → Sto → Res Fl} {pos : Pos}
theorem dss_nil : DSs cl X E [] sNext := ⟨_, pss_nil, fun m S H sd σ D rs rl h => h.toNx rs rl⟩
theorem z8 (h1 : DS cl X E st f) (h2 : DSs cl X E sts g) : DSs cl X E (st :: sts) (sSeq f g) := by
  obtain ⟨t, p, h1⟩ := h1
  obtain ⟨u, q, h2⟩ := h2
  refine ⟨_, pss_cons p q, fun m S H sd σ D rs rl h => ?_⟩
  refine h1 m S H sd σ { D with nx := u D } rs rl (Post.bind h fun fl S1 m1 v H1 x1 k1 rs1 rv h3 => ?_)
  cases fl with
  | nx sd1 =>
    cases v with
    | nx σ1 => exact h2 m1 S1 H1 sd1 σ1 D rs1 rv h3
    | _ => exact rv.elim
  | ret d =>
    cases v with
    | ret w => exact h3.toRt rs1 rv
    | _ => exact rv.elim
  | brk sd1 =>
    cases v with
    | brk σ1 => exact h3.toBk rs1 rv
    | _ => exact rv.elim
  | cnt sd1 =>
    cases v with
    | cnt σ1 => exact h3.toCt rs1 rv
    | _ => exact rv.elim
theorem zb (h1 : DS cl X E st f) : DSs cl X E [st] f := by
  obtain ⟨t, p, h1⟩ := h1
  exact ⟨_, pss_one p, h1⟩
def sBrk : Sl → Sto → Res Fl := fun sd S => .ok (.brk sd) S
theorem ds_if (hc : DT cl X E c gc) (ha : DSs cl X E sts f) (hb : DSs cl X E sts' g) : DS cl X E (.If c sts sts' pos) (sIf gc f g) := by
  obtain ⟨tc, pc, hc⟩ := hc
  obtain ⟨t, p, ha⟩ := ha
  obtain ⟨u, q, hb⟩ := hb
  refine ⟨_, ps_if pc p q, fun m S H sd σ D rs rl h => ?_⟩
  refine hc m S H sd σ _ rs rl (Post.bind h fun x S1 m1 vx H1 x1 k1 rs1 rx h1 => ?_)
  cases rx
  cases x with
  | true => exact iteT (ha m1 S1 H1 sd σ _ rs1 (rl.mono x1 k1) h1)
  | false => exact iteF (hb m1 S1 H1 sd σ _ rs1 (rl.mono x1 k1) h1)
theorem ds_ret (he : DE cl X E e fa) : DS cl X E (.Return (some e) pos) (sRet fa) := by
  obtain ⟨t, p, he⟩ := he
  refine ⟨_, ps_ret p, fun m S H sd σ D rs rl h => ?_⟩
  refine he m S H sd σ _ rs rl (Post.bind h fun x S1 m1 vx H1 x1 k1 rs1 rx h1 => ?_)
  exact h1.toRt rs1 rx
theorem ze (he : DE cl X E e fa) (hs : swapsWith e none pos.line X.env = pure false := by rfl) : DS cl X E (.Expr e pos) (sExpr fa) := by
  obtain ⟨t, p, he⟩ := he
  refine ⟨_, ps_expr p hs, fun m S H sd σ D rs rl h => ?_⟩
  refine he m S H sd σ _ rs rl (Post.bind h fun x S1 m1 vx H1 x1 k1 rs1 rx h1 => ?_)
  exact h1.toNx rs1 (rl.mono x1 k1)
theorem zh {i : Nat} {x : Str} {pos' : Pos} (hN : X.N.Nodup) (hi : X.N[i]? = some x) (hx : Loc X.env.scope x) (he : DE cl X E e fa) (hs : swapsWith e (some (.Name x pos')) pos.line X.env = pure false := by rfl) (hf : X.fn x = true ∨ X.env.scope.names.lookup x = some .local := by first | exact .inl rfl | exact .inr rfl | assumption) :
    DS cl X E (.Assign [.Name x pos'] e pos) (sAsg fa (gVar i)) := by
  obtain ⟨t, p, he⟩ := he
  refine ⟨_, ps_set hN hi hx p hs hf, fun m S H sd σ D rs rl h => ?_⟩
  refine he m S H sd σ _ rs rl (Post.bind h fun y S1 m1 vx H1 x1 k1 rs1 rx h1 => ?_)
  exact h1.toNx rs1 ((rl.mono x1 k1).set i rx)
theorem dg_name {i : Nat} {x : Str} (hN : X.N.Nodup) (hi : X.N[i]? = some x) (hx : Loc X.env.scope x) (hf : X.fn x = true ∨ X.env.scope.names.lookup x = some .local := by first | exact .inl rfl | exact .inr rfl | assumption) : DG cl X E (.Name x pos) (gVar i) := by
  refine ⟨_, pg_name hN hi hx hf, fun m S H sd σ d v Q rs rl rv h => ?_⟩
  exact h.here rs (rl.set i rv)
def gsNil : List D → Sl → Sto → Res Sl := fun ds sd S => match ds with
  | [] => .ok sd S
  | _ => .stuck
def gsCons (g : D → Sl → Sto → Res Sl) (k : List D → Sl → Sto → Res Sl) : List D → Sl → Sto → Res Sl := fun ds sd S => match ds with
  | d :: r => (g d sd S).bind fun sd1 S1 => k r sd1 S1
  | _ => .stuck
theorem dgs_nil : DGs cl X E [] gsNil := by
  refine ⟨_, pgs_nil, fun m S H sd σ ds vs Q rs rl rv h => ?_⟩
  cases ds with
  | nil => exact ⟨rv, h.here rs rl⟩
  | cons _ _ => exact h.elim
theorem dgs_cons {e : Expr} {es : List Expr} {g k} (h1 : DG cl X E e g) (h2 : DGs cl X E es k) (hs : (assignEach (e :: es) X.env).map (·.2) = assign e X.env :: (assignEach es X.env).map (·.2) := by rfl) : DGs cl X E (e :: es) (gsCons g k) := by
  obtain ⟨t, p, h1⟩ := h1
  obtain ⟨u, q, h2⟩ := h2
  refine ⟨_, pgs_cons p q hs, fun m S H sd σ ds vs Q rs rl rv h => ?_⟩
  cases ds with
  | nil => exact h.elim
  | cons d r =>
    obtain ⟨v, vr, rfl, r1, r2⟩ := rv
    refine ⟨v, vr, rfl, ?_⟩
    refine h1 m S H sd σ d v _ rs rl r1 (Post.bind h fun sd1 S1 m1 σ1 H1 x1 k1 rs1 rl1 h3 => ?_)
    exact h2 m1 S1 H1 sd1 σ1 r vr Q rs1 rl1 (r2.mono x1 k1) h3
def gTupD (n : Nat) (k : List D → Sl → Sto → Res Sl) : D → Sl → Sto → Res Sl := fun d sd S => match d with
  | .tup ds => if ds.length = n then k ds sd S else .stuck
  | d => match lsD d S with
    | some ds => if ds.length = n then k ds sd S else .stuck
    | _ => .stuck
theorem PG.or {tg : Expr} {t u : TG} (h : PG X tg t) (h' : PG X tg u) : PG X tg (fun v σ H Q => t v σ H Q ∨ u v σ H Q) :=
  ⟨fun pins s σ H v w Q I r hw => hw.elim (fun z => h.run pins s σ H v w Q I r z) (fun z => h'.run pins s σ H v w Q I r z)⟩
theorem dg_tup {es : List Expr} {k : Nat} {t} {n : Nat} (hc : X.calm = true) (h : DGs cl X E es t)
    (hn : (assignEach es X.env).length = n := by rfl) (hst : (assignEach es X.env).findIdx? (·.1) = none := by rfl) : DG cl X E (.Tuple es k pos) (gTupD n t) := by
  obtain ⟨u, q, h⟩ := h
  refine ⟨_, PG.or (pg_tup hc q hn hst) (pg_unl hc q hn hst), fun m S H sd σ d v Q rs rl rv hh => ?_⟩
  unfold gTupD at hh
  split at hh
  · rename_i ds
    split at hh
    · rename_i hl
      obtain ⟨a, vs, rfl, s1, r1⟩ := rv
      exact .inl ⟨a, vs, rfl, s1, by rw [← r1.length]; exact hl, h m S H sd σ ds vs Q rs rl r1 hh⟩
    · exact hh.elim
  · split at hh
    · rename_i ds e1
      split at hh
      · rename_i hl
        obtain ⟨a, vs, rfl, hv, r1⟩ := ls_rv rs rv e1
        exact .inr ⟨a, vs, rfl, hv, by rw [← r1.length]; exact hl, h m S H sd σ ds vs Q rs rl r1 hh⟩
      · exact hh.elim
    · exact hh.elim
theorem ds_asg {tg : Expr} {g} (he : DE cl X E e fa) (hg : DG cl X E tg g) (hs : swapsWithSole [tg] e pos.line X.env = pure false := by rfl) (hw : swappedStores [tg] e X.env = pure none := by rfl)
    (h1 : (assignEach [tg] X.env).map (·.2) = [assign tg X.env] := by rfl) : DS cl X E (.Assign [tg] e pos) (sAsg fa g) := by
  obtain ⟨t, p, he⟩ := he
  obtain ⟨u, q, hg⟩ := hg
  refine ⟨_, ps_asg p q hs hw h1, fun m S H sd σ D rs rl h => ?_⟩
  refine he m S H sd σ _ rs rl (Post.bind h fun y S1 m1 vx H1 x1 k1 rs1 rx h2 => ?_)
  refine hg m1 S1 H1 sd σ y vx _ rs1 (rl.mono x1 k1) rx (Post.bind h2 fun sd1 S2 m2 σ2 H2 x2 k2 rs2 rl2 h3 => ?_)
  exact h3.toNx rs2 rl2
def sPar (i j : Nat) (f : Sl → Sto → Res (List D)) : Sl → Sto → Res Fl := fun sd S => (f sd S).bind fun ds S1 => match ds with
  | [x, y] => .ok (.nx ((sd.set i (some x)).set j (some y))) S1
  | _ => .stuck
end
end DL

namespace DL
open PySem PySem.Spec PyProof.Rows L2
inductive Sk where
  | l (a : Addr) | t (a : Addr) | s (z : Str)
def Sk.v : Sk → V
  | .l a => .ref a
  | .t a => .ref a
  | .s z => .str z
def signs (z : Str) : List V := z.cps.toList.map fun c => V.str ⟨#[c]⟩
def Sk.Rd (K : PySem.W.Frag) (H : Hp) : Sk → List V → Prop
  | .l a, xs => SqL K H a xs
  | .t a, xs => SqT K H a xs
  | .s z, xs => xs = signs z
def Sk.It : Sk → Addr → Nat → Heap → Prop
  | .l a, it, i, h => h.IsListIter it a i
  | .t a, it, i, h => h.IsTupleIter it a i
  | .s z, it, i, h => ∃ t, h.IsStrIter it (strIterType z) z t i
section
variable {X : Cx} {pins : List (Addr × Obj)} {σ : L2.St} {H : Hp} {s : Shared} {k : Sk} {xs ys : List V} {it b a : Addr} {i : Nat}
theorem Sk.inj (I : Inv X pins σ H s) (h : k.Rd X.K H xs) (h' : k.Rd X.K H ys) : xs = ys := by
  cases k with
  | l a => exact I.list_inj h h'
  | t a => exact I.tuple_inj h h'
  | s z => exact Eq.trans h (Eq.symm h')
theorem Sk.It.keep {h h' : Heap} (x : k.It it i h) (hk : ∀ o, h.get? it = some o → h'.get? it = some o) : k.It it i h' := by
  cases k with
  | l a => obtain ⟨o, e, r⟩ := x; exact ⟨o, hk o e, r⟩
  | t a => obtain ⟨o, e, r⟩ := x; exact ⟨o, hk o e, r⟩
  | s z => obtain ⟨t, o, e, r⟩ := x; exact ⟨t, o, hk o e, r⟩
theorem Sk.It.obj {h : Heap} (x : k.It it i h) : ∃ o, h.get? it = some o ∧ ∀ v, o.data ≠ .cell v := by
  cases k with
  | l a => obtain ⟨o, e, _, r⟩ := x; exact ⟨o, e, fun v q => by rw [r] at q; cases q⟩
  | t a => obtain ⟨o, e, _, r⟩ := x; exact ⟨o, e, fun v q => by rw [r] at q; cases q⟩
  | s z => obtain ⟨t, o, e, _, r⟩ := x; exact ⟨o, e, fun v q => by rw [r] at q; cases q⟩
theorem fp_neL (I : Inv X pins σ H s) (f : FpOk X pins H b) (h : SqL X.K H a xs) : b ≠ a := by
  rintro rfl
  obtain ⟨f0, f1, f2, f3, f4, f5⟩ := f
  rcases h with (h | ⟨o, h⟩) | ⟨o, its, n, hk, _⟩
  · rw [f0] at h; cases h
  · rw [f0] at h; cases h
  · have e := I.mod.kin _ _ hk
    rcases f3 with f3 | f3
    · exact I.ok.noex _ _ e f3
    · exact absurd (Nat.lt_of_lt_of_le (Heap.lt_size e) (Nat.le_trans I.ok.bsz f3)) (Nat.lt_irrefl _)
theorem fp_neT (I : Inv X pins σ H s) (f : FpOk X pins H b) (h : SqT X.K H a xs) : b ≠ a := by
  rintro rfl
  obtain ⟨f0, f1, f2, f3, f4, f5⟩ := f
  rcases h with (h | ⟨o, h⟩) | ⟨o, its, n, hk, _⟩
  · rw [f0] at h; cases h
  · rw [f0] at h; cases h
  · have e := I.mod.kin _ _ hk
    rcases f3 with f3 | f3
    · exact I.ok.noex _ _ e f3
    · exact absurd (Nat.lt_of_lt_of_le (Heap.lt_size e) (Nat.le_trans I.ok.bsz f3)) (Nat.lt_irrefl _)
theorem draws_imp {prog : Program} {w : World} {A : Around} {fp : List Addr} {n : Nat} {P P' : Nat → Value → Prop} {St : Nat → Heap → Prop} (D : Draws prog w A it fp n P St) (h : ∀ i v, P i v → P' i v) : Draws prog w A it fp n P' St :=
  ⟨D.live, D.frame, fun i s Q E hi st hQ => D.item i s Q E hi st fun x h' tk p => hQ x h' tk (h i x p), D.done⟩
theorem Sk.draws (I : Inv X pins σ H s) (hc : X.calm = true) (hr : k.Rd X.K H xs) (hit : k.It it i s.heap) (f : FpOk X pins H it) :
    ∃ (fp : List Addr) (St : Nat → Heap → Prop), Draws X.prog X.w X.A.in1 it fp xs.length (fun j v => ∃ x, xs[j]? = some x ∧ RelV x v) St ∧ St i s.heap ∧ (∀ j h', St j h' → k.It it j h') ∧ it ∈ fp ∧ ∀ b, FpOk X pins H b → b ≠ it → b ∉ fp := by
  have hh : X.A.in1.handled = none := I.ok.hd hc
  cases k with
  | l a =>
    obtain ⟨its, rv, p, hz⟩ := I.list hr
    have hne : a ≠ it := fun e => fp_neL I f hr e.symm
    have e : its.toArray.size = xs.length := by simp [rv.length]
    refine ⟨[it, a], _, draws_imp (e ▸ Draws.list (prog := X.prog) (w := X.w) hh it a hne its.toArray) ?_, ⟨hit, p.isList⟩, fun j h' st => st.1, by simp, fun b fb hb => ?_⟩
    · intro j v hv
      have hv' : its[j]? = some v := by simpa using hv
      have hj : j < xs.length := by rw [rv.length]; exact (List.getElem?_eq_some_iff.mp hv').1
      obtain ⟨u, hu, ru⟩ := rv.get (i := j) (x := xs[j]) (by simp [hj])
      rw [hv'] at hu; cases hu
      exact ⟨_, by simp [hj], ru⟩
    · have := fp_neL I fb hr
      simp [hb, this]
  | t a =>
    obtain ⟨its, rv, p, hz⟩ := I.tuple hr
    have hne : a ≠ it := fun e => fp_neT I f hr e.symm
    have e : its.toArray.size = xs.length := by simp [rv.length]
    refine ⟨[it, a], _, draws_imp (e ▸ Draws.tuple (prog := X.prog) (w := X.w) hh it a hne its.toArray) ?_, ⟨hit, p⟩, fun j h' st => st.1, by simp, fun b fb hb => ?_⟩
    · intro j v hv
      have hv' : its[j]? = some v := by simpa using hv
      have hj : j < xs.length := by rw [rv.length]; exact (List.getElem?_eq_some_iff.mp hv').1
      obtain ⟨u, hu, ru⟩ := rv.get (i := j) (x := xs[j]) (by simp [hj])
      rw [hv'] at hu; cases hu
      exact ⟨_, by simp [hj], ru⟩
    · have := fp_neT I fb hr
      simp [hb, this]
  | s z =>
    obtain ⟨t, hit⟩ := hit
    have hr' : xs = signs z := hr
    have e : z.cps.size = xs.length := by rw [hr']; simp [signs]
    refine ⟨[it], _, draws_imp (e ▸ Draws.text (prog := X.prog) (w := X.w) hh it z t) ?_, hit, fun j h' st => ⟨t, st⟩, by simp, fun b fb hb => by simp [hb]⟩
    rintro j v ⟨c, u, hc', rfl⟩
    refine ⟨.str ⟨#[c]⟩, ?_, u, rfl⟩
    rw [hr']
    unfold signs
    rw [List.getElem?_map, Array.getElem?_toList, hc']
    rfl
end
set_option maxHeartbeats 4000000 in
theorem meets_enumerate_newB1 {v : Value} {o : Obj} {H : Heap → Prop} (B : Begins v o H) :
    Meets (Builtin.«enumerate.__new__» ⟨[.type "enumerate", v], []⟩) (fun _ R s => H s.heap ∧
      R (.ok (.ret (.ref (s.heap.push o).objs.size))) { s with heap := (s.heap.push o).push { cls := .type "enumerate", data := .fields #[.none, .bool false, .ref s.heap.objs.size, rawInt 0, .none, .none] } }) :=
  .of_wp fun prog w A R s h => by
    obtain ⟨hp, g, d, tk, os⟩ := s; obtain ⟨h1, h⟩ := h
    have hsub := sub_enumerate
    have q1 : ∀ {A' : Around} {E : Value → Shared → Prop} {Q : Value → Shared → Prop}, Q (.ref hp.objs.size) ⟨hp.push o, g, d, tk, os⟩ → wpAny (model prog w) A' (pyIter v) Q E ⟨hp, g, d, tk, os⟩ :=
      fun q => B.iter prog w _ _ ⟨hp, g, d, tk, os⟩ _ h1 q
    wp_walk using q1
    refine wpAny_stack_any fun st => wpAny_pure ?_
    split
    · rename_i c _ _ _ _ _
      cases (c == Value.type "enumerate")
      · wp_walk using q1
        exact ⟨_, rfl, h⟩
      · wp_walk using q1
        exact ⟨_, rfl, h⟩
    · wp_walk using q1
      exact ⟨_, rfl, h⟩
theorem enum_begins1 {prog : Program} {w : World} {A : Around} {E : Value → Shared → Prop} {s : Shared} {v : Value} {o : Obj} {H : Heap → Prop} {Q : Value → Shared → Prop} (B : Begins v o H) (h1 : H s.heap)
    (h : ∀ h', IsEnum h' (s.heap.objs.size + 1) s.heap.objs.size 0 .none → h'.get? s.heap.objs.size = some o → h'.objs.size = s.heap.objs.size + 2 →
      (∀ b o, s.heap.get? b = some o → h'.get? b = some o) → Q (.ref (s.heap.objs.size + 1)) { s with heap := h' }) :
    wpAny (model prog w) A (call (.type "enumerate") [v]) Q E s := by
  refine callType_new F.called_enumerate (by decide) (F.typeCall_enumerate_1 _) (F.newCall_enumerate_1 _) (fun obj => F.args_object_init_2 obj _) F.entry_enumerate_new
    (meets_enumerate_newB1 B) ⟨h1, ?_⟩
  have hz : (s.heap.push o).objs.size = s.heap.objs.size + 1 := Heap.size_push ..
  show _ ∧ _
  rw [hz]
  have he : IsEnum ((s.heap.push o).push { cls := .type "enumerate", data := .fields #[.none, .bool false, .ref s.heap.objs.size, rawInt 0, .none, .none] }) (s.heap.objs.size + 1) s.heap.objs.size 0 .none := by
    have := Heap.get?_push_size (s.heap.push o) (o := { cls := .type "enumerate", data := .fields #[.none, .bool false, .ref s.heap.objs.size, rawInt 0, .none, .none] }) rfl
    rw [hz] at this; exact this
  refine ⟨⟨_, he, rfl⟩, h _ he (Heap.get?_push_of_some _ (Heap.get?_push_size _ B.free)) (by rw [Heap.size_push, hz]) fun b o x => Heap.get?_push_of_some _ (Heap.get?_push_of_some _ x)⟩
theorem Sk.begins {X : Cx} {pins : List (Addr × Obj)} {σ : L2.St} {H : Hp} {s : Shared} {k : Sk} {xs : List V} {u : Value} (I : Inv X pins σ H s) (hr : k.Rd X.K H xs) (ru : RelV k.v u) :
    ∃ (o : Obj) (G : Heap → Prop), Begins u o G ∧ G s.heap ∧ ∀ h' it, h'.get? it = some o → k.It it 0 h' := by
  cases k with
  | l a =>
    obtain ⟨its, rv, p, hz⟩ := I.list hr
    cases ru
    exact ⟨_, _, begins_list a its.toArray, p.isList, fun h' it e => ⟨_, e, rfl, rfl⟩⟩
  | t a =>
    obtain ⟨its, rv, p, hz⟩ := I.tuple hr
    cases ru
    exact ⟨_, _, begins_tuple a its.toArray, p, fun h' it e => ⟨_, e, rfl, rfl⟩⟩
  | s z =>
    obtain ⟨t, rfl⟩ := ru
    exact ⟨_, _, begins_text z t, trivial, fun h' it e => ⟨t, _, e, rfl, rfl⟩⟩
def IteS (K : PySem.W.Frag) (k : Sk) : It :=
  ⟨fun i H => ∃ (xs : List V) (x : V), k.Rd K H xs ∧ xs[i]? = some x, fun i H v H' => ∃ T x, v = .ref T ∧ H T = none ∧ H' = upd H T (.tup [.int (i : Nat), x]) ∧ ∀ xs, k.Rd K H xs → xs[i]? = some x, fun i H => ∃ xs : List V, k.Rd K H xs ∧ xs.length = i⟩
theorem turn_enumS {P : Program} {w : World} {K : PySem.W.Frag} {elts : List Expr} {kk : Nat} {tpos : Pos} (k : Sk) (e it : Addr) :
    Turn P w K (.Tuple elts kk tpos) (IteS K k) [e, it] e (fun i h => (∃ old, IsEnum h e it ((i : Nat) : Int) old) ∧ k.It it i h ∧ e ≠ it) where
  mem := by simp
  obj := fun i h st b hb => by
    obtain ⟨⟨old, he⟩, hi, _⟩ := st
    have e' : b = e ∨ b = it := by simpa using hb
    rcases e' with z | z
    · rw [z]; exact ⟨_, he, fun v q => nomatch q⟩
    · rw [z]; exact hi.obj
  keep := fun i h h' st kk => let ⟨⟨old, he⟩, hi, hne⟩ := st; ⟨⟨old, kk e (by simp) _ he⟩, hi.keep fun o q => kk it (by simp) o q, hne⟩
  item := by
    intro X hP hw hK hc i pins s σ H E I hf st hg
    subst hP hw hK
    obtain ⟨⟨old, he⟩, hit, hne⟩ := st
    obtain ⟨xs, x, hq, hx⟩ := hg
    obtain ⟨fp, St, D, st0, back, hm, hout⟩ := Sk.draws I hc hq hit (hf it (by simp))
    have hel : e < s.heap.objs.size := Heap.lt_size he
    have hil : it < s.heap.objs.size := by obtain ⟨_, q, _⟩ := hit.obj; exact Heap.lt_size q
    have hlt : i < xs.length := (List.getElem?_eq_some_iff.mp hx).1
    refine wpAny_pyNext_enum_itemC D he st0 hlt hne (hout e (hf e (by simp)) hne) fun u h' tk hP ho hst' hT hsz hk => ?_
    obtain ⟨x', hx', ru⟩ := hP
    rw [hx] at hx'; cases hx'
    refine ⟨_, rfl, wpAny_letOwnedTupleGo_enum (s := { s with heap := h', toks := tk + 1 }) ho fun h'' he' sb => ?_⟩
    have hT2 : h''.get? s.heap.objs.size = some { cls := .type "tuple", data := .seq #[.int i tk, u] } := (sb.2 _ (Nat.ne_of_gt hel)).trans hT
    have new : ObjOk X.prog X.w (upd H s.heap.objs.size (.tup [.int (i : Nat), x])) h'' s.heap.objs.size (.tup [.int (i : Nat), x]) :=
      ⟨by show 2 ≤ sizeLine; decide, [.int i tk, u], .cons ⟨_, rfl⟩ (.cons ru .nil), ⟨_, hT2, rfl, _, rfl⟩⟩
    have I1 : Inv X pins σ (upd H s.heap.objs.size (.tup [.int (i : Nat), x])) { s with heap := h'', toks := tk + 1 } :=
      I.turnedNew (ch := [e, it]) (fun b ob hb q => (sb.2 b (fun z => hb (by simp [z]))).trans (hk b ob (fun z => hb (by simp [z])) (fun z => hb (by simp [z])) q)) hf (Nat.le_refl _) new
    refine ⟨.ref s.heap.objs.size, _, I1, rfl, ⟨_, x, rfl, I.hok.fresh (Nat.le_refl _), rfl, fun ys hy => by rw [Sk.inj I hy hq]; exact hx⟩, ⟨⟨u, ?_⟩, (back _ _ hst').keep fun o q => (sb.2 it (Ne.symm hne)).trans q, hne⟩, fun b hb => ?_⟩
    · have e1 : ((i + 1 : Nat) : Int) = (i : Int) + 1 := by omega
      rw [e1]; exact he'
    · have hb' : b < s.heap.objs.size := by
        have e' : b = e ∨ b = it := by simpa using hb
        rcases e' with z | z
        · rw [z]; exact hel
        · rw [z]; exact hil
      rw [upd_ne (Nat.ne_of_lt hb')]
      exact (hf b hb).1
  done := by
    intro X hP hw hK hc i pins s σ H E I hf st hg
    subst hP hw hK
    obtain ⟨⟨old, he⟩, hit, hne⟩ := st
    obtain ⟨xs, hq, hx⟩ := hg
    obtain ⟨fp, St, D, st0, back, hm, hout⟩ := Sk.draws I hc hq hit (hf it (by simp))
    obtain ⟨f0, f1, f2, f3, f4, f5⟩ := hf it (by simp)
    subst hx
    exact wpAny_pyNext_enum_endD D he st0 fun h' eb => ⟨rfl, I.turned (t' := s.toks) (fun b o hb q => eb b o hb q) f0 f1 f3 f4 f5⟩
  self := fun A i s Q E st h => let ⟨⟨_, he⟩, _⟩ := st; wpAny_pyIter_enum he h
def iEnumS (K : PySem.W.Frag) (ta : TA) : TI := fun σ H R => ta σ H fun vs H1 => ∃ (k : Sk) (xs : List V), vs = [k.v] ∧ k.Rd K H1 xs ∧ R (IteS K k) H1
theorem pi_enumS {X : Cx} {e : Expr} {ta : TA} {p pos tpos : Pos} {elts : List Expr} {kk : Nat} (hg : Gl X "enumerate") (hm : X.mg "enumerate" = none) (ha : PA X [e] ta) (hs : starEach [e] X.env = [(false, eval e X.env)] := by rfl) :
    PI X (.Tuple elts kk tpos) (.Call (.Name "enumerate" p) [e] [] pos) (iEnumS X.K ta) := by
  refine ⟨fun pins s σ H R I h => ?_⟩
  refine Call_ (ld_blt I hg hm boot_enumerate (PyProof.Rows.callWith_type1 (thn (ha.run pos pins s σ H _ I h) fun us s1 ⟨vs, H1, I1, r1, q1⟩ => ?_) hs rfl))
  obtain ⟨k, xs, ex, hq, q⟩ := q1
  subst ex
  cases r1 with
  | cons r rr =>
    cases rr
    obtain ⟨o, G, B, g1, hb⟩ := Sk.begins I1 hq r
    refine enum_begins1 B g1 fun h' he hit hsz hk => wpAny_pyIter_enum he ?_
    have I2 : Inv X pins σ H1 { s1 with heap := h' } := I1.kept (t' := s1.toks) hk
    refine ⟨s1.heap.objs.size + 1, [s1.heap.objs.size + 1, s1.heap.objs.size], _, _, H1, rfl, I2, turn_enumS k (s1.heap.objs.size + 1) s1.heap.objs.size, ⟨⟨.none, he⟩, hb h' _ hit, Nat.succ_ne_self _⟩, fun b hb => ?_, q⟩
    have e' : b = s1.heap.objs.size + 1 ∨ b = s1.heap.objs.size := by simpa using hb
    have hle : s1.heap.objs.size ≤ b := by
      rcases e' with z | z
      · rw [z]; exact Nat.le_add_right _ _
      · rw [z]; exact Nat.le_refl _
    exact I1.fpOk hle (I1.hok.fresh hle)
structure ZAp (z TI TO i1 i2 : Addr) : Prop where
  TIz : TI ≠ z
  TOz : TO ≠ z
  TITO : TI ≠ TO
  TIi1 : TI ≠ i1
  TIi2 : TI ≠ i2
  zi1 : z ≠ i1
  zi2 : z ≠ i2
  TOi1 : TO ≠ i1
  TOi2 : TO ≠ i2
  i12 : i1 ≠ i2
end DL

namespace DL
open PySem PySem.Spec PyProof.Rows L2
structure ItD where
  items : List D
  chk : Sto → Bool
def yes : Sto → Bool := fun _ => true
def chkL (l : Nat) (xs : List D) : Sto → Bool := fun S => decide (S[l]? = some (.lst xs))
def IR (cl : Cl) (K : PySem.W.Frag) (m0 : List Addr) (H0 : Hp) (it : ItD) (J : It) : Prop :=
  ∀ (i : Nat) m S H, Ext m0 m → Keep H0 H → RS cl K m S H → it.chk S = true →
    (i = it.items.length → J.stop i H) ∧ ∀ d, it.items[i]? = some d → J.go i H ∧ ∀ x H', J.yld i H x H' → Keep H H' ∧ RS cl K m S H' ∧ RV K m H' d x
def DI (cl : Cl) (X : Cx) (E : XK) (tg iter : Expr) (f : Sl → Sto → Res ItD) : Prop :=
  ∃ wi, PI X tg iter wi ∧ ∀ m S H sd σ R, RS cl X.K m S H → RSl X.K m H sd σ → Post cl X.K (IR cl X.K) m H E R (f sd S) → wi σ H R
def signsD (z : Str) : List D := z.cps.toList.map fun c => D.str ⟨#[c]⟩
def itemsD (d : D) (S : Sto) : Option ItD := match d with
  | .tup ds => some ⟨ds, yes⟩
  | .frl ds => some ⟨ds, yes⟩
  | .str z => some ⟨signsD z, yes⟩
  | .ref l => match S[l]? with
    | some (.lst ds) => some ⟨ds, chkL l ds⟩
    | _ => none
  | _ => none
def iVal (f : Sl → Sto → Res D) : Sl → Sto → Res ItD := fun sd S => (f sd S).bind fun d S1 => match itemsD d S1 with
  | some it => .ok it S1
  | none => .stuck
section
variable {cl : Cl} {X : Cx} {E : XK} {tg e e2 : Expr} {fa fb : Sl → Sto → Res D}
theorem chkL_eq {l : Nat} {xs : List D} {S : Sto} (h : chkL l xs S = true) : S[l]? = some (.lst xs) := of_decide_eq_true h
theorem rvs_signs {K : PySem.W.Frag} {m : List Addr} {H : Hp} (z : Str) : RVs K m H (signsD z) (signs z) := by
  unfold signsD signs
  induction z.cps.toList with
  | nil => exact rfl
  | cons c cs ih => exact ⟨_, _, rfl, rfl, ih⟩
theorem items_src {K : PySem.W.Frag} {m : List Addr} {S : Sto} {H : Hp} {d : D} {v : V} {it : ItD} (rs : RS cl K m S H) (rv : RV K m H d v) (h : itemsD d S = some it) :
    it.chk S = true ∧ ∃ (k : Sk), v = k.v ∧ ∀ m' S' H', Ext m m' → Keep H H' → RS cl K m' S' H' → it.chk S' = true → ∃ xs, k.Rd K H' xs ∧ RVs K m' H' it.items xs := by
  unfold itemsD at h
  split at h
  · rename_i ds
    cases h
    obtain ⟨a, vs, rfl, s1, r1⟩ := rv
    exact ⟨rfl, .t a, rfl, fun m' S' H' x k _ _ => ⟨vs, sqT_keep k s1, r1.mono x k⟩⟩
  · rename_i ds
    cases h
    obtain ⟨a, vs, rfl, s1, r1⟩ := rv
    exact ⟨rfl, .l a, rfl, fun m' S' H' x k _ _ => ⟨vs, (s1.keep k).sq, r1.mono x k⟩⟩
  · rename_i z
    cases h; cases rv
    exact ⟨rfl, .s z, rfl, fun m' S' H' x k _ _ => ⟨_, rfl, rvs_signs z⟩⟩
  · rename_i l
    split at h
    · rename_i ds e1
      cases h
      obtain ⟨a, h1, rfl⟩ := rv
      refine ⟨decide_eq_true e1, .l a, rfl, fun m' S' H' x k rs' hc => ?_⟩
      obtain ⟨a', h2, vs, hv, r1⟩ := rs'.adr (chkL_eq hc)
      rw [x l a h1] at h2; cases h2
      exact ⟨vs, SqL.of hv, r1⟩
    · cases h
  · cases h
def itS (K : PySem.W.Frag) : Sk → It
  | .l a => Itl K a
  | .t a => Itt K a
  | .s z => Its z
def iSrc (K : PySem.W.Frag) (te : TE) : TI := fun σ H R => te σ H fun v H1 => ∃ (k : Sk) (xs : List V), v = k.v ∧ k.Rd K H1 xs ∧ R (itS K k) H1
theorem pi_src {l : Expr} {tl : TE} (hl : PE X l tl) : PI X tg l (iSrc X.K tl) := by
  refine ⟨fun pins s σ H R I h => ?_⟩
  refine thn (hl.run pins s σ H _ I h) fun v s1 ⟨y, H1, I1, r1, q1⟩ => ?_
  obtain ⟨k, xs, e, hq, q⟩ := q1
  subst e
  cases k with
  | l a =>
    cases r1
    obtain ⟨its, rv, p, hz⟩ := I1.list hq
    refine wpAny_pyIter_list p.isList ?_
    refine ⟨s1.heap.objs.size, [s1.heap.objs.size], _, _, H1, rfl, I1.kept (t' := s1.toks) fun b o e => Heap.get?_push_of_some _ e, turn_list a _, ⟨_, Heap.get?_push_size _ rfl, rfl, rfl⟩, fun b hb => ?_, q⟩
    have e : b = s1.heap.objs.size := by simpa using hb
    subst e
    exact I1.fpOk (Nat.le_refl _) (I1.hok.fresh (Nat.le_refl _))
  | t a =>
    cases r1
    obtain ⟨its, rv, p, hz⟩ := I1.tuple hq
    refine wpAny_pyIter_tuple (show s1.heap.IsTuple a its.toArray from p) ?_
    refine ⟨s1.heap.objs.size, [s1.heap.objs.size], _, _, H1, rfl, I1.kept (t' := s1.toks) fun b o e => Heap.get?_push_of_some _ e, turn_tuple a _, ⟨_, Heap.get?_push_size _ rfl, rfl, rfl⟩, fun b hb => ?_, q⟩
    have e : b = s1.heap.objs.size := by simpa using hb
    subst e
    exact I1.fpOk (Nat.le_refl _) (I1.hok.fresh (Nat.le_refl _))
  | s x =>
    obtain ⟨t, rfl⟩ := r1
    cases ha : x.cps.all (· < 128)
    · exact wpAny_pyIter_wide ha (pi_one (tk := s1.toks) I1 _ (turn_str _ x t "str_iterator" (.inr rfl)) ⟨_, Heap.get?_push_size _ rfl, rfl, rfl⟩ q)
    · exact wpAny_pyIter_ascii ha (pi_one (tk := s1.toks) I1 _ (turn_str _ x t "str_ascii_iterator" (.inl rfl)) ⟨_, Heap.get?_push_size _ rfl, rfl, rfl⟩ q)
theorem ir_src {K : PySem.W.Frag} {m : List Addr} {H : Hp} {it : ItD} {k : Sk} (src : ∀ m' S' H', Ext m m' → Keep H H' → RS cl K m' S' H' → it.chk S' = true → ∃ xs, k.Rd K H' xs ∧ RVs K m' H' it.items xs) : IR cl K m H it (itS K k) := by
  intro i m' S' H' x kp rs' hc'
  obtain ⟨ys, hr', hv'⟩ := src m' S' H' x kp rs' hc'
  cases k with
  | l a =>
    refine ⟨fun e => ⟨ys, hr', by rw [← hv'.length, e]; exact Nat.le_refl _⟩, fun d' hd => ?_⟩
    obtain ⟨w, hw, rw'⟩ := hv'.get hd
    exact ⟨⟨ys, w, hr', hw⟩, fun y H2 ⟨e, hy⟩ => by subst e; have := hy ys hr'; rw [hw] at this; cases this; exact ⟨Keep.refl _, rs', rw'⟩⟩
  | t a =>
    refine ⟨fun e => ⟨ys, hr', by rw [← hv'.length, e]; exact Nat.le_refl _⟩, fun d' hd => ?_⟩
    obtain ⟨w, hw, rw'⟩ := hv'.get hd
    exact ⟨⟨ys, w, hr', hw⟩, fun y H2 ⟨e, hy⟩ => by subst e; have := hy ys hr'; rw [hw] at this; cases this; exact ⟨Keep.refl _, rs', rw'⟩⟩
  | s z =>
    have hys : ys = signs z := hr'
    have hlen : it.items.length = z.cps.size := by rw [hv'.length, hys]; simp [signs]
    refine ⟨fun e => by show z.cps.size ≤ i; omega, fun d' hd => ?_⟩
    have hi : i < z.cps.size := by rw [← hlen]; exact (List.getElem?_eq_some_iff.mp hd).1
    refine ⟨hi, fun y H2 ⟨e, c, hc1, hc2⟩ => ?_⟩
    subst e
    obtain ⟨w, hw, rw'⟩ := hv'.get hd
    refine ⟨Keep.refl _, rs', ?_⟩
    rw [hys] at hw
    unfold signs at hw
    rw [List.getElem?_map, Array.getElem?_toList, hc1] at hw
    cases hw
    rw [hc2]; exact rw'
theorem di_val (he : DE cl X E e fa) : DI cl X E tg e (iVal fa) := by
  obtain ⟨t, p, he⟩ := he
  refine ⟨_, pi_src p, fun m S H sd σ R rs rl h => ?_⟩
  refine he m S H sd σ _ rs rl (Post.bind h fun d S1 m1 v H1 x1 k1 rs1 rv h1 => ?_)
  split at h1
  · rename_i it e1
    obtain ⟨hc, k, rfl, src⟩ := items_src rs1 rv e1
    obtain ⟨xs, hr, hv⟩ := src m1 S1 H1 (Ext.refl _) (Keep.refl _) rs1 hc
    exact ⟨k, xs, rfl, hr, h1.here rs1 (ir_src src)⟩
  · exact h1.elim
def enumL : Nat → List D → List D
  | _, [] => []
  | n, d :: ds => .tup [.int (n : Nat), d] :: enumL (n + 1) ds
theorem enumL_len : ∀ (n : Nat) (ds : List D), (enumL n ds).length = ds.length
  | _, [] => rfl
  | n, d :: ds => by simp [enumL, enumL_len (n + 1) ds]
theorem enumL_get : ∀ (n : Nat) (ds : List D) (i : Nat), (enumL n ds)[i]? = (ds[i]?).map fun d => D.tup [.int ((n + i : Nat) : Int), d]
  | _, [], i => by simp [enumL]
  | n, d :: ds, 0 => by simp [enumL]
  | n, d :: ds, i + 1 => by
    simp only [enumL, List.getElem?_cons_succ]
    rw [enumL_get (n + 1) ds i, show n + 1 + i = n + (i + 1) by omega]
def iEnumD (f : Sl → Sto → Res D) : Sl → Sto → Res ItD := fun sd S => (f sd S).bind fun d S1 => match itemsD d S1 with
  | some it => .ok ⟨enumL 0 it.items, it.chk⟩ S1
  | none => .stuck
theorem di_enum {p pos tpos : Pos} {elts : List Expr} {kk : Nat} (hg : Gl X "enumerate") (hm : X.mg "enumerate" = none) (he : DE cl X E e fa) (hs : starEach [e] X.env = [(false, eval e X.env)] := by rfl) :
    DI cl X E (.Tuple elts kk tpos) (.Call (.Name "enumerate" p) [e] [] pos) (iEnumD fa) := by
  obtain ⟨t, q, he⟩ := he
  refine ⟨_, pi_enumS hg hm (pa_cons q pa_nil hs) hs, fun m S H sd σ R rs rl h => ?_⟩
  refine he m S H sd σ _ rs rl (Post.bind h fun d S1 m1 v H1 x1 k1 rs1 rv h1 => ?_)
  split at h1
  · rename_i it e1
    obtain ⟨hc, k, rfl, src⟩ := items_src rs1 rv e1
    obtain ⟨xs, hr, hv⟩ := src m1 S1 H1 (Ext.refl _) (Keep.refl _) rs1 hc
    refine ⟨k, xs, rfl, hr, h1.here rs1 ?_⟩
    intro i m' S' H' x kp rs' hc'
    obtain ⟨ys, hr', hv'⟩ := src m' S' H' x kp rs' hc'
    refine ⟨fun e => ⟨ys, hr', by rw [← hv'.length, e, enumL_len]⟩, fun d' hd => ?_⟩
    have hd1 : (enumL 0 it.items)[i]? = some d' := hd
    rw [enumL_get] at hd1
    obtain ⟨d0, e0, rfl⟩ := Option.map_eq_some_iff.mp hd1
    obtain ⟨w, hw, rw'⟩ := hv'.get e0
    refine ⟨⟨ys, w, hr', hw⟩, ?_⟩
    rintro y H2 ⟨T, w', rfl, hT, rfl, hy⟩
    have := hy ys hr'
    rw [hw] at this; cases this
    have nt := newTup rs' (ds := [.int ((0 + i : Nat) : Int), d0]) (vs := [.int (i : Nat), w]) ⟨_, _, rfl, by show V.int _ = V.int _; rw [Nat.zero_add], _, _, rfl, rw', rfl⟩ hT
    exact ⟨Keep.new hT, nt.1, nt.2⟩
  · exact h1.elim
def zipL : List D → List D → List D
  | a :: as, b :: bs => .tup [a, b] :: zipL as bs
  | _, _ => []
def iZipD (f g : Sl → Sto → Res D) : Sl → Sto → Res ItD := fun sd S => (f sd S).bind fun d S1 => (g sd S1).bind fun e S2 => match itemsD d S2, itemsD e S2 with
  | some it, some jt => .ok ⟨zipL it.items jt.items, fun S => it.chk S && jt.chk S⟩ S2
  | _, _ => .stuck
def rangeL (lo : Int) (n : Nat) : List D := (List.range n).map fun i => D.int (lo + (i : Nat))
theorem rangeL_len (lo : Int) (n : Nat) : (rangeL lo n).length = n := by simp [rangeL]
theorem ir_range {K : PySem.W.Frag} {m : List Addr} {H : Hp} (lo : Int) (n : Nat) : IR cl K m H ⟨rangeL lo n, yes⟩ (Itr lo n) := by
  intro i m' S' H' x kp rs' hc'
  refine ⟨fun e => by show n ≤ i; rw [e]; exact Nat.le_of_eq (rangeL_len lo n).symm, fun d hd => ?_⟩
  have hd1 : (rangeL lo n)[i]? = some d := hd
  have hi : i < n := by have := (List.getElem?_eq_some_iff.mp hd1).1; rw [rangeL_len] at this; exact this
  refine ⟨hi, fun y H2 ⟨e1, e2⟩ => ?_⟩
  subst e1 e2
  refine ⟨Keep.refl _, rs', ?_⟩
  unfold rangeL at hd1
  rw [List.getElem?_map, List.getElem?_range hi] at hd1
  cases hd1
  exact rfl
noncomputable def iRngD1 (f : Sl → Sto → Res D) : Sl → Sto → Res ItD := fun sd S => (f sd S).bind fun d S1 => match d with
  | .int j => if bnd 62 j = true then .ok ⟨rangeL 0 j.toNat, yes⟩ S1 else .stuck
  | _ => .stuck
noncomputable def iRngD2 (f g : Sl → Sto → Res D) : Sl → Sto → Res ItD := fun sd S => (f sd S).bind fun d S1 => (g sd S1).bind fun e S2 => match d, e with
  | .int i, .int j => if bnd 62 i = true ∧ bnd 62 j = true then .ok ⟨rangeL i (j - i).toNat, yes⟩ S2 else .stuck
  | _, _ => .stuck
theorem di_range1 {p pos : Pos} (hg : Gl X "range") (hm : X.mg "range" = none) (he : DE cl X E e fa) (hs : starEach [e] X.env = [(false, eval e X.env)] := by rfl) : DI cl X E tg (.Call (.Name "range" p) [e] [] pos) (iRngD1 fa) := by
  obtain ⟨t, q, he⟩ := he
  refine ⟨_, pi_range1 hg hm (pa_cons q pa_nil hs) hs, fun m S H sd σ R rs rl h => ?_⟩
  refine he m S H sd σ _ rs rl (Post.bind h fun d S1 m1 v H1 x1 k1 rs1 rv h1 => ?_)
  cases d with
  | int j =>
    cases rv
    dsimp only at h1
    split at h1
    · rename_i hz
      exact ⟨j, rfl, (bnd_ok hz).1, (bnd_ok hz).2, h1.here rs1 (ir_range 0 j.toNat)⟩
    · exact h1.elim
  | _ => exact h1.elim
def loopD (chk : Sto → Bool) (ga : D → Sl → Sto → Res Sl) (fb : Sl → Sto → Res Fl) : List D → Sl → Sto → Res Fl
  | [], sd, S => if chk S then .ok (.nx sd) S else .stuck
  | x :: xs, sd, S => if chk S then (ga x sd S).bind fun sd1 S1 => (fb sd1 S1).bind fun fl S2 => match fl with
      | .nx sd2 => loopD chk ga fb xs sd2 S2
      | .cnt sd2 => loopD chk ga fb xs sd2 S2
      | .brk sd2 => .ok (.nx sd2) S2
      | .ret d => .ok (.ret d) S2
    else .stuck
def sFor (fi : Sl → Sto → Res ItD) (ga : D → Sl → Sto → Res Sl) (fb : Sl → Sto → Res Fl) : Sl → Sto → Res Fl := fun sd S => (fi sd S).bind fun it S1 => loopD it.chk ga fb it.items sd S1
theorem ds_for {body : List Stmt} {fi : Sl → Sto → Res ItD} {ga : D → Sl → Sto → Res Sl} {fb : Sl → Sto → Res Fl} {pos : Pos} (hp : PassesOwn (model X.prog X.w) X.A X.env X.xe) (hc : X.calm = true) (hi : DI cl X E tg e fi) (hg : DG cl X E tg ga) (hb : DSs cl X E body fb) (hs : ∀ x, foldedSetIterable e X.env x = pure x := by intro _; rfl) :
    DS cl X E (.For tg e body [] pos) (sFor fi ga fb) := by
  obtain ⟨wi, pi, hi⟩ := hi
  obtain ⟨g, pg, hg⟩ := hg
  obtain ⟨tb, pb, hb⟩ := hb
  refine ⟨_, ps_for hp hc pi pg pb hs, fun m S H sd σ D rs rl h => ?_⟩
  refine hi m S H sd σ _ rs rl (Post.bind h fun it S1 m1 J H1 x1 k1 rs1 ir h1 => ?_)
  refine ⟨fun i n σ' H' => n + i = it.items.length ∧ ∃ m' S' sd', Ext m1 m' ∧ Keep H1 H' ∧ RS cl X.K m' S' H' ∧ RSl X.K m' H' sd' σ' ∧ Post cl X.K (RFl X.K) m' H' E (endQ D) (loopD it.chk ga fb (it.items.drop i) sd' S'), ⟨it.items.length, rfl, m1, S1, sd, Ext.refl _, Keep.refl _, rs1, rl.mono x1 k1, h1⟩, ?_⟩
  rintro i n σ' H' ⟨hn, m', S', sd', x', k', rs', rl', h'⟩
  by_cases hlt : i < it.items.length
  · have e1 : it.items.drop i = it.items[i] :: it.items.drop (i + 1) := by rw [List.drop_eq_getElem_cons hlt]
    rw [e1] at h'
    unfold loopD at h'
    split at h'
    · rename_i hck
      obtain ⟨go, yl⟩ := (ir i m' S' H' x' k' rs' hck).2 it.items[i] (by simp [hlt])
      refine .inr ⟨go, fun σ3 H3 => ∃ m3 S3 sd3, Ext m1 m3 ∧ Keep H1 H3 ∧ RS cl X.K m3 S3 H3 ∧ RSl X.K m3 H3 sd3 σ3 ∧ Post cl X.K (RFl X.K) m3 H3 E (endQ D) (loopD it.chk ga fb (it.items.drop (i + 1)) sd3 S3), fun σ3 H3 z => ⟨n - 1, by omega, by omega, z⟩, fun x H2 hy => ?_⟩
      obtain ⟨ky, rsy, rvy⟩ := yl x H2 hy
      refine hg m' S' H2 sd' σ' _ x _ rsy (rl'.mono (Ext.refl _) ky) rvy (Post.bind (Post.mono (Ext.refl _) ky h') fun sd1 S3 m3 σ3 H3 x3 k3 rs3 rl3 h3 => ?_)
      refine hb m3 S3 H3 sd1 σ3 _ rs3 rl3 (Post.bind h3 fun fl S4 m4 v H4 x4 k4 rs4 rv4 h4 => ?_)
      cases fl with
      | nx sd4 =>
        cases v with
        | nx σ4 => exact ⟨m4, S4, sd4, (x'.trans x3).trans x4, ((k'.trans ky).trans k3).trans k4, rs4, rv4, h4⟩
        | _ => exact rv4.elim
      | cnt sd4 =>
        cases v with
        | cnt σ4 => exact ⟨m4, S4, sd4, (x'.trans x3).trans x4, ((k'.trans ky).trans k3).trans k4, rs4, rv4, h4⟩
        | _ => exact rv4.elim
      | brk sd4 =>
        cases v with
        | brk σ4 => exact h4.toNx rs4 rv4
        | _ => exact rv4.elim
      | ret d =>
        cases v with
        | ret w => exact h4.toRt rs4 rv4
        | _ => exact rv4.elim
    · exact h'.elim
  · have hi' : i = it.items.length := by omega
    have e1 : it.items.drop i = [] := by rw [hi']; simp
    rw [e1] at h'
    unfold loopD at h'
    split at h'
    · rename_i hck
      exact .inl ⟨(ir i m' S' H' x' k' rs' hck).1 hi', h'.toNx rs' rl'⟩
    · exact h'.elim
end
end DL

namespace DL
open PySem PySem.Spec PyProof.Rows L2
def wipeD (sd : Sl) : List Nat → Sl
  | [] => sd
  | v :: vs => (wipeD sd vs).set v none
theorem wipe_get (σ : L2.St) : ∀ (vs : List Nat) (j : Nat), j < σ.length → (wipe σ vs)[j]? = if j ∈ vs then some none else σ[j]?
  | [], j, h => by simp [wipe]
  | v :: vs, j, h => by
    unfold wipe
    by_cases e : v = j
    · subst e
      rw [List.getElem?_set_self (by rw [wipe_length]; exact h)]
      simp
    · rw [List.getElem?_set_ne e, wipe_get σ vs j h]
      have : (j ∈ v :: vs) ↔ j ∈ vs := by simp [Ne.symm e]
      simp only [this]
theorem wipe_ext {σ τ : L2.St} {vs : List Nat} (hl : σ.length = τ.length) (h : ∀ j, j ∉ vs → σ[j]? = τ[j]?) : wipe σ vs = wipe τ vs := by
  apply List.ext_getElem?
  intro j
  by_cases hj : j < σ.length
  · rw [wipe_get σ vs j hj, wipe_get τ vs j (by omega)]
    by_cases e : j ∈ vs
    · rw [if_pos e, if_pos e]
    · rw [if_neg e, if_neg e]; exact h j e
  · rw [List.getElem?_eq_none (by rw [wipe_length]; omega), List.getElem?_eq_none (by rw [wipe_length]; omega)]
theorem wipe_set {σ : L2.St} {vs : List Nat} {i : Nat} {x : Option V} (h : i ∈ vs) : wipe (σ.set i x) vs = wipe σ vs :=
  wipe_ext (by simp) fun j hj => List.getElem?_set_ne (fun (e : i = j) => hj (by rw [← e]; exact h))
theorem wipe_wipe (σ : L2.St) (vs : List Nat) : wipe (wipe σ vs) vs = wipe σ vs :=
  wipe_ext (by rw [wipe_length]) fun j hj => wipe_out hj
theorem RSl.wipe {K : PySem.W.Frag} {m : List Addr} {H : Hp} {sd : Sl} {σ : L2.St} (r : RSl K m H sd σ) : ∀ vs : List Nat, RSl K m H (wipeD sd vs) (L2.wipe σ vs)
  | [] => r
  | v :: vs => by
    unfold wipeD L2.wipe
    exact (RSl.wipe r vs).unset v
structure Own (g : TG) (vs : List Nat) : Prop where
  mono : ∀ v σ H (Q Q' : L2.St → Hp → Prop), (∀ σ H, Q σ H → Q' σ H) → g v σ H Q → g v σ H Q'
  own : ∀ v σ H (Q : L2.St → Hp → Prop), g v σ H Q → g v σ H fun σ2 H2 => wipe σ2 vs = wipe σ vs ∧ Q σ2 H2
structure Owns (g : TGs) (vs : List Nat) : Prop where
  mono : ∀ v σ H (Q Q' : L2.St → Hp → Prop), (∀ σ H, Q σ H → Q' σ H) → g v σ H Q → g v σ H Q'
  own : ∀ v σ H (Q : L2.St → Hp → Prop), g v σ H Q → g v σ H fun σ2 H2 => wipe σ2 vs = wipe σ vs ∧ Q σ2 H2
def DGw (cl : Cl) (X : Cx) (E : XK) (vs : List Nat) (tg : Expr) (f : D → Sl → Sto → Res Sl) : Prop :=
  ∃ g, PG X tg g ∧ Own g vs ∧ ∀ m S H sd σ d v Q, RS cl X.K m S H → RSl X.K m H sd σ → RV X.K m H d v → Post cl X.K (RSl X.K) m H E Q (f d sd S) → g v σ H Q
section
variable {cl : Cl} {X : Cx} {E : XK} {vs : List Nat} {pos : Pos}
theorem dgw_name {i : Nat} {x : Str} (hv : i ∈ vs) (hN : X.N.Nodup) (hi : X.N[i]? = some x) (hx : Loc X.env.scope x) (hf : X.fn x = true ∨ X.env.scope.names.lookup x = some .local := by first | exact .inl rfl | exact .inr rfl | assumption) : DGw cl X E vs (.Name x pos) (gVar i) :=
  ⟨_, pg_name hN hi hx hf, ⟨fun v σ H Q Q' hq h => hq _ _ h, fun v σ H Q h => ⟨wipe_set hv, h⟩⟩, fun m S H sd σ d v Q rs rl rv h => h.here rs (rl.set i rv)⟩
end
def Res.noExc {α : Type} : Res α → Res α
  | .exc _ _ => .stuck
  | r => r
theorem Post.noExc {cl : Cl} {K : PySem.W.Frag} {α β : Type} {Rv : List Addr → Hp → α → β → Prop} {m : List Addr} {H : Hp} {E : XK} {Q : β → Hp → Prop} {r : Res α} (h : Post cl K Rv m H E Q r.noExc) : Post cl K Rv m H E0 Q r := by
  cases r with
  | ok a S => exact h
  | exc x S => exact h.elim
  | stuck => exact h
theorem Post.bindN {cl : Cl} {K : PySem.W.Frag} {α β γ δ : Type} {Rv : List Addr → Hp → α → β → Prop} {Rw : List Addr → Hp → γ → δ → Prop} {m : List Addr} {H : Hp} {E : XK} {Q : β → Hp → Prop}
    {r : Res α} {k : α → Sto → Res γ} {Q' : δ → Hp → Prop} (h : Post cl K Rw m H E Q' (r.noExc.bind k))
    (hk : ∀ d S1 m1 v H1, Ext m m1 → Keep H H1 → RS cl K m1 S1 H1 → Rv m1 H1 d v → Post cl K Rw m1 H1 E Q' (k d S1) → Q v H1) : Post cl K Rv m H E0 Q r := by
  cases r with
  | ok d S1 => exact fun m1 v H1 x1 k1 rs rv => hk d S1 m1 v H1 x1 k1 rs rv (Post.mono x1 k1 h)
  | exc x S1 => exact h.elim
  | stuck => exact h.elim
def compD (chk : Sto → Bool) (ga : D → Sl → Sto → Res Sl) (ft : Sl → Sto → Res Bool) (fe : Sl → Sto → Res D) (l : Nat) (sd : Sl) : List D → Sto → Res Unit
  | [], S => if chk S then .ok () S else .stuck
  | x :: xs, S => if chk S then (ga x sd S).noExc.bind fun sd1 S1 => (ft sd1 S1).noExc.bind fun b S2 => if b then (fe sd1 S2).noExc.bind fun y S3 => (match S3[l]? with
      | some (.lst acc) => if acc.length < sizeLine then compD chk ga ft fe l sd xs (S3.set l (.lst (acc ++ [y]))) else .stuck
      | _ => .stuck) else compD chk ga ft fe l sd xs S2
    else .stuck
def dComp (vs : List Nat) (fi : Sl → Sto → Res ItD) (ga : D → Sl → Sto → Res Sl) (ft : Sl → Sto → Res Bool) (fe : Sl → Sto → Res D) : Sl → Sto → Res D := fun sd S =>
  (fi sd S).bind fun it S1 => (compD it.chk ga ft fe S1.length (wipeD sd vs) it.items (S1 ++ [.lst []])).bind fun _ S2 => .ok (.ref S1.length) S2
def tYesD : Sl → Sto → Res Bool := fun _ S => .ok true S
def DTs (cl : Cl) (X : Cx) (E : XK) (ifs : List Expr) (f : Sl → Sto → Res Bool) : Prop :=
  ∃ t, PTs X ifs t ∧ ∀ m S H sd σ Q, RS cl X.K m S H → RSl X.K m H sd σ → Post cl X.K RBool m H E Q (f sd S) → t σ H Q
section
variable {cl : Cl} {X : Cx} {E : XK} {e : Expr} {f : Sl → Sto → Res Bool}
theorem dts_nil : DTs cl X E [] tYesD := ⟨_, pts_nil, fun m S H sd σ Q rs rl h => h.here rs rfl⟩
theorem dts_one (h : DT cl X E e f) : DTs cl X E [e] f := by
  obtain ⟨t, p, h⟩ := h
  exact ⟨_, pts_one p, h⟩
end
section
variable {cl : Cl} {X : Cx} {E : XK} {elt tg iter : Expr} {ifs : List Expr} {scope : Scope} {own : List (Str × Nat)} {pos : Pos} {fi : Sl → Sto → Res ItD} {ga : D → Sl → Sto → Res Sl} {ft : Sl → Sto → Res Bool} {fe : Sl → Sto → Res D}
theorem comp_core {wi : TI} {g : TG} {tt : TT} {te : TE} {vs : List Nat} (X' : Cx) (hK : X'.K = X.K)
    (hi : ∀ m S H sd σ R, RS cl X.K m S H → RSl X.K m H sd σ → Post cl X.K (IR cl X.K) m H E R (fi sd S) → wi σ H R)
    (og : Own g vs) (hg : ∀ m S H sd σ d v Q, RS cl X.K m S H → RSl X.K m H sd σ → RV X.K m H d v → Post cl X.K (RSl X.K) m H E0 Q (ga d sd S) → g v σ H Q)
    (ht : ∀ m S H sd σ Q, RS cl X.K m S H → RSl X.K m H sd σ → Post cl X.K RBool m H E0 Q (ft sd S) → tt σ H Q)
    (he : ∀ m S H sd σ Q, RS cl X.K m S H → RSl X.K m H sd σ → Post cl X.K (RV X.K) m H E0 Q (fe sd S) → te σ H Q) :
    ∀ m S H sd σ Q, RS cl X.K m S H → RSl X.K m H sd σ → Post cl X.K (RV X.K) m H E Q (dComp vs fi ga ft fe sd S) → tLc wi g tt te vs σ H Q := by
  intro m S H sd σ Q rs rl h
  refine hi m S H sd σ _ rs rl (Post.bind h fun it S1 m1 J H1 x1 k1 rs1 ir h1 => ?_)
  intro D hD
  obtain ⟨nl1, nl2⟩ := newLst rs1 (ds := []) (vs := []) rfl hD
  obtain ⟨aD, hmD, eD⟩ := nl2
  cases eD
  have x2 := Ext.snoc m1 D
  have k2 : Keep H1 (upd H1 D (.lst [])) := Keep.new hD
  refine ⟨fun i n H' => n + i = it.items.length ∧ ∃ m' S', Ext (m1 ++ [D]) m' ∧ Keep (upd H1 D (.lst [])) H' ∧ RS cl X.K m' S' H' ∧ Post cl X.K (RV X.K) m' H' E Q ((compD it.chk ga ft fe S1.length (wipeD sd vs) (it.items.drop i) S').bind fun _ S2 => .ok (.ref S1.length) S2),
    ⟨it.items.length, rfl, m1 ++ [D], S1 ++ [.lst []], Ext.refl _, Keep.refl _, nl1, by rw [List.drop_zero]; exact Post.mono x2 k2 h1⟩, ?_⟩
  rintro i n H' ⟨hn, m', S', x', k', rs', h'⟩
  have rlw : RSl X.K m' H' (wipeD sd vs) (wipe σ vs) := ((rl.mono x1 k1).wipe vs).mono (x2.trans x') (k2.trans k')
  by_cases hlt : i < it.items.length
  · have e1 : it.items.drop i = it.items[i] :: it.items.drop (i + 1) := by rw [List.drop_eq_getElem_cons hlt]
    rw [e1] at h'
    unfold compD at h'
    split at h'
    · rename_i hck
      obtain ⟨go, yl⟩ := (ir i m' S' H' (x2.trans x') (k2.trans k') rs' hck).2 it.items[i] (by simp [hlt])
      refine .inr ⟨go, fun H3 => ∃ m3 S3, Ext (m1 ++ [D]) m3 ∧ Keep (upd H1 D (.lst [])) H3 ∧ RS cl X.K m3 S3 H3 ∧ Post cl X.K (RV X.K) m3 H3 E Q ((compD it.chk ga ft fe S1.length (wipeD sd vs) (it.items.drop (i + 1)) S3).bind fun _ S2 => .ok (.ref S1.length) S2), fun H3 z => ⟨n - 1, by omega, by omega, z⟩, fun x H2 hy => ?_⟩
      obtain ⟨ky, rsy, rvy⟩ := yl x H2 hy
      rw [bind_assoc] at h'
      refine og.mono _ _ _ _ _ (fun σ2 H2' z => ⟨z.1.trans (wipe_wipe σ vs), z.2⟩) (og.own _ _ _ _ (hg m' S' H2 (wipeD sd vs) (wipe σ vs) _ x _ rsy (rlw.mono (Ext.refl _) ky) rvy (Post.bindN (Post.mono (Ext.refl _) ky h') fun sd1 S3 m3 σ3 H3 x3 k3 rs3 rl3 h3 => ?_)))
      rw [bind_assoc] at h3
      refine ht m3 S3 H3 sd1 σ3 _ rs3 rl3 (Post.bindN h3 fun b S4 m4 vb H4 x4 k4 rs4 rb h4 => ?_)
      cases rb
      cases b with
      | false => exact iteF ⟨m4, S4, (x'.trans x3).trans x4, ((k'.trans ky).trans k3).trans k4, rs4, h4⟩
      | true =>
        refine iteT ?_
        have h4' : Post cl X.K (RV X.K) m4 H4 E Q (((fe sd1 S4).noExc.bind fun y S3 => (match S3[S1.length]? with
            | some (.lst acc) => if acc.length < sizeLine then compD it.chk ga ft fe S1.length (wipeD sd vs) (it.items.drop (i + 1)) (S3.set S1.length (.lst (acc ++ [y]))) else .stuck
            | _ => .stuck)).bind fun _ S2 => .ok (.ref S1.length) S2) := h4
        rw [bind_assoc] at h4'
        refine he m4 S4 H4 sd1 σ3 _ rs4 (rl3.mono x4 k4) (Post.bindN h4' fun y S5 m5 vy H5 x5 k5 rs5 ry h5 => ?_)
        split at h5
        · rename_i acc ea
          split at h5
          · rename_i hz
            obtain ⟨a, ha, ws, hw, rw'⟩ := rs5.adr ea
            have xx : Ext (m1 ++ [D]) m5 := ((x'.trans x3).trans x4).trans x5
            rw [xx _ _ hmD] at ha; cases ha
            have hk5 := rs5.keepPut (u := .lst (ws ++ [vy])) ea (xx _ _ hmD)
            refine ⟨ws, hw, by rw [← rw'.length]; exact hz, m5, List.set S5 S1.length (.lst (acc ++ [y])), xx, (((k'.trans ky).trans k3).trans k4).trans (k5.trans hk5), rs5.put ea (xx _ _ hmD) ⟨_, upd_same, (rw'.snoc ry).mono (Ext.refl _) hk5⟩, Post.mono (Ext.refl _) hk5 h5⟩
          · exact h5.elim
        · exact h5.elim
    · exact h'.elim
  · have hi' : i = it.items.length := by omega
    have e1 : it.items.drop i = [] := by rw [hi']; simp
    rw [e1] at h'
    unfold compD at h'
    split at h'
    · rename_i hck
      exact .inl ⟨(ir i m' S' H' (x2.trans x') (k2.trans k') rs' hck).1 hi', h' m' (.ref D) H' (Ext.refl _) (Keep.refl _) rs' ⟨D, x' _ _ hmD, rfl⟩⟩
    · exact h'.elim
theorem de_comp (hc : X.calm = true) (hN : X.N.Nodup) (hi : DI cl X E tg iter fi) (ok : BlkOk X.N X.env.scope scope own)
    (hg : ∀ (s : Shared) (H : Hp) (C : Addr) (c : List (Str × Addr)) (fp : List Addr), DGw cl (X.blk s H scope (compEnvC scope c C X.env) fp) E0 (own.map (·.2)) tg ga)
    (ht : ∀ (s : Shared) (H : Hp) (C : Addr) (c : List (Str × Addr)) (fp : List Addr), DTs cl (X.blk s H scope (compEnvC scope c C X.env) fp) E0 ifs ft)
    (he : ∀ (s : Shared) (H : Hp) (C : Addr) (c : List (Str × Addr)) (fp : List Addr), DE cl (X.blk s H scope (compEnvC scope c C X.env) fp) E0 elt fe)
    (hs : ∀ x, foldedSetIterable iter X.env x = pure x := by intro _; rfl) :
    DE cl X E (.ListComp elt [⟨tg, iter, ifs, 0⟩] scope pos) (dComp (own.map (·.2)) fi ga ft fe) := by
  obtain ⟨wi, pi, hi⟩ := hi
  -- one reading for all blocks: every reading that the block's rules allow
  refine ⟨tLc wi (fun v σ H Q => ∃ m S sd d, RS cl X.K m S H ∧ RSl X.K m H sd σ ∧ RV X.K m H d v ∧ Post cl X.K (RSl X.K) m H E0 (fun σ2 H2 => wipe σ2 (own.map (·.2)) = wipe σ (own.map (·.2)) → Q σ2 H2) (ga d sd S))
      (fun σ H Q => ∃ m S sd, RS cl X.K m S H ∧ RSl X.K m H sd σ ∧ Post cl X.K RBool m H E0 Q (ft sd S))
      (fun σ H Q => ∃ m S sd, RS cl X.K m S H ∧ RSl X.K m H sd σ ∧ Post cl X.K (RV X.K) m H E0 Q (fe sd S)) (own.map (·.2)), pe_lc hc hN pi ok (fun s H C c fp => ?_) (fun s H C c fp => ?_) (fun s H C c fp => ?_) hs, ?_⟩
  · obtain ⟨g, pg, og, hg⟩ := hg s H C c fp
    exact ⟨fun pins s σ H v u Q I r ⟨m, S, sd, d, rs, rl, rv, h⟩ => pg.run pins s σ H v u Q I r (og.mono _ _ _ _ _ (fun σ2 H2 z => z.2 z.1) (og.own _ _ _ _ (hg m S H sd σ d v _ rs rl rv h)))⟩
  · obtain ⟨t, p, ht⟩ := ht s H C c fp
    exact ⟨fun pins s σ H Q I ⟨m, S, sd, rs, rl, h⟩ => p.run pins s σ H Q I (ht m S H sd σ Q rs rl h)⟩
  · obtain ⟨t, p, he⟩ := he s H C c fp
    exact ⟨fun pins s σ H Q I ⟨m, S, sd, rs, rl, h⟩ => p.run pins s σ H Q I (he m S H sd σ Q rs rl h)⟩
  · refine comp_core X rfl hi ⟨fun v σ H Q Q' hq ⟨m, S, sd, d, rs, rl, rv, h⟩ => ⟨m, S, sd, d, rs, rl, rv, h.imp fun σ2 H2 z w => hq _ _ (z w)⟩, fun v σ H Q ⟨m, S, sd, d, rs, rl, rv, h⟩ => ⟨m, S, sd, d, rs, rl, rv, h.imp fun σ2 H2 z w => ⟨w, z w⟩⟩⟩
      (fun m S H sd σ d v Q rs rl rv h => ⟨m, S, sd, d, rs, rl, rv, Post.imp (Q' := fun σ2 H2 => wipe σ2 (own.map (·.2)) = wipe σ (own.map (·.2)) → Q σ2 H2) (fun σ2 H2 z _ => z) h⟩) (fun m S H sd σ Q rs rl h => ⟨m, S, sd, rs, rl, h⟩) (fun m S H sd σ Q rs rl h => ⟨m, S, sd, rs, rl, h⟩)
end
end DL

namespace DL
open PySem PySem.Spec PyProof.Rows L2
def ixD : D → D → Sto → Res D
  | .tup ds, .int i, S => match atI ds i with
    | some d => .ok d S
    | none => .stuck
  | .frl ds, .int i, S => match atI ds i with
    | some d => .ok d S
    | none => .stuck
  | .str z, .int i, S => if z.length ≤ sizeLine then match atI z.cps.toList i with
      | some c => .ok (.str ⟨#[c]⟩) S
      | none => .stuck
    else .stuck
  | .ref l, .int i, S => match S[l]? with
    | some (.lst ds) => match atI ds i with
      | some d => .ok d S
      | none => .stuck
    | _ => .stuck
  | _, _, _ => .stuck
section
variable {cl : Cl} {X : Cx} {E : XK} {a b : Expr} {fa fb : Sl → Sto → Res D} {pos : Pos}
theorem atI_rv {K : PySem.W.Frag} {m : List Addr} {H : Hp} {ds : List D} {vs : List V} {i : Int} {d : D} (r : RVs K m H ds vs) (h : atI ds i = some d) : ∃ v, atI vs i = some v ∧ RV K m H d v := by
  unfold atI at h ⊢
  rw [← r.length]
  cases e : ixN ds.length i with
  | none => rw [e] at h; cases h
  | some j =>
    rw [e] at h
    exact r.get h
theorem ix_seqD {m : List Addr} {S : Sto} {H : Hp} {x y : D} {vx vy : V} {Q : VK} {E : XK} (rs : RS cl X.K m S H) (rx : RV X.K m H x vx) (ry : RV X.K m H y vy) (h : Post cl X.K (RV X.K) m H E Q (ixD x y S)) : rIx X.K vx vy H Q := by
  unfold ixD at h
  split at h
  · cases ry
    obtain ⟨a, vs, rfl, s1, r1⟩ := rx
    split at h
    · rename_i d e
      obtain ⟨v, e1, rv⟩ := atI_rv r1 e
      exact .inr (.inl ⟨a, vs, _, v, rfl, rfl, s1, e1, h.here rs rv⟩)
    · exact h.elim
  · cases ry
    obtain ⟨a, vs, rfl, s1, r1⟩ := rx
    split at h
    · rename_i d e
      obtain ⟨v, e1, rv⟩ := atI_rv r1 e
      exact .inl ⟨a, vs, _, v, rfl, rfl, s1.sq, e1, h.here rs rv⟩
    · exact h.elim
  · cases ry; cases rx
    split at h
    · rename_i hz
      split at h
      · rename_i c e
        exact .inr (.inr ⟨_, _, c, rfl, rfl, hz, e, h.here rs rfl⟩)
      · exact h.elim
    · exact h.elim
  · cases ry
    split at h
    · rename_i ds e1
      obtain ⟨a, h1, vs, hv, r1⟩ := rs.adr e1
      obtain ⟨a', h2, rfl⟩ := rx
      rw [h1] at h2; cases h2
      split at h
      · rename_i d e
        obtain ⟨v, e1, rv⟩ := atI_rv r1 e
        exact .inl ⟨a, vs, _, v, rfl, rfl, SqL.of hv, e1, h.here rs rv⟩
      · exact h.elim
    · exact h.elim
  · exact h.elim
theorem zi (ha : DE cl X E a fa) (hb : DE cl X E b fb) (hs : PlainIx b := by intro _ _; rfl) : DE cl X E (.Subscript a b pos) (d2 ixD fa fb) := by
  obtain ⟨t, p, ha⟩ := ha
  obtain ⟨u, q, hb⟩ := hb
  refine ⟨_, pe_ix ix_seq p q hs, fun m S H sd σ Q rs rl h => ?_⟩
  refine ha m S H sd σ _ rs rl (Post.bind h fun x S1 m1 vx H1 x1 k1 rs1 rx h1 => ?_)
  refine hb m1 S1 H1 sd σ _ rs1 (rl.mono x1 k1) (Post.bind h1 fun y S2 m2 vy H2 x2 k2 rs2 ry h2 => ?_)
  exact ix_seqD rs2 (RV.mono x2 k2 x rx) ry h2
def setD (o i v : D) (S : Sto) : Res Unit := match o, i with
  | .ref l, .int k => match S[l]? with
    | some (.lst ds) => match ixN ds.length k with
      | some j => .ok () (S.set l (.lst (ds.set j v)))
      | none => .stuck
    | _ => .stuck
  | _, _ => .stuck
def gSubD (set : D → D → D → Sto → Res Unit) (fo fi : Sl → Sto → Res D) : D → Sl → Sto → Res Sl := fun v sd S => (fo sd S).bind fun o S1 => (fi sd S1).bind fun i S2 => (set o i v S2).bind fun _ S3 => .ok sd S3
def SetD (cl : Cl) (X : Cx) (g : D → D → D → Sto → Res Unit) : Prop :=
  ∃ t, PSet X t ∧ ∀ (E : XK) m S H o i v vo vi vv (Q : Hp → Prop), RS cl X.K m S H → RV X.K m H o vo → RV X.K m H i vi → RV X.K m H v vv → Post cl X.K (fun _ _ (_ _ : Unit) => True) m H E (fun _ H => Q H) (g o i v S) → t vo vi vv H Q
theorem set_lstD : SetD cl X setD := by
  refine ⟨_, set_list, fun E m S H o i v vo vi vv Q rs ro ri rv h => ?_⟩
  unfold setD at h
  split at h
  · rename_i l k
    cases ri
    split at h
    · rename_i ds e1
      obtain ⟨a, h1, vs, hv, r1⟩ := rs.adr e1
      obtain ⟨a', h2, rfl⟩ := ro
      rw [h1] at h2; cases h2
      split at h
      · rename_i j ej
        have kp := rs.keepPut (u := .lst (vs.set j vv)) e1 h1
        exact ⟨a, vs, k, j, rfl, rfl, hv, by rw [← r1.length]; exact ej, h m () _ (Ext.refl _) kp (rs.put e1 h1 ⟨_, upd_same, (r1.set rv j).mono (Ext.refl _) kp⟩) trivial⟩
      · exact h.elim
    · exact h.elim
  · exact h.elim
theorem dg_sub {o i : Expr} {fo fi set} (ho : DE cl X E o fo) (hi : DE cl X E i fi) (hs : SetD cl X set)
    (ha : ∀ v, assign (.Subscript o i pos) X.env v = (do
      let ov ← holding [v] (eval o X.env)
      let iv ← holding [v, ov] (eval i X.env)
      standAt pos
      holding [v, ov, iv] (setItem ov iv v)
      release [v, ov, iv] []) := by intro _; rfl) : DG cl X E (.Subscript o i pos) (gSubD set fo fi) := by
  obtain ⟨t, p, ho⟩ := ho
  obtain ⟨u, q, hi⟩ := hi
  obtain ⟨w, ps, hs⟩ := hs
  refine ⟨_, pg_sub p q ps ha, fun m S H sd σ d v Q rs rl rv h => ?_⟩
  refine ho m S H sd σ _ rs rl (Post.bind h fun x S1 m1 vx H1 x1 k1 rs1 rx h1 => ?_)
  refine hi m1 S1 H1 sd σ _ rs1 (rl.mono x1 k1) (Post.bind h1 fun y S2 m2 vy H2 x2 k2 rs2 ry h2 => ?_)
  refine hs E m2 S2 H2 x y d vx vy v _ rs2 (RV.mono x2 k2 x rx) ry (RV.mono (x1.trans x2) (k1.trans k2) d rv) (Post.bind h2 fun _ S3 m3 _ H3 x3 k3 rs3 _ h3 => ?_)
  exact h3.here rs3 (rl.mono ((x1.trans x2).trans x3) ((k1.trans k2).trans k3))
def cutL (ds : List D) (lo hi : Option Int) : List D := (ds.drop (HT.sIx ds.length 0 lo)).take (HT.sIx ds.length ds.length hi - HT.sIx ds.length 0 lo)
def sliceD (x : D) (lo hi : Option Int) (S : Sto) : Res D := match x with
  | .tup ds => .ok (.tup (cutL ds lo hi)) S
  | .frl ds => .ok (.ref S.length) (S ++ [.lst (cutL ds lo hi)])
  | .str z => if z.length ≤ sizeLine then .ok (.str (cutS z lo hi)) S else .stuck
  | .ref l => match S[l]? with
    | some (.lst ds) => .ok (.ref S.length) (S ++ [.lst (cutL ds lo hi)])
    | _ => .stuck
  | _ => .stuck
def DPO (cl : Cl) (X : Cx) (E : XK) (e : Option Expr) (f : Sl → Sto → Res (Option Int)) : Prop :=
  ∃ t, PO X e t ∧ ∀ m S H sd σ Q, RS cl X.K m S H → RSl X.K m H sd σ → Post cl X.K (fun _ _ (a b : Option Int) => a = b) m H E Q (f sd S) → t σ H Q
def oNone : Sl → Sto → Res (Option Int) := fun _ S => .ok none S
def oSome (f : Sl → Sto → Res D) : Sl → Sto → Res (Option Int) := fun sd S => (f sd S).bind fun d S1 => match d with
  | .int i => .ok (some i) S1
  | _ => .stuck
theorem dpo_none : DPO cl X E none oNone := ⟨_, po_none, fun m S H sd σ Q rs rl h => h.here rs rfl⟩
theorem dpo_some (ha : DE cl X E a fa) : DPO cl X E (some a) (oSome fa) := by
  obtain ⟨t, p, ha⟩ := ha
  refine ⟨_, po_some p, fun m S H sd σ Q rs rl h => ?_⟩
  refine ha m S H sd σ _ rs rl (Post.bind h fun x S1 m1 vx H1 x1 k1 rs1 rx h1 => ?_)
  cases x with
  | int i => exact ⟨i, rx, h1.here rs1 rfl⟩
  | _ => exact h1.elim
def dSlice (f : Sl → Sto → Res D) (g h : Sl → Sto → Res (Option Int)) : Sl → Sto → Res D := fun sd S => (f sd S).bind fun x S1 => (g sd S1).bind fun lo S2 => (h sd S2).bind fun hi S3 => sliceD x lo hi S3
theorem cut_rv {K : PySem.W.Frag} {m : List Addr} {H : Hp} {ds : List D} {vs : List V} (r : RVs K m H ds vs) (lo hi : Option Int) : RVs K m H (cutL ds lo hi) (cutV vs lo hi) := by
  unfold cutL cutV
  rw [← r.length]
  exact (r.drop _).take _
theorem sIx_whole {ds : List D} {lo hi : Option Int} (h : HT.sIx ds.length 0 lo = 0 ∧ HT.sIx ds.length ds.length hi = ds.length) : cutL ds lo hi = ds := by
  unfold cutL
  rw [h.1, h.2]
  simp
theorem de_slice {lo hi : Option Expr} {p2 : Pos} {fl fh} (ha : DE cl X E a fa) (hl : DPO cl X E lo fl) (hh : DPO cl X E hi fh) : DE cl X E (.Subscript a (.Slice lo hi none p2) pos) (dSlice fa fl fh) := by
  obtain ⟨t, p, ha⟩ := ha
  obtain ⟨t1, p1, hl⟩ := hl
  obtain ⟨t2, p2', hh⟩ := hh
  refine ⟨_, pe_slice ((sl_list.or sl_tupA).or sl_str) p p1 p2', fun m S H sd σ Q rs rl h => ?_⟩
  refine ha m S H sd σ _ rs rl (Post.bind h fun x S1 m1 vx H1 x1 k1 rs1 rx h1 => ?_)
  refine hl m1 S1 H1 sd σ _ rs1 (rl.mono x1 k1) (Post.bind h1 fun l S2 m2 vl H2 x2 k2 rs2 rll h2 => ?_)
  refine hh m2 S2 H2 sd σ _ rs2 (rl.mono (x1.trans x2) (k1.trans k2)) (Post.bind h2 fun u S3 m3 vu H3 x3 k3 rs3 ru h3 => ?_)
  cases rll; cases ru
  have rx3 := RV.mono (x2.trans x3) (k2.trans k3) x rx
  unfold sliceD at h3
  split at h3
  · obtain ⟨a, vs, rfl, s1, r1⟩ := rx3
    refine .inl (.inr ⟨a, vs, rfl, s1, fun e => ?_, fun e p' hp => ?_⟩)
    · rw [← r1.length] at e
      rw [sIx_whole e] at h3
      exact h3.here rs3 ⟨a, vs, rfl, s1, r1⟩
    · obtain ⟨a1, b1⟩ := newTup rs3 (cut_rv r1 l u) hp
      exact h3 _ _ _ (Ext.refl _) (Keep.new hp) a1 b1
  · obtain ⟨a, vs, rfl, s1, r1⟩ := rx3
    refine .inl (.inl ⟨a, vs, rfl, s1.sq, fun p' hp => ?_⟩)
    obtain ⟨a1, b1⟩ := newLst rs3 (cut_rv r1 l u) hp
    exact h3 _ _ _ (Ext.snoc _ _) (Keep.new hp) a1 b1
  · cases rx3
    split at h3
    · rename_i hz
      exact .inr ⟨_, rfl, hz, h3.here rs3 rfl⟩
    · exact h3.elim
  · split at h3
    · rename_i ds e1
      obtain ⟨a, h1, vs, hv, r1⟩ := rs3.adr e1
      obtain ⟨a', h2, rfl⟩ := rx3
      rw [h1] at h2; cases h2
      refine .inl (.inl ⟨a, vs, rfl, SqL.of hv, fun p' hp => ?_⟩)
      obtain ⟨a1, b1⟩ := newLst rs3 (cut_rv r1 l u) hp
      exact h3 _ _ _ (Ext.snoc _ _) (Keep.new hp) a1 b1
    · exact h3.elim
  · exact h3.elim
def CallD (cl : Cl) (X : Cx) (f : Value) (g : List D → Sto → Res D) : Prop :=
  ∃ r, CallR X f r ∧ ∀ (E : XK) m S H ds vs Q, RS cl X.K m S H → RVs X.K m H ds vs → Post cl X.K (RV X.K) m H E Q (g ds S) → r vs H Q
def dCall (g : List D → Sto → Res D) (f : Sl → Sto → Res (List D)) : Sl → Sto → Res D := fun sd S => (f sd S).bind fun ds S1 => g ds S1
theorem de_callB {x : Str} {p : Pos} {id : String} {e : Expr} {es : List Expr} {g f} (hc : CallD cl X (.builtin id) g) (hg : Gl X x) (hm : X.mg x = none) (hv : bootBuiltins x = some (.builtin id)) (ha : DA cl X E (e :: es) f) (hn : x ≠ "__name__" := by decide) (hdb : (x == ("__debug__" : Str)) = false := by decide)
    (he : starEach (e :: es) X.env = (false, eval e X.env) :: starEach es X.env := by rfl) (hpl : (backTo pos (starEach es X.env)).any (·.1) = false := by rfl) : DE cl X E (.Call (.Name x p) (e :: es) [] pos) (dCall g f) := by
  obtain ⟨r, cr, hr⟩ := hc
  obtain ⟨t, q, ha⟩ := ha
  refine ⟨_, pe_callB cr hg hm hv q hn hdb he hpl, fun m S H sd σ Q rs rl h => ?_⟩
  exact ha m S H sd σ _ rs rl (Post.bind h fun ds S1 m1 vs H1 x1 k1 rs1 rv h1 => hr E m1 S1 H1 ds vs Q rs1 rv h1)
theorem de_callTy {x : Str} {p : Pos} {T : String} {e : Expr} {es : List Expr} {g f} (hc : CallD cl X (.type T) g) (hg : Gl X x) (hm : X.mg x = none) (hv : bootBuiltins x = some (.type T)) (ha : DA cl X E (e :: es) f) (hn : x ≠ "__name__" := by decide) (hdb : (x == ("__debug__" : Str)) = false := by decide)
    (he : starEach (e :: es) X.env = (false, eval e X.env) :: starEach es X.env := by rfl) (hpl : (backTo pos (starEach es X.env)).any (·.1) = false := by rfl) : DE cl X E (.Call (.Name x p) (e :: es) [] pos) (dCall g f) := by
  obtain ⟨r, cr, hr⟩ := hc
  obtain ⟨t, q, ha⟩ := ha
  refine ⟨_, pe_callTy cr hg hm hv q hn hdb he hpl, fun m S H sd σ Q rs rl h => ?_⟩
  exact ha m S H sd σ _ rs rl (Post.bind h fun ds S1 m1 vs H1 x1 k1 rs1 rv h1 => hr E m1 S1 H1 ds vs Q rs1 rv h1)
def lenD : List D → Sto → Res D
  | [.str z], S => if z.length ≤ sizeLine then .ok (.int (z.length : Nat)) S else .stuck
  | [.tup ds], S => .ok (.int (ds.length : Nat)) S
  | [.frl ds], S => .ok (.int (ds.length : Nat)) S
  | [.ref l], S => match S[l]? with
    | some (.lst ds) => .ok (.int (ds.length : Nat)) S
    | _ => .stuck
  | _, _ => .stuck
theorem rvs1 {K : PySem.W.Frag} {m : List Addr} {H : Hp} {d : D} {vs : List V} (r : RVs K m H [d] vs) : ∃ v, vs = [v] ∧ RV K m H d v := by
  obtain ⟨v, vs', rfl, rv, e⟩ := r
  cases e
  exact ⟨v, rfl, rv⟩
theorem rvs2 {K : PySem.W.Frag} {m : List Addr} {H : Hp} {d e : D} {vs : List V} (r : RVs K m H [d, e] vs) : ∃ v w, vs = [v, w] ∧ RV K m H d v ∧ RV K m H e w := by
  obtain ⟨v, vs', rfl, rv, w, vs2, rfl, rw', e⟩ := r
  cases e
  exact ⟨v, w, rfl, rv, rw'⟩
theorem cd_len : CallD cl X (.builtin "len") lenD := by
  refine ⟨_, call_len, fun E m S H ds vs Q rs rv h => ?_⟩
  unfold lenD at h
  split at h
  · obtain ⟨v, rfl, r⟩ := rvs1 rv
    cases r
    split at h
    · rename_i hz
      exact ⟨_, _, rfl, ⟨hz, rfl⟩, h.here rs rfl⟩
    · exact h.elim
  · obtain ⟨v, rfl, a, ws, rfl, s1, r1⟩ := rvs1 rv
    exact ⟨_, _, rfl, .inr ⟨ws, s1, r1.length⟩, h.here rs rfl⟩
  · obtain ⟨v, rfl, a, ws, rfl, s1, r1⟩ := rvs1 rv
    exact ⟨_, _, rfl, .inl ⟨ws, s1.sq, r1.length⟩, h.here rs rfl⟩
  · obtain ⟨v, rfl, r⟩ := rvs1 rv
    split at h
    · rename_i ds e1
      obtain ⟨a, h1, ws, hv, r1⟩ := rs.adr e1
      obtain ⟨a', h2, rfl⟩ := r
      rw [h1] at h2; cases h2
      exact ⟨_, _, rfl, .inl ⟨ws, SqL.of hv, r1.length⟩, h.here rs rfl⟩
    · exact h.elim
  · exact h.elim
def seqD (d : D) (S : Sto) : Option (List D) := match d with
  | .tup ds => some ds
  | .frl ds => some ds
  | .ref l => match S[l]? with
    | some (.lst ds) => some ds
    | _ => none
  | _ => none
theorem seq_rv {K : PySem.W.Frag} {m : List Addr} {S : Sto} {H : Hp} {d : D} {v : V} {ds : List D} (rs : RS cl K m S H) (rv : RV K m H d v) (h : seqD d S = some ds) :
    ∃ a vs, v = .ref a ∧ (SqL K H a vs ∨ SqT K H a vs) ∧ RVs K m H ds vs := by
  unfold seqD at h
  split at h
  · cases h
    obtain ⟨a, vs, rfl, s1, r1⟩ := rv
    exact ⟨a, vs, rfl, .inr s1, r1⟩
  · cases h
    obtain ⟨a, vs, rfl, s1, r1⟩ := rv
    exact ⟨a, vs, rfl, .inl s1.sq, r1⟩
  · split at h
    · rename_i es e1
      cases h
      obtain ⟨a, h1, ws, hv, r1⟩ := rs.adr e1
      obtain ⟨a', h2, rfl⟩ := rv
      rw [h1] at h2; cases h2
      exact ⟨a, ws, rfl, .inl (SqL.of hv), r1⟩
    · cases h
  · cases h
def tupleD : List D → Sto → Res D
  | [d], S => match seqD d S with
    | some ds => .ok (.tup ds) S
    | none => .stuck
  | _, _ => .stuck
theorem cd_tuple : CallD cl X (.type "tuple") tupleD := by
  refine ⟨_, call_tuple_of, fun E m S H ds vs Q rs rv h => ?_⟩
  unfold tupleD at h
  split at h
  · rename_i d
    obtain ⟨v, rfl, r⟩ := rvs1 rv
    split at h
    · rename_i es e1
      obtain ⟨a, ws, rfl, hs, r1⟩ := seq_rv rs r e1
      refine ⟨a, ws, rfl, ?_⟩
      rcases hs with hs | hs
      · refine .inl ⟨hs, fun l hl => ?_⟩
        obtain ⟨a1, b1⟩ := newTup rs r1 hl
        exact h _ _ _ (Ext.refl _) (Keep.new hl) a1 b1
      · exact .inr ⟨hs, h.here rs ⟨a, ws, rfl, hs, r1⟩⟩
    · exact h.elim
  · exact h.elim
def intD : List D → Sto → Res D
  | [.int i], S => .ok (.int i) S
  | [.bl b], S => .ok (.int (if b then 1 else 0)) S
  | [.str a], S => match PySem.intText? a with
    | some n => if a.length ≤ 640 then .ok (.int n) S else .stuck
    | none => .stuck
  | _, _ => .stuck
theorem cd_int : CallD cl X (.type "int") intD := by
  refine ⟨_, call_int1.or call_int_str, fun E m S H ds vs Q rs rv h => ?_⟩
  unfold intD at h
  split at h
  · obtain ⟨v, rfl, r⟩ := rvs1 rv
    cases r
    exact .inl (.inl ⟨_, rfl, h.here rs rfl⟩)
  · obtain ⟨v, rfl, r⟩ := rvs1 rv
    cases r
    exact .inl (.inr ⟨_, rfl, h.here rs rfl⟩)
  · obtain ⟨v, rfl, r⟩ := rvs1 rv
    cases r
    split at h
    · rename_i n e
      split at h
      · rename_i hz
        exact .inr ⟨_, n, rfl, e, hz, h.here rs rfl⟩
      · exact h.elim
    · exact h.elim
  · exact h.elim
def min2D : List D → Sto → Res D
  | [.int i, .int j], S => .ok (.int (if j < i then j else i)) S
  | _, _ => .stuck
theorem cd_min2 (hc : X.calm = true) : CallD cl X (.builtin "min") min2D := by
  refine ⟨_, call_min2 hc, fun E m S H ds vs Q rs rv h => ?_⟩
  unfold min2D at h
  split at h
  · obtain ⟨v, w, rfl, r, r'⟩ := rvs2 rv
    cases r; cases r'
    exact ⟨_, _, rfl, h.here rs rfl⟩
  · exact h.elim
def flatD : D → Bool
  | .non => true
  | .bl _ => true
  | .int _ => true
  | .str _ => true
  | _ => false
def eqF : D → D → Bool
  | .non, .non => true
  | .bl a, .bl b => a == b
  | .bl a, .int b => (if a then 1 else 0) == b
  | .int a, .bl b => a == (if b then 1 else 0)
  | .int a, .int b => a == b
  | .str a, .str b => a == b
  | _, _ => false
def hasD (x y : D) (S : Sto) : Option Bool := match y with
  | .str z => match x with
    | .str w => match w.cps.toList with
      | [c] => some (decide (c ∈ z.cps.toList))
      | _ => none
    | _ => none
  | .tup ds => if flatD x && ds.all flatD then some (ds.any fun d => eqF d x) else none
  | y => match lsD y S with
    | some ds => match toP S 60 x, mapO (toP S 60) ds with
      | some p, some ps => if SeqAt.shaped p && SeqAt.shaped (.list ps) then some (ps.any fun z => PyData.eqv z p) else none
      | _, _ => none
    | _ => none
def inD (x y : D) (S : Sto) : Res D := match hasD x y S with
  | some b => .ok (.bl b) S
  | none => .stuck
def notInD (x y : D) (S : Sto) : Res D := match hasD x y S with
  | some b => .ok (.bl (!b)) S
  | none => .stuck
theorem flat_rv {K : PySem.W.Frag} {m : List Addr} {H : Hp} {d : D} {v : V} (r : RV K m H d v) (f : flatD d = true) : flatV v = true ∧ (∀ e w, RV K m H e w → flatD e = true → eqV w v = eqF e d) := by
  cases d with
  | non => cases r; refine ⟨rfl, fun e w rw' fe => ?_⟩; cases e <;> first | (cases rw'; rfl) | cases fe
  | bl b => cases r; refine ⟨rfl, fun e w rw' fe => ?_⟩; cases e <;> first | (cases rw'; rfl) | cases fe
  | int b => cases r; refine ⟨rfl, fun e w rw' fe => ?_⟩; cases e <;> first | (cases rw'; rfl) | cases fe
  | str b => cases r; refine ⟨rfl, fun e w rw' fe => ?_⟩; cases e <;> first | (cases rw'; rfl) | cases fe
  | _ => cases f
theorem flat_all {K : PySem.W.Frag} {m : List Addr} {H : Hp} {x : D} {vx : V} (rx : RV K m H x vx) (fx : flatD x = true) : ∀ {ds : List D} {vs : List V}, RVs K m H ds vs → ds.all flatD = true → vs.all flatV = true ∧ (vs.any fun y => eqV y vx) = ds.any fun d => eqF d x
  | [], _, r, _ => by cases r; exact ⟨rfl, rfl⟩
  | d :: ds, _, ⟨v, vs', e, r, t⟩, f => by
    subst e
    rw [List.all_cons, Bool.and_eq_true] at f
    obtain ⟨h1, h2⟩ := flat_all rx fx t f.2
    rw [List.all_cons, List.any_cons, List.any_cons, h1, h2, (flat_rv r f.1).1, (flat_rv rx fx).2 d v r f.1]
    exact ⟨rfl, rfl⟩
theorem str_one {w : Str} {c : Nat} (h : w.cps.toList = [c]) : w = ⟨#[c]⟩ := by
  cases w with
  | mk a =>
    congr 1
    exact Array.toList_inj.mp (by simpa using h)
theorem hasD_cases {m : List Addr} {S : Sto} {H : Hp} {x y : D} {vx vy : V} {b : Bool} {K : PySem.W.Frag} (rs : RS cl K m S H) (rx : RV K m H x vx) (ry : RV K m H y vy) (h : hasD x y S = some b) :
    (∃ c z, vx = .str ⟨#[c]⟩ ∧ vy = .str z ∧ b = decide (c ∈ z.cps.toList)) ∨ (∃ p xs, vy = .ref p ∧ (SqL K H p xs ∨ SqT K H p xs) ∧ flatV vx = true ∧ xs.all flatV = true ∧ b = inV vx xs) ∨
    ∃ d ds, Dp K H vx d ∧ Dp K H vy (.list ds) ∧ SeqAt.shaped d = true ∧ SeqAt.shaped (.list ds) = true ∧ b = ds.any fun z => PyData.eqv z d := by
  unfold hasD at h
  split at h
  · cases ry
    split at h
    · cases rx
      split at h
      · rename_i c e
        cases h
        rw [str_one e]
        exact .inl ⟨c, _, rfl, rfl, rfl⟩
      · cases h
    · cases h
  · rename_i ds
    split at h
    · rename_i hf
      cases h
      rw [Bool.and_eq_true] at hf
      obtain ⟨a, vs, rfl, s1, r1⟩ := ry
      obtain ⟨f1, f2⟩ := flat_all rx hf.1 r1 hf.2
      exact .inr (.inl ⟨a, vs, rfl, .inr s1, (flat_rv rx hf.1).1, f1, f2.symm⟩)
    · cases h
  · split at h
    · rename_i ds e1
      obtain ⟨a, vs, rfl, hv, r1⟩ := ls_rv rs ry e1
      split at h
      · rename_i p ps e2 e3
        split at h
        · rename_i hs
          rw [Bool.and_eq_true] at hs
          cases h
          exact .inr (.inr ⟨p, ps, toP_dp rs _ _ _ _ e2 rx, .lst hv (dpAll (toP_dp rs 60) ds ps vs e3 r1), hs.1, hs.2, rfl⟩)
        · cases h
      · cases h
    · cases h
theorem op_inDD (hu : X.A.units + 65 < cLine) : OpD cl X (compareOp .In) inD := by
  refine ⟨_, (op_in_sign.or op_in_seq).or (op_inD hu), fun E m S H x y vx vy Q rs rx ry h => ?_⟩
  unfold inD at h
  split at h
  · rename_i b e
    rcases hasD_cases rs rx ry e with ⟨c, z, rfl, rfl, rfl⟩ | ⟨p, xs, rfl, hs, f1, f2, rfl⟩ | ⟨d, ds, d1, d2, s1, s2, rfl⟩
    · exact .inl (.inl ⟨c, z, rfl, rfl, h.here rs rfl⟩)
    · exact .inl (.inr ⟨p, xs, rfl, hs, f1, f2, h.here rs rfl⟩)
    · exact .inr ⟨d, ds, d1, d2, s1, s2, h.here rs rfl⟩
  · exact h.elim
theorem op_notInDD (hu : X.A.units + 65 < cLine) : OpD cl X (compareOp .NotIn) notInD := by
  refine ⟨_, (op_notIn_sign.or op_notIn_seq).or (op_notInD hu), fun E m S H x y vx vy Q rs rx ry h => ?_⟩
  unfold notInD at h
  split at h
  · rename_i b e
    rcases hasD_cases rs rx ry e with ⟨c, z, rfl, rfl, rfl⟩ | ⟨p, xs, rfl, hs, f1, f2, rfl⟩ | ⟨d, ds, d1, d2, s1, s2, rfl⟩
    · exact .inl (.inl ⟨c, z, rfl, rfl, h.here rs rfl⟩)
    · exact .inl (.inr ⟨p, xs, rfl, hs, f1, f2, h.here rs rfl⟩)
    · exact .inr ⟨d, ds, d1, d2, s1, s2, h.here rs rfl⟩
  · exact h.elim
end
end DL

namespace DL
open PySem PySem.Spec PyProof.Rows L2
structure Cok (X : Cx) (E : XK) (k : Nat) : Prop where
  calm : X.calm = true
  px : Passes (L2.CX X.prog X.w) X E
  tk : Takes X (fun cls d _ H => E cls d H)
  po : PassesOwn (model X.prog X.w) X.A X.env X.xe
  hr : Room k X.A
  nd : X.N.Nodup
theorem Cok.hu {X : Cx} {E : XK} {k : Nat} (c : Cok X E k) : X.A.units + 64 < cLine := c.hr.units
theorem Cok.hu5 {X : Cx} {E : XK} {k : Nat} (c : Cok X E k) : X.A.units + 65 < cLine := by have := c.hr.un; omega
theorem Cok.blk {X : Cx} {E : XK} {k : Nat} (c : Cok X E k) (s : Shared) (H : Hp) (scope : Scope) (cenv : Env) (fp : List Addr) : Cok (X.blk s H scope cenv fp) E0 k :=
  ⟨c.calm, passL, takes0, PassesOwn.never, c.hr, c.nd⟩
section
variable {cl : Cl} {X : Cx} {E : XK} {a b : Expr} {fa fb : Sl → Sto → Res D} {pos : Pos}
theorem de_glob {x : Str} {d : D} {v : V} {u : Value} (hg : Gl X x) (hm : X.mg x = some u) (r : RelV v u) (rv : ∀ m H, RV X.K m H d v) (hd : (x == ("__debug__" : Str)) = false := by decide) : DE cl X E (.Name x pos) (dC d) :=
  ⟨_, pe_glob hg hm r hd, fun m S H sd σ Q rs rl h => h.here rs (rv m H)⟩
def getF (cs : List Nat) (f : Str) (d : D) (S : Sto) : Res D := match d with
  | .ref l => match S[l]? with
    | some (.ins c fs) => if c ∈ cs then (match fs.lookup f with
      | some v => .ok v S
      | none => .stuck) else .stuck
    | _ => .stuck
  | _ => .stuck
def dFld (cs : List Nat) (f : Str) (fo : Sl → Sto → Res D) : Sl → Sto → Res D := fun sd S => (fo sd S).bind fun d S1 => getF cs f d S1
theorem RF.length {K : PySem.W.Frag} {m : List Addr} {H : Hp} : ∀ {fs : List (Str × D)} {gs : List (Str × V)}, RF K m H fs gs → fs.length = gs.length
  | [], _, r => by cases r; rfl
  | _ :: _, _, ⟨v, gs', e, r, t⟩ => by subst e; simp [RF.length t]
def putFD (f : Str) (v : D) : List (Str × D) → List (Str × D)
  | [] => [(f, v)]
  | (g, u) :: r => if g = f then (g, v) :: r else (g, u) :: putFD f v r
def setF (cs : List Nat) (f : Str) (o v : D) (S : Sto) : Res Unit := match o with
  | .ref l => match S[l]? with
    | some (.ins c fs) => if c ∈ cs ∧ fs.length < 1000 then .ok () (S.set l (.ins c (putFD f v fs))) else .stuck
    | _ => .stuck
  | _ => .stuck
def sFldD (cs : List Nat) (f : Str) (fo fv : Sl → Sto → Res D) : Sl → Sto → Res Fl := fun sd S => (fv sd S).bind fun v S1 => (fo sd S1).bind fun o S2 => (setF cs f o v S2).bind fun _ S3 => .ok (.nx sd) S3
def gFldD (cs : List Nat) (f : Str) (fo : Sl → Sto → Res D) : D → Sl → Sto → Res Sl := fun v sd S => (fo sd S).bind fun o S2 => (setF cs f o v S2).bind fun _ S3 => .ok sd S3
end
def spD (cl : Cl) (K : PySem.W.Frag) (n : Nat) (F : List D → Sto → Res D) : Sp := fun vs H Q E => ∃ m S ds, ds.length = n ∧ RS cl K m S H ∧ RVs K m H ds vs ∧ Post cl K (RV K) m H E Q (F ds S)
structure FnD (P : Program) (w : World) (cl : Cl) (K : PySem.W.Frag) (mg : Str → Option Value) (base : Heap) (k : Nat) (f : Addr) (n : Nat) (F : List D → Sto → Res D) : Prop where
  kp : PySem.W.keepIn K (.ref f) = true
  ex : ∃ fd ps, ps.length = n ∧ Binds K fd ps [] ∧ FnOk P w K mg base (L2.CX P w) k f fd ps (spD cl K n F)
def startD (n : Nat) (ds : List D) : Sl := ds.map some ++ List.replicate (n - ds.length) none
def fnRes : Res Fl → Res D
  | .ok (.nx _) S => .ok .non S
  | .ok (.ret d) S => .ok d S
  | .exc x S => .exc x S
  | _ => .stuck
def dFn (n : Nat) (Fb : Sl → Sto → Res Fl) : List D → Sto → Res D := fun ds S => fnRes (Fb (startD n ds) S)
theorem start_rl {K : PySem.W.Frag} {m : List Addr} {H : Hp} {ds : List D} {vs : List V} {N : List Str} (r : RVs K m H ds vs) : RSl K m H (startD N.length ds) (L2.start N vs) := by
  have hl := r.length
  refine ⟨by simp [startD, L2.start, hl], fun i d e => ?_⟩
  unfold startD at e
  unfold L2.start
  by_cases hi : i < ds.length
  · rw [List.getElem?_append_left (by simpa using hi), List.getElem?_map] at e
    obtain ⟨d', e1, e2⟩ := Option.map_eq_some_iff.mp e
    cases e2
    obtain ⟨v, ev, rv⟩ := r.get e1
    exact ⟨v, by rw [List.getElem?_append_left (by simp; omega), List.getElem?_map, ev]; rfl, rv⟩
  · rw [List.getElem?_append_right (by simpa using hi)] at e
    rw [List.getElem?_replicate] at e
    split at e <;> cases e
section
variable {P : Program} {w : World} {cl : Cl} {K : PySem.W.Frag} {mg : Str → Option Value} {base : Heap} {f : Addr} {fd : FuncData}
theorem cok_of {k : Nat} {N : List Str} {ps : List Str} {qual : Str} {scope : Scope} {cdv : Value} {A : Around} {outer : List Env} {s : Shared} {H : Hp} {E : XK} (S : FnScope N ps scope)
    (hr : Room k (A.deeper (envOfC qual scope s.heap.objs.size f cdv))) : Cok (cxOf (L2.CX P w) P w K mg base N qual scope f cdv A outer s H E) E k := by
  have tk : Takes (cxOf (L2.CX P w) P w K mg base N qual scope f cdv A outer s H E) (fun cls d _ H => E cls d H) := takes_of rfl rfl rfl rfl
  exact ⟨rfl, passes_call tk fun _ _ _ _ h => h, tk, passes_of rfl, hr, S.nd⟩
theorem fnD_of {k : Nat} {x qual : Str} {params : Arguments} {body : List Stmt} {scope : Scope} {N ps : List Str} {Fb : Sl → Sto → Res Fl} (Fu : FunD K x qual params body scope [] [] f fd) (S : FnScope N ps scope)
    (hb : ∀ (kV doc pm : Value) (an : Option Addr) (cdv ct : Value) (us : List Value), us.length = ps.length → bindArgs (PySem.W.fnOf x qual params body scope .none kV doc pm an cdv ct) ⟨us, []⟩ = pure (ps.zip us))
    (hbody : ∀ (cdv : Value) (A : Around) (outer : List Env) (s : Shared) (H : Hp) (E : XK), Cok (cxOf (L2.CX P w) P w K mg base N qual scope f cdv A outer s H E) E k → DSs cl (cxOf (L2.CX P w) P w K mg base N qual scope f cdv A outer s H E) E body Fb) :
    FnD P w cl K mg base (k + 1) f ps.length (dFn N.length Fb) := by
  refine ⟨Fu.kp, fd, ps, rfl, Fu.bindsN hb, ?_⟩
  refine Fu.ok S (fun vs H Q E h => ?_) (fun cdv A outer s H vs Q E hr h => ?_)
  · obtain ⟨m, St, ds, hl, rs, rv, _⟩ := h
    rw [← rv.length, hl]
  · obtain ⟨m, St, ds, hl, rs, rv, h⟩ := h
    obtain ⟨t, p, hh⟩ := hbody cdv A outer s H E (cok_of S hr)
    refine ⟨t, p, hh m St H (startD N.length ds) (L2.start N vs) _ rs (start_rl rv) ?_⟩
    unfold dFn at h
    cases hres : Fb (startD N.length ds) St with
    | ok fl S1 =>
      rw [hres] at h
      intro m1 v H1 x1 k1 rs1 rv1
      cases fl with
      | nx sd =>
        cases v with
        | nx σ1 => exact h m1 .non H1 x1 k1 rs1 rfl
        | _ => exact rv1.elim
      | ret d =>
        cases v with
        | ret u => exact h m1 u H1 x1 k1 rs1 rv1
        | _ => exact rv1.elim
      | brk sd => exact h.elim
      | cnt sd => exact h.elim
    | exc x S1 =>
      rw [hres] at h
      exact h
    | stuck =>
      rw [hres] at h
      exact h.elim
theorem FnD.mono {j k n : Nat} {F} (h : FnD P w cl K mg base j f n F) (hk : j ≤ k) : FnD P w cl K mg base k f n F := by
  obtain ⟨kp, fd, ps, hl, hb, F⟩ := h
  exact ⟨kp, fd, ps, hl, hb, F.mono hk⟩
end
section
variable {cl : Cl} {X : Cx} {E : XK} {k n : Nat} {f C : Addr} {x m : Str} {p pos apos : Pos} {e o : Expr} {es : List Expr} {fa fo : Sl → Sto → Res D} {fs : Sl → Sto → Res (List D)} {F : List D → Sto → Res D}
def dCallF (n : Nat) (F : List D → Sto → Res D) (fs : Sl → Sto → Res (List D)) : Sl → Sto → Res D := fun sd S => (fs sd S).bind fun ds S1 => if ds.length = n then F ds S1 else .stuck
theorem za (hF : FnD X.prog X.w cl X.K X.mg X.base k f n F) (hr : Room k X.A) (hx : Passes (L2.CX X.prog X.w) X E) (hg : Gl X x) (hm : X.mg x = some (.ref f)) (ha : DA cl X E (e :: es) fs) (hdb : (x == ("__debug__" : Str)) = false := by decide)
    (he : starEach (e :: es) X.env = (false, eval e X.env) :: starEach es X.env := by rfl) (hpl : (backTo pos (starEach es X.env)).any (·.1) = false := by rfl) : DE cl X E (.Call (.Name x p) (e :: es) [] pos) (dCallF n F fs) := by
  obtain ⟨kp, fd, ps, hl, hb, hF⟩ := hF
  obtain ⟨t, q, ha⟩ := ha
  refine ⟨_, pe_call hF hr hg hm kp hb .nil hx q hdb he hpl, fun m S H sd σ Q rs rl h => ?_⟩
  refine ha m S H sd σ _ rs rl (Post.bind h fun ds S1 m1 vs H1 x1 k1 rs1 rv h1 => ?_)
  split at h1
  · rename_i hz
    rw [List.append_nil]
    exact ⟨m1, S1, ds, hz, rs1, rv, h1⟩
  · exact h1.elim
def dMeth (c : Nat) (m : Str) (n : Nat) (F : List D → Sto → Res D) (fo : Sl → Sto → Res D) (fs : Sl → Sto → Res (List D)) : Sl → Sto → Res D := fun sd S => (fo sd S).bind fun d S1 => match d with
  | .ref l => match S1[l]? with
    | some (.ins c' gs) => if c' = c ∧ gs.lookup m = none then (fs sd S1).bind fun ds S2 => if ds.length + 1 = n then F (d :: ds) S2 else .stuck else .stuck
    | _ => .stuck
  | _ => .stuck
def dMake (c : Nat) (n : Nat) (F : List D → Sto → Res D) (fs : Sl → Sto → Res (List D)) : Sl → Sto → Res D := fun sd S => (fs sd S).bind fun ds S1 => if ds.length + 1 = n then (F (.ref S1.length :: ds) (S1 ++ [.ins c []])).bind fun r S2 => match r with
    | .non => .ok (.ref S1.length) S2
    | _ => .stuck
  else .stuck
end
end DL

namespace DL
open PySem PySem.Spec PyProof.Rows L2
section
variable {X : Cx} {o e : Expr} {es : List Expr} {to te : TE} {ta : TA} {f : Str} {p p' p1 p2 pos : Pos}
theorem pe_beinit {B : Str} {C0 : Addr} {pl : Sem Bool} (hg : Gl X B) (hm : X.mg B = some (.ref C0)) (hs1 : PySem.W.specialIn X.K (.ref C0) "__getattribute__" = some (some (.builtin "type.__getattribute__"))) (hrd : PySem.W.readsIn X.K C0 (.type "type") = true)
    (vV : PySem.W.findCls X.K (.ref C0) (.type "type") "__init__" = some (.val (.builtin "ValueError.__init__"))) (ha : PA X (e :: es) ta) (hdb : (B == ("__debug__" : Str)) = false := by decide)
    (hc : eval (.Call (.Attribute (.Name B p1) "__init__" p2) (e :: es) [] pos) X.env = (do
      let ov ← eval (.Name B p1) X.env
      standAt p2.atName
      let (f, first) ← holding [ov] (getMethod ov "__init__" pl)
      callWith pos f first (backTo pos (starEach (e :: es) X.env)) (backToKw pos (keywordEach [] X.env))) := by rfl)
    (he : starEach (e :: es) X.env = (false, eval e X.env) :: starEach es X.env := by rfl) (hpl : (backTo pos (starEach es X.env)).any (·.1) = false := by rfl) :
    PE X (.Call (.Attribute (.Name B p1) "__init__" p2) (e :: es) [] pos) (tVeI X.K ta) := by
  refine ⟨fun pins s σ H Q I h => ?_⟩
  refine PySem.W.methodCall_KW (ld_glob I hg hm ?_ hdb) hc
  refine PySem.W.method_cls I.kIn hs1 (PySem.W.cls_value I.kIn hrd vV (by decide +kernel) ?_)
  show wpAny _ _ (callWith pos (Value.builtin "ValueError.__init__") [] (backTo pos (starEach (e :: es) X.env)) []) _ _ _
  refine PyProof.Rows.callWith_method1 (thn (ha.run pos pins _ σ H _ (I.tok _) h) fun us s1 ⟨vs, H1, I1, r1, a, C, ws, ev, hl, T, ea, q⟩ => ?_) he hpl
  subst ev
  cases r1 with
  | @cons _ u0 _ ur ra rw' =>
    obtain rfl : u0 = Value.ref a := ra
    have hlen : ur.length ≤ sizeLine := by
      rw [← Paired.length rw', sizeLine_eq]
      omega
    exact oinit_ok T I1 ea hlen fun s' J => ⟨.non, H1, J, rfl, q⟩
end
def spEx1 (K : PySem.W.Frag) (C : Addr) (f : Str) : Sp := fun vs H Q _ => ∃ a y, vs = [.ref a, y] ∧ OexC K C ∧ PySem.W.findIn K (.ref C) f = some none ∧ H a = some (exo a C none) ∧
  ∀ dx, H dx = none → dx ≠ a → Q .non (upd (upd H dx (exd dx [(f, y)])) a (exo a C (some dx)))
def spEx2 (K : PySem.W.Frag) (C : Addr) (f g : Str) : Sp := fun vs H Q _ => ∃ a y z, vs = [.ref a, y, z] ∧ OexC K C ∧ PySem.W.findIn K (.ref C) f = some none ∧ PySem.W.findIn K (.ref C) g = some none ∧ H a = some (exo a C none) ∧
  ∀ dx, H dx = none → dx ≠ a → Q .non (upd (upd (upd H dx (exd dx [(f, y)])) a (exo a C (some dx))) dx (exd dx [(g, z), (f, y)]))
structure ExB (K : PySem.W.Frag) (C0 : Addr) : Prop where
  hs1 : PySem.W.specialIn K (.ref C0) "__getattribute__" = some (some (.builtin "type.__getattribute__"))
  hrd : PySem.W.readsIn K C0 (.type "type") = true
  vV : PySem.W.findCls K (.ref C0) (.type "type") "__init__" = some (.val (.builtin "ValueError.__init__"))
structure ExC (P : Program) (w : World) (cl : Cl) (K : PySem.W.Frag) (mg : Str → Option Value) (base : Heap) (c n : Nat) (fs : List Str) : Prop where
  oex : OexC K (cl c)
  nof : ∀ f ∈ fs, PySem.W.findIn K (.ref (cl c)) f = some none
  ex : ∃ fI fd ps sp, PySem.W.findIn K (.ref (cl c)) "__init__" = some (some (.ref fI)) ∧ PySem.W.typeIn K (.ref fI) = some (.type "function") ∧ Binds K fd ps [] ∧ FnOk P w K mg base (L2.CX P w) n fI fd ps sp ∧
    (match fs with
      | [f] => sp = spEx1 K (cl c) f
      | [f, g] => sp = spEx2 K (cl c) f g
      | _ => False)
def sRaise (c : Nat) (fs : List Str) (fa : Sl → Sto → Res (List D)) : Sl → Sto → Res Fl := fun sd S => (fa sd S).bind fun ds S1 => match fs, ds with
  | [f], [d] => .exc ⟨c, some [(f, d)]⟩ S1
  | [f, g], [d, e] => .exc ⟨c, some [(g, e), (f, d)]⟩ S1
  | _, _ => .stuck
def sRaiseT (c : Nat) : Sl → Sto → Res Fl := fun _ S => .exc ⟨c, none⟩ S
section
variable {cl : Cl} {X : Cx} {E : XK} {k : Nat} {x : Str} {e : Expr} {es : List Expr} {fa : Sl → Sto → Res (List D)} {p pos pos' : Pos}
theorem heap_eq {H G : Hp} {a dx : Addr} {u : HO} (ha : H a = none) (hg : ∀ b, b ≠ a → b ≠ dx → G b = H b) : upd (del G a) dx u = upd H dx u := by
  funext b
  by_cases h1 : b = dx
  · subst h1; rw [upd_same, upd_same]
  · rw [upd_ne h1, upd_ne h1]
    by_cases h2 : b = a
    · subst h2; rw [del_same, ha]
    · rw [del_ne h2, hg b h2 h1]
theorem ds_raise {c : Nat} {fs : List Str} (hE : ExC X.prog X.w cl X.K X.mg X.base c k fs) (co : Cok X E (k + 1)) (hg : Gl X x) (hm : X.mg x = some (.ref (cl c))) (ha : DA cl X E (e :: es) fa)
    (hdb : (x == ("__debug__" : Str)) = false := by decide) (he : starEach (e :: es) X.env = (false, eval e X.env) :: starEach es X.env := by rfl) (hpl : (backTo pos (starEach es X.env)).any (·.1) = false := by rfl) :
    DS cl X E (.Raise (some (.Call (.Name x p) (e :: es) [] pos)) none pos') (sRaise c fs fa) := by
  obtain ⟨oex, nof, fI, fd, ps, sp, iC, tI, hb, hF, hsp⟩ := hE
  obtain ⟨t, q, ha⟩ := ha
  have hx : Passes (L2.CX X.prog X.w) X (fun _ _ _ => False) := passL
  refine ⟨_, ps_raise co.calm co.tk (pmk_oex oex iC tI hF co.hr hb .nil hx hg hm q hdb he hpl), fun m S H sd σ D rs rl h => ?_⟩
  refine ha m S H sd σ _ rs rl (Post.bind h fun ds S1 m1 vs H1 x1 k1 rs1 rv h1 => ?_)
  split at h1
  · rename_i f d
    obtain ⟨v, rfl, r1⟩ := rvs1 rv
    have hsp' : sp = spEx1 X.K (cl c) f := hsp
    subst hsp'
    refine ⟨by show 1 ≤ 1000; decide, fun a na => ⟨a, v, rfl, oex, nof f (by simp), upd_same, fun dx hdx hne => ?_⟩⟩
    have hdx1 : H1 dx = none := by rw [upd_ne hne] at hdx; exact hdx
    refine ⟨rfl, dx, [(f, v)], upd_same, ?_, hdx1, ?_⟩
    · rw [upd_ne hne, upd_same]
    · rw [heap_eq na fun b b1 b2 => by rw [upd_ne b1, upd_ne b2, upd_ne b1]]
      exact h1 m1 (some dx) _ (Ext.refl _) (Keep.new hdx1) (rs1.ext hdx1) ⟨dx, _, rfl, upd_same, v, [], rfl, RV.mono (Ext.refl _) (Keep.new hdx1) d r1, rfl⟩
  · rename_i f g d d'
    obtain ⟨v, v', rfl, r1, r2⟩ := rvs2 rv
    have hsp' : sp = spEx2 X.K (cl c) f g := hsp
    subst hsp'
    refine ⟨by show 2 ≤ 1000; decide, fun a na => ⟨a, v, v', rfl, oex, nof f (by simp), nof g (by simp), upd_same, fun dx hdx hne => ?_⟩⟩
    have hdx1 : H1 dx = none := by rw [upd_ne hne] at hdx; exact hdx
    refine ⟨rfl, dx, [(g, v'), (f, v)], ?_, upd_same, hdx1, ?_⟩
    · rw [upd_ne (Ne.symm hne), upd_same]
    · rw [heap_eq na fun b b1 b2 => by rw [upd_ne b2, upd_ne b1, upd_ne b2, upd_ne b1]]
      exact h1 m1 (some dx) _ (Ext.refl _) (Keep.new hdx1) (rs1.ext hdx1) ⟨dx, _, rfl, upd_same, v', _, rfl, RV.mono (Ext.refl _) (Keep.new hdx1) d' r2, v, [], rfl, RV.mono (Ext.refl _) (Keep.new hdx1) d r1, rfl⟩
  · exact h1.elim
structure ExT (K : PySem.W.Frag) (C : Addr) : Prop where
  xP : PySem.W.excIn K C [.type "ValueError", .type "Exception", .type "BaseException", .type "object"] "ValueError.__new__" = true
  kP : PySem.W.keepIn K (.ref C) = true
  bP : PySem.W.subIn K (.ref C) (.type "BaseException") = some true
  tP : PySem.W.typeIn K (.ref C) = some (.type "type")
theorem ds_raiseT {c : Nat} {msg : Str} {j : Nat} {p2 : Pos} (T : ExT X.K (cl c)) (co : Cok X E k) (hg : Gl X x) (hm : X.mg x = some (.ref (cl c))) (hdb : (x == ("__debug__" : Str)) = false := by decide) :
    DS cl X E (.Raise (some (.Call (.Name x p) [.Constant (.str msg) j p2] [] pos)) none pos') (sRaiseT c) := by
  refine ⟨_, ps_raise co.calm co.tk (pmk_own PySem.F.excBase_ValueError T.xP hm T.kP (raises_own T.bP T.tP) hg hdb), fun m S H sd σ D rs rl h => ?_⟩
  exact h m none H (Ext.refl _) (Keep.refl _) rs rfl
end
end DL

namespace DL
open PySem PySem.Spec PyProof.Rows L2
def constB (K : PySem.W.Frag) : Nat → D → Value → Bool
  | _, .non, .none => true
  | _, .bl b, .bool c => b == c
  | _, .int i, .int j _ => decide (i = j)
  | _, .str x, .str y _ => decide (x = y)
  | n + 1, .tup ds, .ref a => match K.lookup a with
    | some o => decide (o.cls = .type "tuple") && (match o.data with
      | .seq its _ => decide (its.size ≤ sizeLine) && allB (constB K n) ds its.toList
      | _ => false)
    | none => false
  | _, _, _ => false
where allB (f : D → Value → Bool) : List D → List Value → Bool
  | [], [] => true
  | d :: ds, u :: us => f d u && allB f ds us
  | _, _ => false
theorem const_all {K : PySem.W.Frag} {f : D → Value → Bool} (hf : ∀ d u, f d u = true → ∃ v, RelV v u ∧ ∀ m H, RV K m H d v) : ∀ (ds : List D) (us : List Value), constB.allB f ds us = true → ∃ vs, Vals vs us ∧ ∀ m H, RVs K m H ds vs
  | [], [], _ => ⟨[], .nil, fun _ _ => rfl⟩
  | [], _ :: _, h => by cases h
  | _ :: _, [], h => by cases h
  | d :: ds, u :: us, h => by
    have h' : (f d u && constB.allB f ds us) = true := h
    rw [Bool.and_eq_true] at h'
    obtain ⟨v, r, rv⟩ := hf d u h'.1
    obtain ⟨vs, r2, rv2⟩ := const_all hf ds us h'.2
    exact ⟨v :: vs, .cons r r2, fun m H => ⟨v, vs, rfl, rv m H, rv2 m H⟩⟩
theorem constB_ok {K : PySem.W.Frag} : ∀ (n : Nat) (d : D) (u : Value), constB K n d u = true → ∃ v, RelV v u ∧ ∀ m H, RV K m H d v := by
  have base : ∀ (n : Nat) (d : D) (u : Value), (∀ ds, d ≠ .tup ds) → constB K n d u = true → ∃ v, RelV v u ∧ ∀ m H, RV K m H d v := by
    intro n d u hd h
    cases d with
    | tup ds => exact absurd rfl (hd ds)
    | non =>
      cases u <;> first | exact ⟨.non, rfl, fun _ _ => rfl⟩ | (cases n <;> cases h)
    | bl b =>
      cases u with
      | bool c =>
        have e : b = c := by
          have : (b == c) = true := by cases n <;> exact h
          exact eq_of_beq this
        subst e
        exact ⟨.bl b, rfl, fun _ _ => rfl⟩
      | _ => cases n <;> cases h
    | int b =>
      cases u with
      | int c t =>
        have e : b = c := by
          have : decide (b = c) = true := by cases n <;> exact h
          exact of_decide_eq_true this
        subst e
        exact ⟨.int b, ⟨t, rfl⟩, fun _ _ => rfl⟩
      | _ => cases n <;> cases h
    | str b =>
      cases u with
      | str c t =>
        have e : b = c := by
          have : decide (b = c) = true := by cases n <;> exact h
          exact of_decide_eq_true this
        subst e
        exact ⟨.str b, ⟨t, rfl⟩, fun _ _ => rfl⟩
      | _ => cases n <;> cases h
    | _ => cases u <;> (cases n <;> cases h)
  intro n
  induction n with
  | zero =>
    intro d u h
    cases d with
    | tup ds => cases u <;> cases h
    | _ => exact base 0 _ u (by intro ds e; cases e) h
  | succ n ih =>
    intro d u h
    cases d with
    | tup ds =>
      cases u with
      | ref a =>
        unfold constB at h
        split at h
        · rename_i o hk
          rw [Bool.and_eq_true] at h
          have hc := of_decide_eq_true h.1
          have h2 := h.2
          split at h2
          · rename_i its nn hd
            rw [Bool.and_eq_true] at h2
            obtain ⟨vs, r, rv⟩ := const_all ih ds its.toList h2.2
            exact ⟨.ref a, rfl, fun m H => ⟨a, vs, rfl, .inr ⟨o, its, nn, hk, hc, hd, of_decide_eq_true h2.1, r⟩, rv m H⟩⟩
          · cases h2
        · cases h
      | _ => cases h
    | _ => exact base (n + 1) _ u (by intro ds e; cases e) h
def globB (K : PySem.W.Frag) (x : Str) (d : D) : Bool := match PySem.W.nsIn K mainGlobals x with
  | some (some u) => constB K 9 d u
  | _ => false
structure Con0 (K : PySem.W.Frag) (mg : Str → Option Value) (x : Str) (d : D) : Prop where
  ex : ∃ u v, mg x = some u ∧ RelV v u ∧ ∀ m H, RV K m H d v
theorem globB_ok {K : PySem.W.Frag} {h : Heap} {mg : Str → Option Value} {x : Str} {d : D} (X : K.In h) (G : h.Ns mainGlobals mg) (c : globB K x d = true) : Con0 K mg x d := by
  unfold globB at c
  split at c
  · rename_i u e
    obtain ⟨v, r, rv⟩ := constB_ok 9 d u c
    exact ⟨u, v, PySem.W.mg_of X G e, r, rv⟩
  · cases c
theorem de_con {cl : Cl} {X : Cx} {E : XK} {pos : Pos} {x : Str} {d : D} (c : Con0 X.K X.mg x d) (hg : Gl X x) (hd : (x == ("__debug__" : Str)) = false := by decide) : DE cl X E (.Name x pos) (dC d) := by
  obtain ⟨u, v, hm, r, rv⟩ := c.ex
  exact de_glob hg hm r rv hd
def oexB (K : PySem.W.Frag) (C : Addr) : Bool := (match K.lookup C with
  | some ⟨c, dd, .cls ⟨nm, bs, mro, ns, qn, hd, sn, sub, ab, col, del⟩, sl⟩ => decide (c = .type "type") && ((match mro with
    | .ref C' :: bm => decide (C' = C) && PySem.HandSPX.refsVE bm
    | _ => false) && (hd && (!del && (match sl.toList with
    | [_, _, _, _, some (.builtin n), _] => decide (n = "ValueError.__new__")
    | _ => false))))
  | _ => false) && (He.eqO (PySem.W.findIn K (.ref C) "__setattr__") (some (some (.builtin "object.__setattr__"))) && (decide (PySem.W.subIn K (.ref C) (.type "BaseException") = some true) && (decide (PySem.W.typeIn K (.ref C) = some (.type "type")) && PySem.W.keepIn K (.ref C))))
theorem oexB_ok {K : PySem.W.Frag} {C : Addr} (h : oexB K C = true) : OexC K C := by
  unfold oexB at h
  obtain ⟨h1, h⟩ := He.ba h
  obtain ⟨h2, h⟩ := He.ba h
  obtain ⟨h3, h⟩ := He.ba h
  obtain ⟨h4, h5⟩ := He.ba h
  refine ⟨?_, He.eqO_ok h2, of_decide_eq_true h3, of_decide_eq_true h4, h5⟩
  split at h1
  · rename_i c dd nm bs mro ns qn hd sn sub ab col del sl hk
    obtain ⟨a1, a⟩ := He.ba h1
    obtain ⟨a2, a⟩ := He.ba a
    obtain ⟨a3, a⟩ := He.ba a
    obtain ⟨a4, a5⟩ := He.ba a
    have a1' := of_decide_eq_true a1
    subst a1'
    split at a2
    · rename_i C' bm
      obtain ⟨b1, b2⟩ := He.ba a2
      have b1' := of_decide_eq_true b1
      subst b1'
      split at a5
      · rename_i k0 k1 k2 k3 n k5 hs
        have a5' := of_decide_eq_true a5
        subst a5'
        have hd' : hd = true := a3
        subst hd'
        have del' : del = false := by simpa using a4
        subst del'
        have hsl : sl = #[k0, k1, k2, k3, some (.builtin "ValueError.__new__"), k5] := by
          obtain ⟨l⟩ := sl
          simp only at hs
          rw [hs]
        subst hsl
        exact ⟨nm, qn, ns, bs, bm, sn, sub, ab, col, dd, k0, k1, k2, k3, k5, hk, b2⟩
      · cases a5
    · cases a2
  · cases h1
def exBB (K : PySem.W.Frag) (C0 : Addr) : Bool := He.eqO (PySem.W.specialIn K (.ref C0) "__getattribute__") (some (some (.builtin "type.__getattribute__"))) && (PySem.W.readsIn K C0 (.type "type") && (match PySem.W.findCls K (.ref C0) (.type "type") "__init__" with
  | some (.val (.builtin n)) => decide (n = "ValueError.__init__")
  | _ => false))
theorem exBB_ok {K : PySem.W.Frag} {C0 : Addr} (h : exBB K C0 = true) : ExB K C0 := by
  unfold exBB at h
  obtain ⟨h1, h⟩ := He.ba h
  obtain ⟨h2, h3⟩ := He.ba h
  refine ⟨He.eqO_ok h1, h2, ?_⟩
  split at h3
  · rename_i n e
    have e' := of_decide_eq_true h3
    subst e'
    exact e
  · cases h3
theorem exT_ok {K : PySem.W.Frag} {x : Str} (c : (He.Fa.exc x).ok K = true) : ExT K (He.ga K x) :=
  let ⟨a, b, d, e⟩ := He.exc_ok c
  ⟨a, b, d, e⟩
def initB (K : PySem.W.Frag) (C : Addr) (fs : List Str) : Bool := (fs.all fun f => He.eqO (PySem.W.findIn K (.ref C) f) (some none)) && (He.eqO (PySem.W.findIn K (.ref C) "__init__") (some (some (.ref (He.ma K C "__init__")))) && decide (PySem.W.typeIn K (.ref (He.ma K C "__init__")) = some (.type "function")))
theorem initB_ok {K : PySem.W.Frag} {C : Addr} {fs : List Str} (h : initB K C fs = true) : (∀ f ∈ fs, PySem.W.findIn K (.ref C) f = some none) ∧ PySem.W.findIn K (.ref C) "__init__" = some (some (.ref (He.ma K C "__init__"))) ∧ PySem.W.typeIn K (.ref (He.ma K C "__init__")) = some (.type "function") := by
  unfold initB at h
  obtain ⟨h1, h⟩ := He.ba h
  obtain ⟨h2, h3⟩ := He.ba h
  exact ⟨fun f hf => He.eqO_ok (List.all_eq_true.mp h1 f hf), He.eqO_ok h2, of_decide_eq_true h3⟩
end DL

namespace DL
open PySem PySem.Spec PyProof.Rows L2
section
variable {cl : Cl} {X : Cx} {E : XK} {pos : Pos}
end
section
variable {P : Program} {w : World} {cl : Cl} {K : PySem.W.Frag} {mg : Str → Option Value} {base : Heap} {f : Addr} {fd : FuncData}
theorem fnD_stuck {k : Nat} {x qual : Str} {params : Arguments} {body : List Stmt} {scope : Scope} {ps : List Str} (Fu : FunD K x qual params body scope [] [] f fd)
    (hb : ∀ (kV doc pm : Value) (an : Option Addr) (cdv ct : Value) (us : List Value), us.length = ps.length → bindArgs (PySem.W.fnOf x qual params body scope .none kV doc pm an cdv ct) ⟨us, []⟩ = pure (ps.zip us)) :
    FnD P w cl K mg base k f ps.length (fun _ _ => .stuck) := by
  refine ⟨Fu.kp, fd, ps, rfl, Fu.bindsN hb, fun vs H Q E h => ?_, fun A outer s H args us vs Q E hr e0 hbb hv h => ?_⟩
  · obtain ⟨m, S, ds, hl, rs, rv, z⟩ := h
    exact z.elim
  · obtain ⟨m, S, ds, hl, rs, rv, z⟩ := h
    exact z.elim
end
theorem ints_rv {K : PySem.W.Frag} {m : List Addr} {H : Hp} : ∀ ns : List Int, RVs K m H (ns.map D.int) (ns.map V.int)
  | [] => rfl
  | n :: ns => ⟨_, _, rfl, rfl, ints_rv ns⟩
end DL
namespace DL
open PySem PySem.Spec PyProof.Rows L2
theorem Cok.at {X : Cx} {E : XK} {j k : Nat} (c : Cok X E k) (h : j ≤ k) : Cok X E j := ⟨c.calm, c.px, c.tk, c.po, c.hr.mono h, c.nd⟩
end DL

namespace DL
open PySem PySem.Spec PyProof.Rows L2
theorem takes_all {X : Cx} {W : WX} (tk : Takes X W) : Takes X (fun cls d _ H => ∀ σ : L2.St, σ.length = X.N.length → W cls d σ H) := fun u s' x => by
  obtain ⟨a, B, sI, pins, σ, H, cls, d, rfl, I, nb, up, sky, na, os, ag, w⟩ := x
  exact tk _ _ ⟨a, B, sI, pins, σ, H, cls, d, rfl, I, nb, up, sky, na, os, ag, w σ I.len⟩
def excD (a : Addr) (dd : Addr) (x : Exc) : D := match x.fs with
  | none => .exn a dd [] []
  | some fs => .exn a dd (fs.map Prod.fst) (fs.map Prod.snd)
theorem RF.split {K : PySem.W.Frag} {m : List Addr} {H : Hp} : ∀ {fs : List (Str × D)} {gs : List (Str × V)}, RF K m H fs gs → ∃ vs, gs = (fs.map Prod.fst).zip vs ∧ RVs K m H (fs.map Prod.snd) vs
  | [], _, r => by cases r; exact ⟨[], rfl, rfl⟩
  | p :: fs, _, ⟨v, gs', e, r, t⟩ => by
    subst e
    obtain ⟨vs, e1, r1⟩ := RF.split t
    exact ⟨v :: vs, by simp [e1], v, vs, rfl, r, r1⟩
theorem excD_rv {K : PySem.W.Frag} {m : List Addr} {H : Hp} {x : Exc} {d : Option Addr} (a : Addr) (r : RX K m H x d) : RV K m H (excD a (d.getD 0) x) (.ref a) := by
  unfold RX at r
  unfold excD
  split at r
  · rename_i e
    try rw [e]
    exact ⟨rfl, [], rfl, fun n => absurd rfl n⟩
  · rename_i fs e
    try rw [e]
    obtain ⟨dd, gs, rfl, hd, rf⟩ := r
    obtain ⟨vs, rfl, rv⟩ := rf.split
    exact ⟨rfl, vs, rv, fun _ => hd⟩
def sTry (Fb : Sl → Sto → Res Fl) (Fx : Exc → Sto → Res D) : Sl → Sto → Res Fl := fun sd S => match Fb sd S with
  | .ok fl S1 => .ok fl S1
  | .exc x S1 => (Fx x S1).bind fun d S2 => .ok (.ret d) S2
  | .stuck => .stuck
def exSl (n i : Nat) (d : D) : Sl := (List.replicate n none).set i (some d)
def ExOk (d : Option Addr) (x : Exc) : Prop := match x.fs with
  | none => d = none
  | some fs => d.isSome = true ∧ fs ≠ []
theorem de_stuck {cl : Cl} {X : Cx} {E : XK} {e : Expr} : DE cl X E e (fun _ _ => .stuck) := ⟨fun _ _ _ => False, ⟨fun _ _ _ _ _ _ h => h.elim⟩, fun _ _ _ _ _ _ _ _ h => h⟩
def excB (K : PySem.W.Frag) (C : Addr) : Bool :=
  xfB K C && (decide (PySem.W.findIn K (.ref C) "__class__" = some (some (.builtin "object.__class__"))) && (decide (PySem.W.specialIn K (.builtin "object.__class__") "__get__" = some (some (.builtin "getset_descriptor.__get__"))) &&
    (decide (PySem.W.takesIn K (.builtin "object.__class__") = some true) && decide (PySem.W.mroIn K C (.type "object") = some true))))
theorem excB_ok {K : PySem.W.Frag} {C : Addr} (h : excB K C = true) : L2.ExcC K C := by
  unfold excB at h
  simp only [Bool.and_eq_true, decide_eq_true_eq] at h
  obtain ⟨h0, h1, h2, h3, h4⟩ := h
  have X := xfB_ok h0
  exact ⟨X.ga, X.gg, X.exC, X.hdC, h1, h2, h3, h4⟩
def exAllB (K : PySem.W.Frag) (cl : Cl) (n : Nat) : Bool := (List.range n).all fun c => excB K (cl c) && (decide (PySem.W.exmOne K (.ref (cl c)) (.ref (cl 0)) = some true) && decide (PySem.W.kitOne K (.ref (cl c)) (.type "ValueError") = some true) && ((List.range n).all fun c' => decide (PySem.W.kitOne K (.ref (cl c)) (.ref (cl c')) = some (c == c' || c' == 0))))
structure ExAll (K : PySem.W.Frag) (cl : Cl) (n : Nat) : Prop where
  exc : ∀ c, c < n → L2.ExcC K (cl c)
  exm : ∀ c, c < n → PySem.W.exmOne K (.ref (cl c)) (.ref (cl 0)) = some true
  kv : ∀ c, c < n → PySem.W.kitOne K (.ref (cl c)) (.type "ValueError") = some true
  kit : ∀ c c', c < n → c' < n → PySem.W.kitOne K (.ref (cl c)) (.ref (cl c')) = some (c == c' || c' == 0)
theorem exAllB_ok {K : PySem.W.Frag} {cl : Cl} {n : Nat} (h : exAllB K cl n = true) : ExAll K cl n := by
  unfold exAllB at h
  simp only [List.all_eq_true, List.mem_range, Bool.and_eq_true, decide_eq_true_eq] at h
  exact ⟨fun c hc => excB_ok (h c hc).1, fun c hc => (h c hc).2.1.1, fun c hc => (h c hc).2.1.2, fun c c' hc hc' => (h c hc).2.2 c' hc'⟩
theorem xfC_of {K : PySem.W.Frag} {C : Addr} (h : L2.ExcC K C) : XfC K C := ⟨h.hg, h.hk, h.hs, h.hd⟩
def lookN : List Str → List D → Str → Option D
  | n :: ns, d :: ds, f => if f = n then some d else lookN ns ds f
  | _, _, _ => none
theorem lookN_rv {K : PySem.W.Frag} {m : List Addr} {H : Hp} {f : Str} {d : D} : ∀ {ns : List Str} {ds : List D} {vs : List V}, RVs K m H ds vs → lookN ns ds f = some d → ∃ v, (ns.zip vs).lookup f = some v ∧ RV K m H d v
  | [], _, _, _, e => by cases e
  | _ :: _, [], _, _, e => by cases e
  | n :: ns, d0 :: ds, _, ⟨v, vs', e, r, t⟩, h => by
    subst e
    unfold lookN at h
    rw [List.zip_cons_cons, List.lookup_cons]
    by_cases q : f = n
    · rw [if_pos q] at h; cases h
      rw [beq_iff_eq.mpr q]
      exact ⟨v, rfl, r⟩
    · rw [if_neg q] at h
      rw [beq_eq_false_iff_ne.mpr q]
      exact lookN_rv t h
def dExF (i : Nat) (a : Addr) (d : Option Addr) (f : Str) : Sl → Sto → Res D := fun sd S => match sd[i]? with
  | some (some (.exn a' dd ns ds)) => if a' = a ∧ d = some dd ∧ ns ≠ [] then (match lookN ns ds f with
    | some v => .ok v S
    | none => .stuck) else .stuck
  | _ => .stuck
def dExI (i : Nat) (a : Addr) (d : Option Addr) (b : Bool) : Sl → Sto → Res D := fun sd S => match sd[i]? with
  | some (some (.exn a' dd ns _)) => if a' = a ∧ (d = none ∨ (d = some dd ∧ ns ≠ [])) then .ok (.bl b) S else .stuck
  | _ => .stuck
section
variable {cl : Cl} {X : Cx} {E : XK} {a C : Addr} {oe : Obj} {d : Option Addr} {pn : List (Addr × Obj)} {i : Nat} {n f : Str} {p p1 p2 p3 pos : Pos}
theorem de_exF (T : L2.ExcC X.K C) (hno : PySem.W.findIn X.K (.ref C) f = some none) (hz : Zc (.ref C) d oe) (hf : ∃ vs, oe.data = .fields vs) (hn : X.N[i]? = some n) (hl : Vis X.env.scope n) (hd1 : (n == ("__debug__" : Str)) = false) (hd2 : (n == ("__classdict__" : Str)) = false)
    (hb : attributeBase (.Name n p) f X.env (eval (.Name n p) X.env) = eval (.Name n p) X.env := by rfl) :
    DE cl (X.suite a ((a, oe) :: pn)) E (.Attribute (.Name n p) f pos) (dExF i a d f) := by
  refine ⟨_, pe_xf (a := a) (C := C) (cls := .ref C) (d := d) (xfC_of T) hno hz hf (pe_var (i := i) hn hl hd1 hd2) hb, fun m S H sd σ Q rs rl h => ?_⟩
  unfold dExF at h
  split at h
  · rename_i a' dd ns ds e
    split at h
    · rename_i hz'
      obtain ⟨rfl, rfl, hns⟩ := hz'
      split at h
      · rename_i v ev
        obtain ⟨u, eu, ru, vs, rvs, hd⟩ := rl.at_ i _ e
        obtain ⟨w, ew, rw'⟩ := lookN_rv (f := f) rvs ev
        exact ⟨u, eu, ru, rfl, dd, _, w, rfl, hd hns, ew, h.here rs rw'⟩
      · exact h.elim
    · exact h.elim
  · exact h.elim
theorem call_isX (T : L2.ExcC X.K C) (hz : Zc (.ref C) d oe) (hf : ∃ vs, oe.data = .fields vs) : CallR (X.suite a ((a, oe) :: pn)) (.builtin "isinstance") (fun xs H Q => (d = none ∨ ∃ dd fs, d = some dd ∧ H dd = some (.xd fs)) ∧
    ∃ (c : V) (cv : Value) (b : Bool), xs = [.ref a, c] ∧ (∀ u, RelV c u → u = cv) ∧ PySem.W.kitOne X.K (.ref C) cv = some b ∧ Q (.bl b) H) := by
  intro pins s σ H xs us Q I r h
  obtain ⟨hdd, c, cv, b, rfl, hcv, e, q⟩ := h
  cases r with
  | cons rx rr =>
    cases rr with
    | cons rt rr =>
      cases rr
      cases rx
      have ec := hcv _ rt
      subst ec
      obtain ⟨hget, _⟩ := I.pin (a, oe) (List.mem_append.mpr (.inl List.mem_cons_self))
      obtain ⟨vs, hv⟩ := hf
      obtain ⟨od, J⟩ : ∃ od, PySem.W.InstAt s.heap a oe C od := by
        rcases hdd with rfl | ⟨dd, fs, rfl, hd⟩
        · refine ⟨none, hget, hz.1, by unfold PySem.W.notCls; rw [hv] <;> rfl, ?_⟩
          rw [hz.2]; trivial
        · have hx : ObjOk X.prog X.w H s.heap dd (.xd fs) := I.hok dd _ hd
          obtain ⟨mA, hns, hr⟩ := hx
          obtain ⟨od, ho, hl⟩ := lookIn_ns hns
          exact ⟨some od, hget, hz.1, by unfold PySem.W.notCls; rw [hv] <;> rfl, by rw [hz.2]; exact ho⟩
      have hcl : (PySem.W.clsIn X.K C).isSome = true := by
        obtain ⟨cd, hc, _⟩ := PySem.W.any_some T.hd
        rw [hc]; rfl
      exact PySem.W.kia_one (PySem.W.kitx_exc hcl T.hg T.hk T.hs T.ha T.hn T.ht T.hm) I.kIn J e (fun z => nomatch z) fun tk => ⟨.bl b, H, I.kept (t' := tk) fun _ _ z => z, rfl, q⟩
theorem de_exI {x : Str} {C' : Addr} {b : Bool} (T : L2.ExcC X.K C) (hz : Zc (.ref C) d oe) (hf : ∃ vs, oe.data = .fields vs) (hn : X.N[i]? = some n) (hl : Vis X.env.scope n) (hd1 : (n == ("__debug__" : Str)) = false) (hd2 : (n == ("__classdict__" : Str)) = false) (hgi : Gl X "isinstance") (hmi : X.mg "isinstance" = none)
    (hgc : Gl X x) (hmc : X.mg x = some (.ref C')) (hk : PySem.W.kitOne X.K (.ref C) (.ref C') = some b) (hdb : (x == ("__debug__" : Str)) = false := by decide) :
    DE cl (X.suite a ((a, oe) :: pn)) E (.Call (.Name "isinstance" p) [.Name n p1, .Name x p2] [] pos) (dExI i a d b) := by
  have pa : PA (X.suite a ((a, oe) :: pn)) [.Name n p1, .Name x p2] _ := pa_cons (pe_var (i := i) hn hl hd1 hd2) (pa_cons (pe_glob (v := .ref C') hgc hmc rfl hdb) pa_nil)
  refine ⟨_, pe_callB (call_isX T hz hf) hgi hmi (by rfl) pa, fun m S H sd σ Q rs rl h => ?_⟩
  unfold dExI at h
  split at h
  · rename_i a' dd ns ds e
    split at h
    · rename_i hz'
      obtain ⟨rfl, hd'⟩ := hz'
      obtain ⟨u, eu, ru, vs, rvs, hd⟩ := rl.at_ i _ e
      subst ru
      refine ⟨.ref a', eu, ?_⟩
      refine ⟨?_, .ref C', .ref C', b, rfl, fun u r => r, hk, h.here rs rfl⟩
      rcases hd' with hd' | ⟨hd', hns⟩
      · exact .inl hd'
      · exact .inr ⟨dd, _, hd', hd hns⟩
    · exact h.elim
  · exact h.elim
theorem de_exV {b : Bool} (T : L2.ExcC X.K C) (hz : Zc (.ref C) d oe) (hf : ∃ vs, oe.data = .fields vs) (hn : X.N[i]? = some n) (hl : Vis X.env.scope n) (hd1 : (n == ("__debug__" : Str)) = false) (hd2 : (n == ("__classdict__" : Str)) = false) (hgi : Gl X "isinstance") (hmi : X.mg "isinstance" = none)
    (hgc : Gl X "ValueError") (hmc : X.mg "ValueError" = none) (hk : PySem.W.kitOne X.K (.ref C) (.type "ValueError") = some b) :
    DE cl (X.suite a ((a, oe) :: pn)) E (.Call (.Name "isinstance" p) [.Name n p1, .Name "ValueError" p2] [] pos) (dExI i a d b) := by
  have pa : PA (X.suite a ((a, oe) :: pn)) [.Name n p1, .Name "ValueError" p2] _ := pa_cons (pe_var (i := i) hn hl hd1 hd2) (pa_cons (pe_bltn (v := .ty "ValueError") (pos := p2) hgc hmc (by rfl) rfl) pa_nil)
  refine ⟨_, pe_callB (call_isX T hz hf) hgi hmi (by rfl) pa, fun m S H sd σ Q rs rl h => ?_⟩
  unfold dExI at h
  split at h
  · rename_i a' dd ns ds e
    split at h
    · rename_i hz'
      obtain ⟨rfl, hd'⟩ := hz'
      obtain ⟨u, eu, ru, vs, rvs, hd⟩ := rl.at_ i _ e
      subst ru
      refine ⟨.ref a', eu, ?_⟩
      refine ⟨?_, .ty "ValueError", .type "ValueError", b, rfl, fun u r => r, hk, h.here rs rfl⟩
      rcases hd' with hd' | ⟨hd', hns⟩
      · exact .inl hd'
      · exact .inr ⟨dd, _, hd', hd hns⟩
    · exact h.elim
  · exact h.elim
def dExFc (i : Nat) (c : Nat) (cs : List Nat) (a : Addr) (d : Option Addr) (f : Str) : Sl → Sto → Res D := fun sd S => if c ∈ cs then dExF i a d f sd S else .stuck
theorem de_exFc {c : Nat} {cs : List Nat} (T : L2.ExcC X.K (cl c)) (hno : ∀ c ∈ cs, PySem.W.findIn X.K (.ref (cl c)) f = some none) (hz : Zc (.ref (cl c)) d oe) (hf : ∃ vs, oe.data = .fields vs) (hn : X.N[i]? = some n) (hl : Vis X.env.scope n) (hd1 : (n == ("__debug__" : Str)) = false) (hd2 : (n == ("__classdict__" : Str)) = false)
    (hb : attributeBase (.Name n p) f X.env (eval (.Name n p) X.env) = eval (.Name n p) X.env := by rfl) :
    DE cl (X.suite a ((a, oe) :: pn)) E (.Attribute (.Name n p) f pos) (dExFc i c cs a d f) := by
  by_cases h : c ∈ cs
  · obtain ⟨t, q, hh⟩ := de_exF (cl := cl) (E := E) (a := a) (pn := pn) (pos := pos) T (hno c h) hz hf hn hl hd1 hd2 hb
    refine ⟨t, q, fun m S H sd σ Q rs rl z => hh m S H sd σ Q rs rl ?_⟩
    unfold dExFc at z
    rw [if_pos h] at z
    exact z
  · obtain ⟨t, q, hh⟩ := de_stuck (cl := cl) (X := X.suite a ((a, oe) :: pn)) (E := E) (e := .Attribute (.Name n p) f pos)
    refine ⟨t, q, fun m S H sd σ Q rs rl z => ?_⟩
    unfold dExFc at z
    rw [if_neg h] at z
    exact z.elim
end
structure CokS (X : Cx) : Prop where
  nd : X.N.Nodup
  hu : X.A.units + 64 < cLine
  hu5 : X.A.units + 65 < cLine
theorem cokS_of {X : Cx} {k : Nat} {env : Env} {v : Option Value} (hn : X.N.Nodup) {A : Around} (hA : X.A = (A.deeper env).mark v) (hr : Room (k + 1) A) : CokS X := by
  have h := (hr.deeper env).un
  refine ⟨hn, ?_, ?_⟩
  · rw [hA]; show (A.deeper env).units + 64 < cLine; omega
  · rw [hA]; show (A.deeper env).units + 65 < cLine; omega
end DL

namespace DL
open PySem PySem.Spec PyProof.Rows L2
def isTy (T : String) (d : D) (S : Sto) : Bool := match d with
  | .str _ => T == "str"
  | .frl _ => T == "list"
  | .ref l => match S[l]? with
    | some (.lst _) => T == "list"
    | some (.dic 0 _) => T == "dict"
    | some (.dic 1 _) => T == "dict"
    | _ => false
  | _ => false
theorem isTy_tyV {cl : Cl} {K : PySem.W.Frag} {m : List Addr} {S : Sto} {H : Hp} {T : String} {d : D} {v : V} (rs : RS cl K m S H) (rv : RV K m H d v) (h : isTy T d S = true) : tyV K T v H := by
  unfold isTy at h
  split at h
  · cases rv; exact eq_of_beq h
  · obtain ⟨a, vs, rfl, s1, r1⟩ := rv
    exact .inl ⟨eq_of_beq h, vs, s1.sq⟩
  · rename_i l
    split at h
    · rename_i ds e1
      obtain ⟨a, h1, vs, hv, r1⟩ := rs.adr e1
      obtain ⟨a', h2, rfl⟩ := rv
      rw [h1] at h2; cases h2
      exact .inl ⟨eq_of_beq h, vs, SqL.of hv⟩
    · rename_i kvs e1
      obtain ⟨a, h1, gs, hv, r1⟩ := rs.adr e1
      obtain ⟨a', h2, rfl⟩ := rv
      rw [h1] at h2; cases h2
      exact .inr (.inr (.inl ⟨eq_of_beq h, .inl ⟨gs, hv⟩⟩))
    · rename_i kvs e1
      obtain ⟨a, h1, gs, hv, r1⟩ := rs.adr e1
      obtain ⟨a', h2, rfl⟩ := rv
      rw [h1] at h2; cases h2
      exact .inr (.inr (.inl ⟨eq_of_beq h, .inr ⟨gs, hv⟩⟩))
    · cases h
  · cases h
def MthD (cl : Cl) (X : Cx) (id : String) (g : D → List D → Sto → Res D) : Prop :=
  ∃ r, MtR X id r ∧ ∀ (E : XK) m S H d ds v vs Q, RS cl X.K m S H → RV X.K m H d v → RVs X.K m H ds vs → Post cl X.K (RV X.K) m H E Q (g d ds S) → r v vs H Q
def dBm (T : String) (g : D → List D → Sto → Res D) (fo : Sl → Sto → Res D) (fs : Sl → Sto → Res (List D)) : Sl → Sto → Res D := fun sd S => (fo sd S).bind fun d S1 => if isTy T d S1 then (fs sd S1).bind fun ds S2 => g d ds S2 else .stuck
section
variable {cl : Cl} {X : Cx} {E : XK} {o e : Expr} {es : List Expr} {fo : Sl → Sto → Res D} {fs : Sl → Sto → Res (List D)} {name : Str} {apos cpos : Pos} {T id : String} {g : D → List D → Sto → Res D}
theorem de_bm (pa : PlainAttrs T) (slot : Slot T name id) (hty : typeOf (.builtin id) = pure (.type "method_descriptor")) (hm : MthD cl X id g) (ho : DE cl X E o fo) (ha : DA cl X E (e :: es) fs)
    (hbase : attributeBase o name X.env (eval o X.env) = eval o X.env := by rfl)
    (hfew : ((backTo cpos (starEach (e :: es) X.env)).all (fun x => !x.1) && (backToKw cpos (keywordEach [] X.env)).all (fun x => x.1.isSome)
      && decide ((e :: es).length + ([] : List Keyword).length + (if ([] : List Keyword).isEmpty then 0 else 1) < 30)) = true := by rfl)
    (hline : (apos.endLine == cpos.line) = true := by rfl) (hs : starEach (e :: es) X.env = (false, eval e X.env) :: starEach es X.env := by rfl) (hplain : (backTo cpos (starEach es X.env)).any (·.1) = false := by rfl) :
    DE cl X E (.Call (.Attribute o name apos) (e :: es) [] cpos) (dBm T g fo fs) := by
  obtain ⟨r, hm, hr⟩ := hm
  obtain ⟨t, p, ho⟩ := ho
  obtain ⟨u, q, ha⟩ := ha
  refine ⟨_, pe_bm pa slot hty hm p q hbase hfew hline hs hplain, fun m S H sd σ Q rs rl h => ?_⟩
  refine ho m S H sd σ _ rs rl (Post.bind h fun d S1 m1 v H1 x1 k1 rs1 rv h1 => ?_)
  split at h1
  · rename_i ht
    refine ⟨isTy_tyV rs1 rv ht, ?_⟩
    refine ha m1 S1 H1 sd σ _ rs1 (rl.mono x1 k1) (Post.bind h1 fun ds S2 m2 vs H2 x2 k2 rs2 rv2 h2 => ?_)
    exact hr E m2 S2 H2 d ds v vs Q rs2 (RV.mono x2 k2 d rv) rv2 h2
  · exact h1.elim
theorem lst_at {m : List Addr} {S : Sto} {H : Hp} {l : Nat} {xs : List D} {v : V} {K : PySem.W.Frag} (rs : RS cl K m S H) (e : S[l]? = some (.lst xs)) (rv : RV K m H (.ref l) v) : ∃ a vs, m[l]? = some a ∧ v = .ref a ∧ H a = some (.lst vs) ∧ RVs K m H xs vs := by
  obtain ⟨a, h1, vs, hv, r1⟩ := rs.adr e
  obtain ⟨a', h2, rfl⟩ := rv
  rw [h1] at h2; cases h2
  exact ⟨a, vs, h1, rfl, hv, r1⟩
theorem put_lst {m : List Addr} {S : Sto} {H : Hp} {l : Nat} {xs ys : List D} {ws : List V} {a : Addr} {d : D} {v : V} {Q : VK} {K : PySem.W.Frag} (rs : RS cl K m S H) (e : S[l]? = some (.lst xs)) (hm : m[l]? = some a) (r : RVs K m H ys ws) (rv : RV K m H d v)
    (h : Post cl K (RV K) m H E Q (.ok d (S.set l (.lst ys)))) : Q v (upd H a (.lst ws)) := by
  have kp := rs.keepPut (u := .lst ws) e hm
  exact h m _ _ (Ext.refl _) kp (rs.put e hm ⟨ws, upd_same, r.mono (Ext.refl _) kp⟩) (RV.mono (Ext.refl _) kp d rv)
def appendD : D → List D → Sto → Res D
  | .ref l, [y], S => match S[l]? with
    | some (.lst xs) => if xs.length < sizeLine then .ok .non (S.set l (.lst (xs ++ [y]))) else .stuck
    | _ => .stuck
  | _, _, _ => .stuck
theorem md_append : MthD cl X "list.append" appendD := by
  refine ⟨_, mt_append, fun E m S H d ds v vs Q rs rv rvs h => ?_⟩
  unfold appendD at h
  split at h
  · rename_i l y
    obtain ⟨w, rfl, rw'⟩ := rvs1 rvs
    split at h
    · rename_i xs e1
      split at h
      · rename_i hz
        obtain ⟨a, us, hm, rfl, hv, r1⟩ := lst_at rs e1 rv
        exact ⟨a, us, w, rfl, rfl, hv, by rw [← r1.length]; exact hz, put_lst (d := .non) rs e1 hm (r1.snoc rw') rfl h⟩
      · exact h.elim
    · exact h.elim
  · exact h.elim
def strsD : List D → Option (List Str)
  | [] => some []
  | .str x :: r => (strsD r).map (x :: ·)
  | _ => none
theorem strsD_rv {K : PySem.W.Frag} {m : List Addr} {H : Hp} : ∀ {ds : List D} {vs : List V} {ys : List Str}, RVs K m H ds vs → strsD ds = some ys → vs = ys.map V.str
  | [], _, _, r, e => by cases r; cases e; rfl
  | .str x :: ds, _, _, ⟨v, vs', e, r, t⟩, h => by
    subst e
    cases r
    obtain ⟨zs, e1, rfl⟩ := Option.map_eq_some_iff.mp h
    rw [strsD_rv t e1]; rfl
  | .non :: _, _, _, _, h => by cases h
  | .bl _ :: _, _, _, _, h => by cases h
  | .int _ :: _, _, _, _, h => by cases h
  | .tup _ :: _, _, _, _, h => by cases h
  | .frl _ :: _, _, _, _, h => by cases h
  | .ref _ :: _, _, _, _, h => by cases h
  | .exn _ _ _ _ :: _, _, _, _, h => by cases h
def joinD : D → List D → Sto → Res D
  | .str a, [d], S => match seqD d S with
    | some ds => match strsD ds with
      | some ys => if (ys.map (·.length)).sum + ys.length * a.length ≤ 16777216 then .ok (.str (Txt.join a ys)) S else .stuck
      | none => .stuck
    | none => .stuck
  | _, _, _ => .stuck
theorem md_join : MthD cl X "str.join" joinD := by
  refine ⟨_, mt_join, fun E m S H d ds v vs Q rs rv rvs h => ?_⟩
  unfold joinD at h
  split at h
  · rename_i a d
    obtain ⟨w, rfl, rw'⟩ := rvs1 rvs
    cases rv
    split at h
    · rename_i es e1
      split at h
      · rename_i ys e2
        split at h
        · rename_i hz
          obtain ⟨p, us, rfl, hs, r1⟩ := seq_rv rs rw' e1
          have e3 := strsD_rv r1 e2
          subst e3
          exact ⟨a, p, ys, rfl, rfl, hs, hz, h.here rs rfl⟩
        · exact h.elim
      · exact h.elim
    · exact h.elim
  · exact h.elim
def indexD : D → List D → Sto → Res D
  | d, [y], S => match lsD d S with
    | some xs => match toP S 60 y, mapO (toP S 60) xs with
      | some p, some ps => if SeqAt.shaped p && SeqAt.shaped (.list ps) then (match ps.findIdx? fun z => PyData.eqv z p with
        | some j => .ok (.int (j : Nat)) S
        | none => .stuck) else .stuck
      | _, _ => .stuck
    | _ => .stuck
  | _, _, _ => .stuck
theorem md_index (hu : X.A.units + 65 < cLine) : MthD cl X "list.index" indexD := by
  refine ⟨_, mt_indexD hu, fun E m S H d ds v vs Q rs rv rvs h => ?_⟩
  unfold indexD at h
  split at h
  · rename_i l y
    obtain ⟨w, rfl, rw'⟩ := rvs1 rvs
    split at h
    · rename_i xs e1
      split at h
      · rename_i p ps ep eps
        split at h
        · rename_i hz
          rw [Bool.and_eq_true] at hz
          split at h
          · rename_i j ej
            obtain ⟨a, us, rfl, hv, r1⟩ := ls_rv rs rv e1
            obtain ⟨h1, h2, h3⟩ := List.findIdx?_eq_some_iff_getElem.mp ej
            refine ⟨a, w, p, ps, j, ps[j], rfl, rfl, .lst hv (dpAll (toP_dp rs 60) xs ps us eps r1), toP_dp rs 60 y p w ep rw', hz.2, hz.1, by simp [h1], h2, fun k z' hk hz' => ?_, h.here rs rfl⟩
            have hk' : k < ps.length := by omega
            rw [List.getElem?_eq_getElem hk'] at hz'
            cases hz'
            simpa using h3 k hk
          · exact h.elim
        · exact h.elim
      · exact h.elim
    · exact h.elim
  · exact h.elim
theorem mt_countD (hu : X.A.units + 65 < cLine) : MtR X "list.count" (fun x xs H Q => ∃ (a : Addr) (y : V) (d : PyData) (ds : List PyData), x = V.ref a ∧ xs = [y] ∧ Dp X.K H (V.ref a) (.list ds) ∧ Dp X.K H y d ∧
    SeqAt.shaped (.list ds) = true ∧ SeqAt.shaped d = true ∧ Q (.int ((ds.countP fun z => PyData.eqv z d : Nat))) H) := by
  intro pins s σ H x xs v us Q I rx rxs h
  obtain ⟨a, y, d, ds, rfl, rfl, hl, hy, sl, sd, q⟩ := h
  cases rx
  cases rxs with
  | cons ry rt =>
    rename_i uy ut
    cases rt
    obtain ⟨bs, r1⟩ := Dp.reads I d y uy hy ry
    have hxs : PyData.canLayAll0 ds = true := SeqAt.canLay_of_shaped sl
    have hroom : X.A.units + 1 + min (PyData.depthAll ds) d.depth < cLine := room_in_shaped sd hu
    cases hl with
    | lst hs ha =>
      obtain ⟨its, rv, ⟨⟨cls, dd, data, sls⟩, n, ho, hc, hdn, hdt⟩, hlen⟩ := I.list hs
      simp only at hc hdt
      subst hc hdt
      obtain ⟨as, h4⟩ := Dp.readsAll I ds _ its ha rv
      refine SeqAt.count_list_data (vs := its.toArray) ⟨_, ho, rfl, n, rfl⟩ h4 r1 ?_ (PyData.plain_of_canLay0 d (SeqAt.canLay_of_shaped sd)) hroom ⟨.int _, H, I.tok _, ⟨_, rfl⟩, q⟩
      have z : (PyData.list ds).plain = true := PyData.plain_of_canLay0 (.list ds) (SeqAt.canLay_of_shaped sl)
      simpa [PyData.plain] using z
def countD : D → List D → Sto → Res D
  | d, [y], S => match lsD d S with
    | some xs => match toP S 60 y, mapO (toP S 60) xs with
      | some p, some ps => if SeqAt.shaped p && SeqAt.shaped (.list ps) then .ok (.int (ps.countP fun z => PyData.eqv z p : Nat)) S else .stuck
      | _, _ => .stuck
    | _ => .stuck
  | _, _, _ => .stuck
theorem md_count (hu : X.A.units + 65 < cLine) : MthD cl X "list.count" countD := by
  refine ⟨_, mt_countD hu, fun E m S H d ds v vs Q rs rv rvs h => ?_⟩
  unfold countD at h
  split at h
  · rename_i l y
    obtain ⟨w, rfl, rw'⟩ := rvs1 rvs
    split at h
    · rename_i xs e1
      split at h
      · rename_i p ps ep eps
        split at h
        · rename_i hz
          rw [Bool.and_eq_true] at hz
          obtain ⟨a, us, rfl, hv, r1⟩ := ls_rv rs rv e1
          exact ⟨a, w, p, ps, rfl, rfl, .lst hv (dpAll (toP_dp rs 60) xs ps us eps r1), toP_dp rs 60 y p w ep rw', hz.2, hz.1, h.here rs rfl⟩
        · exact h.elim
      · exact h.elim
    · exact h.elim
  · exact h.elim
end
def tyS (d : D) (S : Sto) : Option String := match d with
  | .non => some "NoneType"
  | .bl _ => some "bool"
  | .int _ => some "int"
  | .str _ => some "str"
  | .tup _ => some "tuple"
  | .frl _ => some "list"
  | .ref l => match S[l]? with
    | some (.lst _) => some "list"
    | some (.dic 0 _) => some "dict"
    | some (.dic 1 _) => some "dict"
    | _ => none
  | .exn _ _ _ _ => none
def isT (a b : String) : Bool := a == b || (a == "bool" && b == "int")
def tyOk (t : String) : Bool := ["NoneType", "bool", "int", "str", "tuple", "list", "dict"].contains t
theorem kitB_is {a b : String} (ha : tyOk a = true) (hb : tyOk b = true) : kitB a b = some (isT a b) := by
  have key : ∀ a ∈ ["NoneType", "bool", "int", "str", "tuple", "list", "dict"], ∀ b ∈ ["NoneType", "bool", "int", "str", "tuple", "list", "dict"], kitB a b = some (isT a b) := by decide +kernel
  exact key a (List.contains_iff_mem.mp ha) b (List.contains_iff_mem.mp hb)
theorem tyS_ok {d : D} {S : Sto} {t : String} (h : tyS d S = some t) : tyOk t = true := by
  unfold tyS at h
  split at h
  all_goals first | (cases h; decide) | skip
  split at h
  all_goals first | (cases h; decide) | cases h
theorem tyS_rv {cl : Cl} {K : PySem.W.Frag} {m : List Addr} {S : Sto} {H : Hp} {d : D} {v : V} {t : String} (rs : RS cl K m S H) (rv : RV K m H d v) (h : tyS d S = some t) : TyX K H v (.type t) := by
  unfold tyS at h
  split at h
  · cases h; cases rv; exact .base .non
  · cases h; cases rv; exact .base (.bl _)
  · cases h; cases rv; exact .base (.int _)
  · cases h; cases rv; exact .base (.str _)
  · cases h
    obtain ⟨a, vs, rfl, s1, r1⟩ := rv
    rcases s1 with (s1 | ⟨o, s1⟩) | ⟨o, its, n, h1, h2, h3⟩
    · exact .base (.tup s1)
    · exact .fTuple s1
    · exact .kTuple h1 h2
  · cases h
    obtain ⟨a, vs, rfl, s1, r1⟩ := rv
    rcases s1 with ⟨o, s1⟩ | ⟨o, its, n, h1, h2, h3⟩
    · exact .base (.frz s1)
    · exact .kList h1 h2
  · rename_i l
    split at h
    · rename_i xs e1
      cases h
      obtain ⟨a, us, hm, rfl, hv, r1⟩ := lst_at rs e1 rv
      exact .base (.lst hv)
    · rename_i kvs e1
      cases h
      obtain ⟨a, h1, gs, hv, r1⟩ := rs.adr e1
      obtain ⟨a', h2, rfl⟩ := rv
      rw [h1] at h2; cases h2
      exact .base (.dK hv)
    · rename_i kvs e1
      cases h
      obtain ⟨a, h1, gs, hv, r1⟩ := rs.adr e1
      obtain ⟨a', h2, rfl⟩ := rv
      rw [h1] at h2; cases h2
      exact .base (.dT hv)
    · cases h
  · cases h
def dIsi (ts : List String) (f : Sl → Sto → Res D) : Sl → Sto → Res D := fun sd S => (f sd S).bind fun d S1 => match tyS d S1 with
  | some t => .ok (.bl (ts.any fun b => isT t b)) S1
  | none => .stuck
section
variable {cl : Cl} {X : Cx} {E : XK} {e : Expr} {f : Sl → Sto → Res D} {p p1 p2 p3 p4 pos : Pos}
theorem de_isi {T : String} {n : Str} (hi : Gl X "isinstance") (mi : X.mg "isinstance" = none) (he : DE cl X E e f) (hg : Gl X n) (hm : X.mg n = none) (hv : bootBuiltins n = some (.type T)) (hT : tyOk T = true)
    (hn : n ≠ "__name__" := by decide) (hd : (n == ("__debug__" : Str)) = false := by decide) (hs : starEach [e, .Name n p2] X.env = (false, eval e X.env) :: starEach [.Name n p2] X.env := by rfl) :
    DE cl X E (.Call (.Name "isinstance" p) [e, .Name n p2] [] pos) (dIsi [T] f) := by
  obtain ⟨t, q, he⟩ := he
  have pa := pa_cons q (pa_cons (pe_bltn (v := .ty T) (pos := p2) hg hm hv rfl hn hd) pa_nil) hs
  refine ⟨_, pe_callB call_isi hi mi (by rfl) pa (he := hs), fun m S H sd σ Q rs rl h => ?_⟩
  refine he m S H sd σ _ rs rl (Post.bind h fun d S1 m1 v H1 x1 k1 rs1 rv h1 => ?_)
  split at h1
  · rename_i ty ht
    have h1' : Post cl X.K (RV X.K) m1 H1 E Q (.ok (.bl (isT ty T)) S1) := by
      have e : ([T].any fun b => isT ty b) = isT ty T := by simp
      rw [← e]; exact h1
    exact ⟨v, .ty T, .type ty, .type T, isT ty T, rfl, .ty T, tyS_rv rs1 rv ht, kit_ty (kitB_is (tyS_ok ht) hT), h1'.here rs1 rfl⟩
  · exact h1.elim
theorem de_isi2 {T U : String} {n n' : Str} {k : Nat} (hi : Gl X "isinstance") (mi : X.mg "isinstance" = none) (he : DE cl X E e f) (hg : Gl X n) (hm : X.mg n = none) (hv : bootBuiltins n = some (.type T)) (hT : tyOk T = true)
    (hg' : Gl X n') (hm' : X.mg n' = none) (hv' : bootBuiltins n' = some (.type U)) (hU : tyOk U = true)
    (hn : n ≠ "__name__" := by decide) (hd : (n == ("__debug__" : Str)) = false := by decide) (hn' : n' ≠ "__name__" := by decide) (hd' : (n' == ("__debug__" : Str)) = false := by decide)
    (hs : starEach [e, .Tuple [.Name n p2, .Name n' p3] k p4] X.env = (false, eval e X.env) :: starEach [.Tuple [.Name n p2, .Name n' p3] k p4] X.env := by rfl) :
    DE cl X E (.Call (.Name "isinstance" p) [e, .Tuple [.Name n p2, .Name n' p3] k p4] [] pos) (dIsi [T, U] f) := by
  obtain ⟨t, q, he⟩ := he
  have pt := pe_tup (x1 := k) (pos := p4) (pa_cons (pe_bltn (v := .ty T) (pos := p2) hg hm hv rfl hn hd) (pa_cons (pe_bltn (v := .ty U) (pos := p3) hg' hm' hv' rfl hn' hd') pa_nil))
  have pa := pa_cons q (pa_cons pt pa_nil) hs
  refine ⟨_, pe_callB call_isiT hi mi (by rfl) pa (he := hs), fun m S H sd σ Q rs rl h => ?_⟩
  refine he m S H sd σ _ rs rl (Post.bind h fun d S1 m1 v H1 x1 k1 rs1 rv h1 => ?_)
  split at h1
  · rename_i ty ht
    have hk : PySem.W.kitAny X.K (.type ty) [.type T, .type U] = some ([T, U].any fun b => isT ty b) := by
      refine kitAny_cons (kit_ty (kitB_is (tyS_ok ht) hT)) (fun hb => kitAny_cons (kit_ty (kitB_is (tyS_ok ht) hU)) (fun hc => ?_) (fun hc => ?_)) (fun hb => ?_)
      · rw [kitAny_nil]; simp [hb, hc]
      · simp [hc]
      · simp [hb]
    refine ⟨by rw [sizeLine_eq]; show 2 ≤ _; decide, fun a na => ?_⟩
    have hk2 := Keep.new (H := H1) (o := .tup [V.ty T, V.ty U]) na
    exact ⟨v, a, [.ty T, .ty U], .type ty, [.type T, .type U], _, rfl, upd_same, .cons (.ty T) (.cons (.ty U) .nil), tyS_rv (rs1.ext na) (RV.mono (Ext.refl _) hk2 d rv) ht, hk, h1 m1 _ _ (Ext.refl _) hk2 (rs1.ext na) rfl⟩
  · exact h1.elim
end
end DL

namespace DL
open PySem PySem.Spec PyProof.Rows L2
def frU (n : Nat) (g : Addr → Option Obj) : PySem.W.Frag := He.frT g (cStatics :: He.asD g n)
structure TabF (K : PySem.W.Frag) (h : Heap) (tf : List He.Defn) : Prop where
  hd : ∀ p ∈ tf, PySem.W.codeHdIn K (He.cT K p).1 (He.cT K p).2 = true
  out : ∀ p ∈ tf, K.lookup (He.cT K p).2 = none
  empty : ∀ p ∈ tf, h.get? (He.cT K p).2 = some { cls := .none, data := .fields #[] }
def obU (n : Nat) (fa : List He.Fa) (fn : List He.DefD) (tf : List He.Defn) (ex : PySem.W.Frag → Bool) (g : Addr → Option Obj) : He.AlD × Bool := (He.obsD fa fn (frU n g), ex (frU n g) && He.tabsB g tf (frU n g))
theorem tabF_of {n : Nat} {tf : List He.Defn} {h : Heap} (e : He.tabsB h.get? tf (frU n h.get?) = true) : TabF (frU n h.get?) h tf := by
  have key : ∀ p ∈ tf, PySem.W.codeHdIn (frU n h.get?) (He.cT (frU n h.get?) p).1 (He.cT (frU n h.get?) p).2 = true ∧ ∃ o, h.get? (He.cT (frU n h.get?) p).2 = some o ∧ He.emptyTab o = true := fun p hp => by
    have z := List.all_eq_true.mp e p hp
    rw [Bool.and_eq_true] at z
    refine ⟨z.1, ?_⟩
    have z2 := z.2
    split at z2
    · rename_i o q
      exact ⟨o, q, z2⟩
    · cases z2
  refine ⟨fun p hp => (key p hp).1, fun p hp => ?_, fun p hp => ?_⟩
  · obtain ⟨_, o, q, z⟩ := key p hp
    exact He.frT_none q z
  · obtain ⟨_, o, q, z⟩ := key p hp
    rw [q, He.emptyTab_eq z]
theorem FunD.okC {P : Program} {w : World} {K : PySem.W.Frag} {mg : Str → Option Value} {base : Heap} {x qual : Str} {params : Arguments} {body : List Stmt} {scope : Scope} {dvs : List V} {kws : List (Str × V)} {pd : He.Defn} {fd : FuncData} {CX : CXT} {N ps : List Str} {k : Nat} {sp : Sp}
    (F : FunD K x qual params body scope dvs kws (He.fAd K pd) fd) (S : FnScope N ps scope) (len : ∀ vs H Q E, sp vs H Q E → vs.length = ps.length)
    (hbody : ∀ (A : Around) (outer : List Env) (s : Shared) (H : Hp) (vs : List V) (Q : VK) (E : XK), Room k (A.deeper (envOfC qual scope s.heap.objs.size (He.fAd K pd) (.ref (He.cT K pd).1))) → sp vs H Q E →
      ∃ t, PSs (cxOf CX P w K mg base N qual scope (He.fAd K pd) (.ref (He.cT K pd).1) A outer s H E) body t ∧ t { nx := fun _ H' => Q .non H', rt := Q } (L2.start N vs) H) : FnOk P w K mg base CX (k + 1) (He.fAd K pd) fd ps sp := by
  obtain ⟨oc, od, dV, kV, doc, pm, an, cdv, ct, osl, rfl, lk, hcd, _, _⟩ := F.ex
  obtain ⟨c, rfl⟩ := He.codeIn_ref hcd
  have e : He.codeOf K pd = c := He.codeOf_eq lk rfl
  refine fn_of lk hcd S len fun A outer s H vs Q E hr hsp => ?_
  subst e
  exact hbody A outer s H vs Q E hr hsp
theorem body_run {P : Program} {w : World} {cl : Cl} {K : PySem.W.Frag} {mg : Str → Option Value} {base : Heap} {f : Addr} {qual : Str} {body : List Stmt} {scope : Scope} {N : List Str} {n : Nat} {Fb : Sl → Sto → Res Fl} {cdv : Value} {A : Around} {outer : List Env} {s : Shared} {H : Hp} {vs : List V} {Q : VK} {E : XK}
    (hb : DSs cl (cxOf (L2.CX P w) P w K mg base N qual scope f cdv A outer s H E) E body Fb) (h : spD cl K n (dFn N.length Fb) vs H Q E) :
    ∃ t, PSs (cxOf (L2.CX P w) P w K mg base N qual scope f cdv A outer s H E) body t ∧ t { nx := fun _ H' => Q .non H', rt := Q } (L2.start N vs) H := by
  obtain ⟨m, St, ds, hl, rs, rv, h⟩ := h
  obtain ⟨t, p, hh⟩ := hb
  refine ⟨t, p, hh m St H (startD N.length ds) (L2.start N vs) _ rs (start_rl rv) ?_⟩
  unfold dFn at h
  cases hres : Fb (startD N.length ds) St with
  | ok fl S1 =>
    rw [hres] at h
    intro m1 v H1 x1 k1 rs1 rv1
    cases fl with
    | nx sd =>
      cases v with
      | nx σ1 => exact h m1 .non H1 x1 k1 rs1 rfl
      | _ => exact rv1.elim
    | ret d =>
      cases v with
      | ret u => exact h m1 u H1 x1 k1 rs1 rv1
      | _ => exact rv1.elim
    | brk sd => exact h.elim
    | cnt sd => exact h.elim
  | exc x S1 =>
    rw [hres] at h
    exact h
  | stuck =>
    rw [hres] at h
    exact h.elim
theorem rs_extN {cl : Cl} {K : PySem.W.Frag} {m : List Addr} {S : Sto} {H H1 : Hp} (r : RS cl K m S H) (e : LamX.ExtN H H1) (t : LamX.Tabs cl.T H1) : RS cl K m S H1 ∧ Keep H H1 := by
  have kp : Keep H H1 := fun a o h i => e a o h fun ps z => by subst z; exact imm_tbl i
  refine ⟨⟨r.len, r.nd, fun l o a h1 h2 => ?_, t⟩, kp⟩
  obtain ⟨u, hu, ow⟩ := (r.obj l o a h1 h2).any
  exact (r.obj l o a h1 h2).mono (Ext.refl m) kp (by rw [e a u hu ow.1, hu])
def dKind (Fx : Exc → Sto → Res D) (fb : Sl → Sto → Res D) : Sl → Sto → Res D := fun sd S => match fb sd S with
  | .ok d S1 => .ok d S1
  | .exc x S1 => (match Fx x S1 with
    | .ok d S2 => .ok d S2
    | _ => .stuck)
  | .stuck => .stuck
def TKind (cl : Cl) (K : PySem.W.Frag) (Fx : Exc → Sto → Res D) : (XK → Hp → VK → Prop) → Hp → VK → Prop := fun tl H Q =>
  tl (fun cls d H' => ∃ (q : Exc) (m : List Addr) (S : Sto), cls = .ref (cl q.c) ∧ RS cl K m S H' ∧ RX K m H' q d ∧ Post cl K (RV K) m H' C8.E0 Q (Fx q S)) H Q
theorem de_kind {cl : Cl} {X : Cx} {E : XK} {x a : Str} {g c P : Addr} {k : Nat} {pg : Arguments} {bg : List Stmt} {sg : Scope} {fd : FuncData} {Ng : List Str} {params : Arguments} {body : Expr} {scope : Scope} {p lpos pos : Pos} {fb : Sl → Sto → Res D} {Fx : Exc → Sto → Res D}
    (co : Cok X E (k + 2)) (hg : Gl X x) (hm : X.mg x = some (.ref g)) (Fu : FunD X.K x x pg bg sg [] [] g fd) (Sg : FnScope Ng [a] sg)
    (hb : ∀ (kV doc pm : Value) (an : Option Addr) (cdv ct : Value) (us : List Value), us.length = [a].length → bindArgs (PySem.W.fnOf x x pg bg sg .none kV doc pm an cdv ct) ⟨us, []⟩ = pure ([a].zip us)) (hNg : Ng[0]? = some a) (hva : Vis sg a)
    (hG : ∀ cdv, LamX.GivesTo X Ng x sg g cdv bg a (X.env.qual ++ "<lambda>") (TKind cl X.K Fx))
    (TB : LamX.TabB X.base X.mg c P) (hcode : X.env.code = .ref c) (hmT : (P, X.env.qual ++ "<lambda>") ∈ cl.T) (hu : ∀ p ∈ cl.T, p.1 = P → p.2 = X.env.qual ++ "<lambda>") (L : LamX.LamS X.env.scope scope) (hdef : defaultsOf params X.env = ([], []))
    (hbind : ∀ (q : Str) (cl : List (Str × Addr)) (pm cv ctv : Value), bindArgs (PySem.W.kla_fn "<lambda>" q params body scope cl pm cv ctv) ⟨[], []⟩ = pure [])
    (hbody : ∀ (A : Around) (outer : List Env) (s : Shared) (H : Hp) (E : XK) (f c' : Addr), Cok (LamX.lamCx X A outer s H E scope f c') E k → DE cl (LamX.lamCx X A outer s H E scope f c') E body fb)
    (hdb : (x == ("__debug__" : Str)) = false := by decide) (hd : (a == ("__debug__" : Str)) = false := by decide) (hcd : (a == ("__classdict__" : Str)) = false := by decide) :
    DE cl X E (.Call (.Name x p) [.Lambda params body scope lpos] [] pos) (dKind Fx fb) := by
  have hB : Binds X.K fd [a] [] := Fu.bindsN hb
  have hkp := Fu.kp
  obtain ⟨oc, od, dV, kV, doc, pm, an, cdv, ct, osl, rfl, lk, hcc, _, _⟩ := Fu.ex
  let t : XK → TE := fun E' σ H Q => ∃ m S sd, RS cl X.K m S H ∧ RSl X.K m H sd σ ∧ Post cl X.K (RV X.K) m H E' Q (fb sd S)
  refine ⟨_, LamX.pe_lamcall (T := cl.T) (TT := TKind cl X.K Fx) (t := t) (k := k) hg hm hkp lk hcc hB Sg hNg hva (hG cdv) TB hcode hmT hu co.hr L hdef hbind (fun A outer s H E' f c' hr => ?_) hdb hd hcd, fun m S H sd σ Q rs rl h => ?_⟩
  · have tk : Takes (LamX.lamCx X A outer s H E' scope f c') (fun cls d _ H => E' cls d H) := takes_of rfl rfl rfl rfl
    obtain ⟨t', p', hh⟩ := hbody A outer s H E' f c' ⟨rfl, passes_call tk fun _ _ _ _ h => h, tk, passes_of rfl, hr, co.nd⟩
    refine ⟨fun pins s' σ H' Q I h => ?_⟩
    obtain ⟨m, S, sd, rs, rl, h⟩ := h
    exact p'.run pins s' σ H' Q I (hh m S H' sd σ Q rs rl h)
  · refine ⟨rs.tb, fun H1 e1 t1 => ?_⟩
    obtain ⟨rs1, kp⟩ := rs_extN rs e1 t1
    refine ⟨m, S, sd, rs1, rl.mono (Ext.refl _) kp, ?_⟩
    unfold dKind at h
    cases hres : fb sd S with
    | ok d S1 =>
      rw [hres] at h
      exact Post.mono (Ext.refl _) kp h
    | exc q S1 =>
      rw [hres] at h
      dsimp only at h
      intro m' dd H' x' k' rs' rx
      refine ⟨q, m', S1, rfl, rs', rx, ?_⟩
      cases hq : Fx q S1 with
      | ok d S2 =>
        rw [hq] at h
        exact Post.mono x' (kp.trans k') h
      | exc y S2 => rw [hq] at h; exact h.elim
      | stuck => rw [hq] at h; exact h.elim
    | stuck =>
      rw [hres] at h
      exact h.elim
theorem kind_gives {cl : Cl} {X : Cx} {Ng : List Str} {x a eN n q0 : Str} {sg : Scope} {g C0 : Addr} {cdg : Value} {i : Nat} {b₀ : Stmt} {suite : List Stmt} {p1 p2 p3 p4 p7 p8 : Pos} {Fx : Exc → Sto → Res D} {suF : Exc → Addr → Option Addr → Sl → Sto → Res Fl} {ok : Exc → Prop}
    (hge : sg.names.lookup eN = some .globalImplicit) (hme : X.mg eN = some (.ref C0)) (hde : (eN == ("__debug__" : Str)) = false) (h0 : ∀ f : Addr, (L2.start Ng [V.ref f])[0]? = some (some (V.ref f))) (hN : Ng.Nodup) (hi : Ng[i]? = some n) (hln : sg.names.lookup n = some .local)
    (hex : ∀ (q : Exc) (S : Sto), Fx q S ≠ .stuck → ok q ∧ PySem.W.exmOne X.K (.ref (cl q.c)) (.ref C0) = some true ∧ q.fs ≠ some [])
    (hsu : ∀ (s : Shared) (H : Hp) (q : Exc) (a' : Addr) (oe : Obj) (d : Option Addr) (pn : List (Addr × Obj)), ok q → ExOk d q → Zc (.ref (cl q.c)) d oe → (∃ vs, oe.data = .fields vs) →
      DSs cl ((cxOf C8.CX0 X.prog X.w X.K X.mg X.base Ng x sg g cdg X.A X.stack s H C8.E0).nox.suite a' ((a', oe) :: pn)) C8.E0 (b₀ :: suite) (suF q a' d))
    (hF : ∀ (q : Exc) (a' : Addr) (d : Option Addr) (S : Sto), Fx q S ≠ .stuck → ExOk d q → suF q a' d (exSl Ng.length i (excD a' (d.getD 0) q)) S = (Fx q S).bind fun d S2 => .ok (.ret d) S2) :
    LamX.GivesTo X Ng x sg g cdg [.Try [.Return (some (.Call (.Name a p1) [] [] p2)) p3] [.ExceptHandler (some (.Name eN p4)) (some n) (b₀ :: suite) p7] [] [] p8] a q0 (TKind cl X.K Fx) := by
  intro f c' s H Q tl act hc h
  have hgl : Gl (cxOf C8.CX0 X.prog X.w X.K X.mg X.base Ng x sg g cdg X.A X.stack s H C8.E0).nox eN := hge
  let ts : Addr → Value → Option Addr → TS := fun a' cls d D σ H => ∃ (q : Exc) (m : List Addr) (S : Sto) (sd : Sl), cls = .ref (cl q.c) ∧ ok q ∧ ExOk d q ∧ RS cl X.K m S H ∧ RSl X.K m H sd σ ∧ Post cl X.K (RFl X.K) m H C8.E0 (endQ D) (suF q a' d sd S)
  refine ⟨_, pss_one (ps_try_as (X := (cxOf C8.CX0 X.prog X.w X.K X.mg X.base Ng x sg g cdg X.A X.stack s H C8.E0).nox) (c := .ref C0) (i := i)
      (tb := fun W D σ H => ∃ Ech : XK, (∀ cls d H', Ech cls d H' → ∀ σ' : L2.St, σ'.length = Ng.length → W cls d σ' H') ∧ σ[0]? = some (some (.ref f)) ∧ H c' = some (LamX.CodeO c' q0) ∧ tl Ech H D.rt) (ts := ts) (Wout := fun _ _ _ _ => False)
      rfl rfl hN hi hln ⟨hgl, hde, .inl hme⟩ LamX.takes0 (fun W pn xe tk _ => ?_) (fun a' oe cls d pn hz hd => ?_)), ?_⟩
  · refine ⟨fun pins s' σ H' D I h' => ?_⟩
    obtain ⟨Ech, hW, h1, h2, h3⟩ := h'
    have hp := act (fun cls d _ H => ∀ σ' : L2.St, σ'.length = Ng.length → W cls d σ' H) pn xe Ech p1 p2 (takes_all tk) (fun cls d σ' H' e => hW cls d H' e)
    exact (pss_one (ps_ret (pos := p3) hp)).run pins s' σ H' D I ⟨h1, h2, h3⟩
  · refine ⟨fun pins s' σ H' D I h' => ?_⟩
    obtain ⟨q, m, S, sd, rfl, hq, hok, rs, rl, h'⟩ := h'
    obtain ⟨t, p, hh⟩ := hsu s H q a' oe d pn hq hok hz hd
    exact p.run pins s' σ H' D I (hh m S H' sd σ D rs rl h')
  · refine ⟨_, fun cls d H' hE σ1 hσ => ?_, h0 f, hc, h⟩
    obtain ⟨q, m1, S1, rfl, rs1, rx, hp⟩ := hE
    have hns : Fx q S1 ≠ .stuck := fun z => by rw [z] at hp; exact hp.elim
    obtain ⟨hokq, hexm, hne⟩ := hex q S1 hns
    refine ⟨true, hexm, fun _ a' na => ?_, fun z => Bool.noConfusion z⟩
    have hok : ExOk d q := by
      unfold ExOk
      unfold RX at rx
      split at rx
      · rename_i e; try rw [e]
        exact rx
      · rename_i fs e
        try rw [e]
        obtain ⟨dd, gs, rfl, _⟩ := rx
        exact ⟨rfl, fun z => hne (by rw [e, z])⟩
    refine ⟨q, m1, S1, exSl Ng.length i (excD a' (d.getD 0) q), rfl, hokq, hok, rs1, ⟨?_, fun j d' e => ?_⟩, ?_⟩
    · simp [exSl, hσ]
    · unfold exSl at e
      by_cases hj : j = i
      · subst hj
        by_cases hlt : j < Ng.length
        · rw [List.getElem?_set_self (by simpa using hlt)] at e
          cases e
          exact ⟨.ref a', by rw [List.getElem?_set_self (by rw [hσ]; exact hlt)], excD_rv a' rx⟩
        · rw [List.getElem?_eq_none (by simpa using hlt)] at e; cases e
      · rw [List.getElem?_set_ne (Ne.symm hj), List.getElem?_replicate] at e
        split at e <;> cases e
    · rw [hF q a' d S1 hns hok]
      cases hr : Fx q S1 with
      | stuck => exact absurd hr hns
      | exc y S2 => rw [hr] at hp; exact hp
      | ok r S2 =>
        rw [hr] at hp
        intro m2 v H2 x2 k2 rs2 rv2
        cases v with
        | ret u => exact hp m2 u H2 x2 k2 rs2 rv2
        | _ => exact rv2.elim
theorem inj_map {α β : Type} {f : α → β} : ∀ {l : List α}, (l.map f).Nodup → ∀ a ∈ l, ∀ b ∈ l, f a = f b → a = b
  | [], _, a, ha, _, _, _ => nomatch ha
  | x :: l, hn, a, ha, b, hb, e => by
    rw [List.map_cons, List.nodup_cons] at hn
    rcases List.mem_cons.mp ha with ea | ha' <;> rcases List.mem_cons.mp hb with eb | hb'
    · rw [ea, eb]
    · exact absurd (List.mem_map.mpr ⟨b, hb', by rw [← e, ea]⟩) hn.1
    · exact absurd (List.mem_map.mpr ⟨a, ha', by rw [e, eb]⟩) hn.1
    · exact inj_map hn.2 a ha' b hb' e
def tabsQ (K : PySem.W.Frag) (tq : List (He.Defn × Str)) : List (Addr × Str) := tq.map fun p => ((He.cT K p.1).2, p.2 ++ ".<locals>." ++ "<lambda>")
def tabU (K : PySem.W.Frag) (tq : List (He.Defn × Str)) : Bool := decide (tq.map fun p => (He.cT K p.1).2).Nodup
theorem tab_mem {K : PySem.W.Frag} {tq : List (He.Defn × Str)} {p : He.Defn × Str} (hp : p ∈ tq) : ((He.cT K p.1).2, p.2 ++ ".<locals>." ++ "<lambda>") ∈ tabsQ K tq := List.mem_map.mpr ⟨p, hp, rfl⟩
theorem tab_uniq {K : PySem.W.Frag} {tq : List (He.Defn × Str)} (h : tabU K tq = true) {p : He.Defn × Str} (hp : p ∈ tq) : ∀ r ∈ tabsQ K tq, r.1 = (He.cT K p.1).2 → r.2 = p.2 ++ ".<locals>." ++ "<lambda>" := fun r hr e => by
  obtain ⟨q, hq, rfl⟩ := List.mem_map.mp hr
  have := inj_map (of_decide_eq_true h) q hq p hp e
  rw [this]
theorem tab_tf {K : PySem.W.Frag} {tq : List (He.Defn × Str)} : ∀ r ∈ tabsQ K tq, ∃ t ∈ tq.map Prod.fst, r.1 = (He.cT K t).2 := fun r hr => by
  obtain ⟨q, hq, rfl⟩ := List.mem_map.mp hr
  exact ⟨q.1, List.mem_map.mpr ⟨q, hq, rfl⟩, rfl⟩
end DL

namespace DL
open PySem PySem.Spec PyProof.Rows L2
mutual
def D.blw (n : Nat) : D → Bool
  | .tup ds => D.blws n ds
  | .frl ds => D.blws n ds
  | .ref l => decide (l < n)
  | .exn _ _ _ ds => D.blws n ds
  | .non => true
  | .bl _ => true
  | .int _ => true
  | .str _ => true
def D.blws (n : Nat) : List D → Bool
  | [] => true
  | d :: ds => D.blw n d && D.blws n ds
end
def DO.blw (n : Nat) : DO → Bool
  | .lst ds => D.blws n ds
  | .dic _ kvs => kvs.all fun p => p.2.blw n
  | .ins _ fs => fs.all fun p => p.2.blw n
  | .dead => true
section
variable {cl : Cl} {K : PySem.W.Frag} {m : List Addr} {H : Hp} {n : Nat}
mutual
theorem RV.cut : ∀ (d : D) {v : V}, RV K m H d v → d.blw n = true → RV K (m.take n) H d v
  | .non, _, h, _ => h
  | .bl _, _, h, _ => h
  | .int _, _, h, _ => h
  | .str _, _, h, _ => h
  | .tup ds, _, ⟨a, vs, e, s, r⟩, b => ⟨a, vs, e, s, RVs.cut ds r b⟩
  | .frl ds, _, ⟨a, vs, e, s, r⟩, b => ⟨a, vs, e, s, RVs.cut ds r b⟩
  | .ref l, _, ⟨a, e, r⟩, b => ⟨a, by rw [List.getElem?_take_of_lt (of_decide_eq_true b)]; exact e, r⟩
  | .exn a dd ns ds, _, ⟨e, vs, r, h⟩, b => ⟨e, vs, RVs.cut ds r b, h⟩
theorem RVs.cut : ∀ (ds : List D) {vs : List V}, RVs K m H ds vs → D.blws n ds = true → RVs K (m.take n) H ds vs
  | [], _, h, _ => h
  | d :: ds, _, ⟨v, vs', e, r, t⟩, b => by
    have b' : (D.blw n d && D.blws n ds) = true := b
    rw [Bool.and_eq_true] at b'
    exact ⟨v, vs', e, RV.cut d r b'.1, RVs.cut ds t b'.2⟩
end
mutual
theorem RV.isBelow : ∀ (d : D) {v : V}, RV K m H d v → d.blw m.length = true
  | .non, _, _ => rfl
  | .bl _, _, _ => rfl
  | .int _, _, _ => rfl
  | .str _, _, _ => rfl
  | .tup ds, _, ⟨_, _, _, _, r⟩ => RVs.isBelow ds r
  | .frl ds, _, ⟨_, _, _, _, r⟩ => RVs.isBelow ds r
  | .ref l, _, ⟨a, e, _⟩ => decide_eq_true (List.getElem?_eq_some_iff.mp e).1
  | .exn a dd ns ds, _, ⟨_, _, r, _⟩ => RVs.isBelow ds r
theorem RVs.isBelow : ∀ (ds : List D) {vs : List V}, RVs K m H ds vs → D.blws m.length ds = true
  | [], _, _ => rfl
  | d :: ds, _, ⟨v, vs', e, r, t⟩ => by
    show (D.blw m.length d && D.blws m.length ds) = true
    rw [RV.isBelow d r, RVs.isBelow ds t]; rfl
end
theorem RF.cut : ∀ {fs : List (Str × D)} {gs : List (Str × V)}, RF K m H fs gs → (fs.all fun p => p.2.blw n) = true → RF K (m.take n) H fs gs
  | [], _, h, _ => h
  | p :: fs, _, ⟨v, gs', e, r, t⟩, b => by
    rw [List.all_cons, Bool.and_eq_true] at b
    exact ⟨v, gs', e, RV.cut _ r b.1, RF.cut t b.2⟩
theorem RD0.cut : ∀ {fs : List (D × D)} {gs : List (Key × V)}, RD0 K m H fs gs → (fs.all fun p => p.2.blw n) = true → RD0 K (m.take n) H fs gs
  | [], _, h, _ => h
  | p :: fs, _, ⟨q, v, gs', e, hk, r, t⟩, b => by
    rw [List.all_cons, Bool.and_eq_true] at b
    exact ⟨q, v, gs', e, hk, RV.cut _ r b.1, RD0.cut t b.2⟩
theorem RD1.cut : ∀ {fs : List (D × D)} {gs : List (List Key × V)}, RD1 K m H fs gs → (fs.all fun p => p.2.blw n) = true → RD1 K (m.take n) H fs gs
  | [], _, h, _ => h
  | p :: fs, _, ⟨q, v, gs', e, hk, r, t⟩, b => by
    rw [List.all_cons, Bool.and_eq_true] at b
    exact ⟨q, v, gs', e, hk, RV.cut _ r b.1, RD1.cut t b.2⟩
mutual
theorem nkey_blw {n : Nat} : ∀ (d : D) {k : NestedKey}, nkey d = some k → d.blw n = true
  | .non, _, _ => rfl
  | .int _, _, _ => rfl
  | .str _, _, _ => rfl
  | .tup ds, _, h => by
    unfold nkey at h
    cases e : nkeys ds with
    | none => rw [e] at h; cases h
    | some ks => exact nkeys_blw ds e
  | .bl _, _, h => by cases h
  | .frl _, _, h => by cases h
  | .ref _, _, h => by cases h
  | .exn _ _ _ _, _, h => by cases h
theorem nkeys_blw {n : Nat} : ∀ (ds : List D) {ks : List NestedKey}, nkeys ds = some ks → D.blws n ds = true
  | [], _, _ => rfl
  | d :: ds, _, h => by
    unfold nkeys at h
    cases e : nkey d with
    | none => rw [e] at h; cases h
    | some k =>
      cases e2 : nkeys ds with
      | none => rw [e, e2] at h; cases h
      | some ks =>
        show (D.blw n d && D.blws n ds) = true
        rw [nkey_blw d e, nkeys_blw ds e2]; rfl
end
theorem RD2.cut : ∀ {fs : List (D × D)} {xs : List (NestedKey × Addr × Value)}, RD2 K m H fs xs → (fs.all fun p => p.2.blw n) = true → RD2 K (m.take n) H fs xs
  | [], _, h, _ => h
  | p :: fs, _, ⟨q, b, v, u, xs', e, hk, hd, r1, r2, r3, t⟩, bb => by
    rw [List.all_cons, Bool.and_eq_true] at bb
    exact ⟨q, b, v, u, xs', e, hk, hd, RV.cut _ r1 (nkey_blw _ hk), RV.cut _ r2 bb.1, r3, RD2.cut t bb.2⟩
theorem RD2.isBelow : ∀ {fs : List (D × D)} {xs : List (NestedKey × Addr × Value)}, RD2 K m H fs xs → (fs.all fun p => p.2.blw m.length) = true
  | [], _, _ => rfl
  | p :: fs, _, ⟨q, b, v, u, xs', e, hk, hd, r1, r2, r3, t⟩ => by rw [List.all_cons, RV.isBelow _ r2, RD2.isBelow t]; rfl
theorem RF.isBelow : ∀ {fs : List (Str × D)} {gs : List (Str × V)}, RF K m H fs gs → (fs.all fun p => p.2.blw m.length) = true
  | [], _, _ => rfl
  | p :: fs, _, ⟨v, gs', e, r, t⟩ => by rw [List.all_cons, RV.isBelow _ r, RF.isBelow t]; rfl
theorem RD0.isBelow : ∀ {fs : List (D × D)} {gs : List (Key × V)}, RD0 K m H fs gs → (fs.all fun p => p.2.blw m.length) = true
  | [], _, _ => rfl
  | p :: fs, _, ⟨q, v, gs', e, hk, r, t⟩ => by rw [List.all_cons, RV.isBelow _ r, RD0.isBelow t]; rfl
theorem RD1.isBelow : ∀ {fs : List (D × D)} {gs : List (List Key × V)}, RD1 K m H fs gs → (fs.all fun p => p.2.blw m.length) = true
  | [], _, _ => rfl
  | p :: fs, _, ⟨q, v, gs', e, hk, r, t⟩ => by rw [List.all_cons, RV.isBelow _ r, RD1.isBelow t]; rfl
theorem RO.cut {a : Addr} : ∀ {o : DO}, RO cl K m H o a → o.blw n = true → RO cl K (m.take n) H o a
  | .lst ds, ⟨vs, e, r⟩, b => ⟨vs, e, RVs.cut ds r b⟩
  | .dic 0 kvs, ⟨gs, e, r⟩, b => ⟨gs, e, r.cut b⟩
  | .dic 1 kvs, ⟨gs, e, r⟩, b => ⟨gs, e, r.cut b⟩
  | .dic 2 kvs, ⟨xs, es, ep, e, e1, e2, e3, r⟩, b => ⟨xs, es, ep, e, e1, e2, e3, r.cut b⟩
  | .dic 3 kvs, ⟨gs, o, e, r⟩, b => ⟨gs, o, e, r.cut b⟩
  | .dic 4 kvs, ⟨ds, o, vs, e0, e, e1, e2, r⟩, b => by
    subst e0
    have b' : D.blws n ds = true := by simpa [DO.blw, D.blw] using b
    exact ⟨ds, o, vs, rfl, e, e1, e2, RVs.cut ds r b'⟩
  | .dic 5 kvs, ⟨i, o, u, e0, e, r⟩, _ => ⟨i, o, u, e0, e, r⟩
  | .dic 6 kvs, ⟨xs, es, ep, o, e, e1, e2, e3, r⟩, b => ⟨xs, es, ep, o, e, e1, e2, e3, r.cut b⟩
  | .dic 7 kvs, ⟨i, ds, vs, o, u, e0, e, r, q⟩, b => by
    subst e0
    have b' : D.blws n ds = true := by simpa [DO.blw, D.blw] using b
    exact ⟨i, ds, vs, o, u, rfl, e, RVs.cut ds r b', q⟩
  | .dic (_ + 8) kvs, h, _ => h.elim
  | .ins c fs, ⟨dx, gs, e, r⟩, b => ⟨dx, gs, e, r.cut b⟩
  | .dead, h, _ => h
theorem RO.isBelow {a : Addr} : ∀ {o : DO}, RO cl K m H o a → o.blw m.length = true
  | .lst ds, ⟨vs, e, r⟩ => RVs.isBelow ds r
  | .dic 0 kvs, ⟨gs, e, r⟩ => r.isBelow
  | .dic 1 kvs, ⟨gs, e, r⟩ => r.isBelow
  | .dic 2 kvs, ⟨xs, es, ep, e, e1, e2, e3, r⟩ => r.isBelow
  | .dic 3 kvs, ⟨gs, o, e, r⟩ => r.isBelow
  | .dic 4 kvs, ⟨ds, o, vs, e0, e, e1, e2, r⟩ => by
    subst e0
    have := RVs.isBelow ds r
    simpa [DO.blw, D.blw] using this
  | .dic 5 kvs, ⟨i, o, u, e0, e, r⟩ => by
    subst e0
    rfl
  | .dic 6 kvs, ⟨xs, es, ep, o, e, e1, e2, e3, r⟩ => r.isBelow
  | .dic 7 kvs, ⟨i, ds, vs, o, u, e0, e, r, q⟩ => by
    subst e0
    have := RVs.isBelow ds r
    simpa [DO.blw, D.blw] using this
  | .dic (_ + 8) kvs, h => h.elim
  | .ins c fs, ⟨dx, gs, e, r⟩ => r.isBelow
  | .dead, h => rfl
end
def sameO (n : Nat) (a b : Option DO) : Bool := decide (b = a) || (match b with
  | some o => o.blw n
  | none => true)
def cutOk (S S' : Sto) : Bool := decide (S.length ≤ S'.length) && (List.range S.length).all fun i => sameO S.length S[i]? S'[i]?
section
variable {cl : Cl} {K : PySem.W.Frag} {m m' : List Addr} {S S' : Sto} {H H' : Hp}
theorem cutOk_below (rs : RS cl K m S H) (h : cutOk S S' = true) : S.length ≤ S'.length ∧ ∀ (i : Nat) (o : DO), i < S.length → S'[i]? = some o → o.blw S.length = true := by
  unfold cutOk at h
  rw [Bool.and_eq_true] at h
  refine ⟨of_decide_eq_true h.1, fun i o hi e => ?_⟩
  have z := List.all_eq_true.mp h.2 i (List.mem_range.mpr hi)
  unfold sameO at z
  rw [e] at z
  rw [Bool.or_eq_true] at z
  rcases z with z | z
  · have z' := of_decide_eq_true z
    obtain ⟨a, _, ro⟩ := rs.adr z'.symm
    have := ro.isBelow
    rw [rs.len] at this
    exact this
  · exact z
theorem RS.cut {n : Nat} (rs : RS cl K m S H) (hn : n ≤ S.length) (hb : ∀ (i : Nat) (o : DO), i < n → S[i]? = some o → o.blw n = true) : RS cl K (m.take n) (S.take n) H := by
  have hl := rs.len
  refine ⟨by simp; omega, fun i j a hi hj => ?_, fun l o a hs hm => ?_, rs.tb⟩
  · rw [List.getElem?_take] at hi hj
    split at hi <;> split at hj
    · exact rs.nd i j a hi hj
    all_goals simp_all
  · rw [List.getElem?_take] at hs hm
    split at hs
    · rename_i hlt
      rw [if_pos hlt] at hm
      exact (rs.obj l o a hs hm).cut (hb l o hlt hs)
    · cases hs
theorem Ext.cut (rs : RS cl K m S H) (x : Ext m m') : Ext m (m'.take S.length) := fun l a e => by
  have hl : l < S.length := by rw [← rs.len]; exact (List.getElem?_eq_some_iff.mp e).1
  rw [List.getElem?_take_of_lt hl]
  exact x l a e
end
def Exc.blw (n : Nat) (x : Exc) : Bool := match x.fs with
  | none => true
  | some fs => fs.all fun p => p.2.blw n
theorem RX.cut {K : PySem.W.Frag} {m : List Addr} {H : Hp} {n : Nat} {x : Exc} {dd : Option Addr} (r : RX K m H x dd) (b : x.blw n = true) : RX K (m.take n) H x dd := by
  unfold RX at r ⊢
  unfold Exc.blw at b
  cases e : x.fs with
  | none => rw [e] at r; exact r
  | some fs =>
    rw [e] at r b
    obtain ⟨d, gs, e1, e2, r⟩ := r
    exact ⟨d, gs, e1, e2, r.cut b⟩
def cutR (S : Sto) : Res D → Res D
  | .ok d S' => if cutOk S S' = true then (if d.blw S.length = true then .ok d (S'.take S.length) else match d with
      | .ref l => match S'[l]? with
        | some (.lst xs) => if D.blws S.length xs = true ∧ S.length ≤ l then .ok (.ref S.length) (S'.take S.length ++ [.lst xs]) else .ok d S'
        | _ => .ok d S'
      | _ => .ok d S') else .ok d S'
  | .exc x S' => if cutOk S S' = true ∧ x.blw S.length = true then .exc x (S'.take S.length) else .exc x S'
  | .stuck => .stuck
def cutF (F : List D → Sto → Res D) : List D → Sto → Res D := fun ds S => cutR S (F ds S)
section
variable {cl : Cl} {K : PySem.W.Frag} {m m' : List Addr} {S S' : Sto} {H H' : Hp} {E : XK} {Q : VK}
theorem RS.cut1 {l : Nat} {xs : List D} {a : Addr} (rs0 : RS cl K m S H) (rs : RS cl K m' S' H') (h : cutOk S S' = true) (hl : S.length ≤ l) (e : S'[l]? = some (.lst xs)) (hm : m'[l]? = some a) (hb : D.blws S.length xs = true) :
    RS cl K (m'.take S.length ++ [a]) (S'.take S.length ++ [.lst xs]) H' := by
  obtain ⟨h1, h2⟩ := cutOk_below rs0 h
  have c := rs.cut h1 h2
  have hlen : (m'.take S.length).length = S.length := by rw [c.len]; simp; omega
  have hlS : (S'.take S.length).length = S.length := by simp; omega
  have na : ∀ i : Nat, (m'.take S.length)[i]? = some a → False := fun i hi => by
    rw [List.getElem?_take] at hi
    split at hi
    · rename_i hlt
      have := rs.nd i l a hi hm
      omega
    · cases hi
  refine ⟨by simp [hlen, hlS], fun i j b hi hj => ?_, fun k o b hs hk => ?_, rs.tb⟩
  · rw [List.getElem?_append] at hi hj
    split at hi <;> split at hj
    · exact c.nd i j b hi hj
    · rename_i q1 q2
      have : b = a := by
        cases hz : j - (m'.take S.length).length with
        | zero => rw [hz] at hj; simp at hj; exact hj.symm
        | succ n => rw [hz] at hj; simp at hj
      subst this; exact (na i hi).elim
    · have : b = a := by
        cases hz : i - (m'.take S.length).length with
        | zero => rw [hz] at hi; simp at hi; exact hi.symm
        | succ n => rw [hz] at hi; simp at hi
      subst this; exact (na j hj).elim
    · have e1 : i - (m'.take S.length).length = 0 := by
        cases hz : i - (m'.take S.length).length with
        | zero => rfl
        | succ n => rw [hz] at hi; simp at hi
      have e2 : j - (m'.take S.length).length = 0 := by
        cases hz : j - (m'.take S.length).length with
        | zero => rfl
        | succ n => rw [hz] at hj; simp at hj
      omega
  · rw [List.getElem?_append] at hs hk
    rw [hlS] at hs
    rw [hlen] at hk
    have xx : Ext (m'.take S.length) (m'.take S.length ++ [a]) := Ext.snoc _ _
    split at hs
    · rename_i q1
      rw [if_pos q1] at hk
      exact (c.obj k o b hs hk).mono xx (Keep.refl _) rfl
    · rename_i q1
      rw [if_neg q1] at hk
      have e1 : k - S.length = 0 := by
        cases hz : k - S.length with
        | zero => rfl
        | succ n => rw [hz] at hs; simp at hs
      rw [e1] at hs hk
      simp at hs hk
      subst hs hk
      obtain ⟨vs, hv, r⟩ := rs.obj l _ _ e hm
      exact ⟨vs, hv, (RVs.cut xs r hb).mono xx (Keep.refl _)⟩
theorem cutR_post (rs : RS cl K m S H) {r : Res D} (h : Post cl K (RV K) m H E Q (cutR S r)) : Post cl K (RV K) m H E Q r := by
  cases r with
  | stuck => exact h
  | exc x S1 =>
    simp only [cutR] at h
    split at h
    · rename_i hc
      intro m' dd H' x' k' rs' rx
      obtain ⟨h1, h2⟩ := cutOk_below rs hc.1
      exact h _ dd H' (Ext.cut rs x') k' (rs'.cut h1 h2) (rx.cut hc.2)
    · exact h
  | ok d S1 =>
    simp only [cutR] at h
    split at h
    · rename_i hc
      split at h
      · rename_i hb
        intro m' v H' x' k' rs' rv
        obtain ⟨h1, h2⟩ := cutOk_below rs hc
        exact h _ v H' (Ext.cut rs x') k' (rs'.cut h1 h2) (RV.cut d rv hb)
      · split at h
        · rename_i l hb
          split at h
          · rename_i xs e
            split at h
            · rename_i hz
              intro m' v H' x' k' rs' rv
              obtain ⟨a, hm, rfl⟩ := rv
              have hlen : (m'.take S.length).length = S.length := by
                obtain ⟨h1, h2⟩ := cutOk_below rs hc
                rw [(rs'.cut h1 h2).len]; simp; omega
              exact h _ (.ref a) H' ((Ext.cut rs x').trans (Ext.snoc _ _)) k' (RS.cut1 rs rs' hc hz.2 e hm hz.1) ⟨a, by rw [List.getElem?_append_right (by omega), hlen]; simp, rfl⟩
            · exact h
          · exact h
        · exact h
    · exact h
end
theorem FnD.cut {P : Program} {w : World} {cl : Cl} {K : PySem.W.Frag} {mg : Str → Option Value} {base : Heap} {k n : Nat} {f : Addr} {F} (h : FnD P w cl K mg base k f n F) : FnD P w cl K mg base k f n (cutF F) := by
  obtain ⟨kp, fd, ps, hl, hb, F0⟩ := h
  have imp : ∀ vs H Q E, spD cl K n (cutF F) vs H Q E → spD cl K n F vs H Q E := fun vs H Q E ⟨m, S, ds, hl, rs, rv, h⟩ => ⟨m, S, ds, hl, rs, rv, cutR_post rs h⟩
  exact ⟨kp, fd, ps, hl, hb, fun vs H Q E h => F0.len vs H Q E (imp _ _ _ _ h), fun A outer s H args us vs Q E hr e0 hbb hv h => F0.run A outer s H args us vs Q E hr e0 hbb hv (imp _ _ _ _ h)⟩
theorem pe_frz {X : Cx} {e : Expr} {t : TE} (p : PE X e t) : PE X e (fun σ H Q => t σ H fun v H1 => Q v H1 ∨ ∃ a u, v = .ref a ∧ H1 a = some u ∧ Mut (some u) ∧ ∀ od, Q v (upd H1 a (.frz od u))) := by
  refine ⟨fun pins s σ H Q I h => ?_⟩
  refine thn (p.run pins s σ H _ I h) fun u s1 ⟨v, H1, I1, r1, q1⟩ => ?_
  rcases q1 with q | ⟨a, w, rfl, ha, mu, q⟩
  · exact ⟨v, H1, I1, r1, q⟩
  · obtain ⟨od, I2⟩ := I1.lock ha mu
    exact ⟨.ref a, _, I2, r1, q od⟩
def frzD (S0 : Sto) (d : D) (S1 : Sto) : Res D := match d with
  | .ref l => match S1[l]? with
    | some (.lst xs) => if S0.length ≤ l ∧ cutOk S0 S1 = true ∧ D.blws S0.length xs = true then .ok (.frl xs) (S1.take S0.length) else .ok (.frl xs) (S1.set l .dead)
    | _ => .ok d S1
  | _ => .ok d S1
def dFrz (f : Sl → Sto → Res D) : Sl → Sto → Res D := fun sd S => (f sd S).bind fun d S1 => frzD S d S1
theorem frz_post {cl : Cl} {K : PySem.W.Frag} {m m1 : List Addr} {S S1 : Sto} {H H1 : Hp} {E : XK} {Q : VK} {d : D} {v : V} (rs : RS cl K m S H) (h : Post cl K (RV K) m H E Q (frzD S d S1)) (x1 : Ext m m1) (k1 : Keep H H1) (rs1 : RS cl K m1 S1 H1) (rv : RV K m1 H1 d v) :
    Q v H1 ∨ ∃ a u, v = .ref a ∧ H1 a = some u ∧ Mut (some u) ∧ ∀ od, Q v (upd H1 a (.frz od u)) := by
  unfold frzD at h
  split at h
  · rename_i l
    split at h
    · rename_i xs e1
      obtain ⟨a, hm, vs, hv, r1⟩ := rs1.adr e1
      obtain ⟨a', hm', rfl⟩ := rv
      rw [hm] at hm'; cases hm'
      refine .inr ⟨a, .lst vs, rfl, hv, trivial, fun od => ?_⟩
      have kp : Keep H1 (upd H1 a (.frz od (.lst vs))) := rs1.keepPut e1 hm
      have rs2 : RS cl K m1 (S1.set l .dead) (upd H1 a (.frz od (.lst vs))) := rs1.put e1 hm ⟨od, vs, upd_same⟩
      have r2 := r1.mono (Ext.refl m1) kp
      split at h
      · rename_i hc
        obtain ⟨c1, c2, c3⟩ := hc
        obtain ⟨h3, h4⟩ := cutOk_below rs c2
        have et : (S1.set l .dead).take S.length = S1.take S.length := by
          apply List.ext_getElem?
          intro i
          rw [List.getElem?_take, List.getElem?_take]
          split
          · rw [List.getElem?_set_ne (by omega)]
          · rfl
        have rs3 := rs2.cut (n := S.length) (by simp; exact h3) (fun i o hi ho => by
          rw [List.getElem?_set_ne (by omega)] at ho
          exact h4 i o hi ho)
        rw [et] at rs3
        exact h _ _ _ (Ext.cut rs x1) (k1.trans kp) rs3 ⟨a, vs, rfl, .inl ⟨od, upd_same⟩, RVs.cut xs r2 c3⟩
      · exact h m1 _ _ x1 (k1.trans kp) rs2 ⟨a, vs, rfl, .inl ⟨od, upd_same⟩, r2⟩
    · exact .inl (h m1 v H1 x1 k1 rs1 rv)
  · exact .inl (h m1 v H1 x1 k1 rs1 rv)
theorem de_frz {cl : Cl} {X : Cx} {E : XK} {e : Expr} {f} (h : DE cl X E e f) : DE cl X E e (dFrz f) := by
  obtain ⟨t, p, he⟩ := h
  refine ⟨_, pe_frz p, fun m S H sd σ Q rs rl h => ?_⟩
  refine he m S H sd σ _ rs rl ?_
  unfold dFrz at h
  cases hr : f sd S with
  | ok d S1 => rw [hr] at h; exact fun m1 v H1 x1 k1 rs1 rv => frz_post rs h x1 k1 rs1 rv
  | exc x S1 => rw [hr] at h; exact h
  | stuck => rw [hr] at h; exact h
theorem ps_frz {X : Cx} {st : Stmt} {t : TS} (p : PS X st t) : PS X st (fun D σ H => t { D with nx := fun σ' H' => D.nx σ' H' ∨ ∃ a u, H' a = some u ∧ Mut (some u) ∧ ∀ od, D.nx σ' (upd H' a (.frz od u)) } σ H) := by
  refine ⟨fun pins s σ H D I h => ?_⟩
  refine thn (p.run pins s σ H _ I h) fun f s1 q => ?_
  cases f with
  | next =>
    obtain ⟨σ', H', I', q⟩ := q
    rcases q with q | ⟨a, u, ha, mu, q⟩
    · exact ⟨σ', H', I', q⟩
    · obtain ⟨od, I2⟩ := I'.lock ha mu
      exact ⟨σ', _, I2, q od⟩
  | _ => exact q
section
variable {cl : Cl} {X : Cx} {E : XK} {elt tg iter : Expr} {ifs : List Expr} {scope : Scope} {own : List (Str × Nat)} {pos : Pos} {fi : Sl → Sto → Res ItD} {ga : D → Sl → Sto → Res Sl} {ft : Sl → Sto → Res Bool} {fe : Sl → Sto → Res D}
theorem ds_compF {i : Nat} {y : Str} {py spos : Pos} (hc : X.calm = true) (hN : X.N.Nodup) (hy : X.N[i]? = some y) (hyl : X.env.scope.names.lookup y = some .local)
    (hsw : swapsWith (.ListComp elt [⟨tg, iter, ifs, 0⟩] scope pos) (some (.Name y py)) spos.line X.env = pure true) (hi : DI cl X E tg iter fi) (ok : BlkOk X.N X.env.scope scope own)
    (hg : ∀ (s : Shared) (H : Hp) (C : Addr) (c : List (Str × Addr)) (fp : List Addr), DGw cl (X.blk s H scope (compEnvC scope c C X.env) fp) E0 (own.map (·.2)) tg ga)
    (ht : ∀ (s : Shared) (H : Hp) (C : Addr) (c : List (Str × Addr)) (fp : List Addr), DTs cl (X.blk s H scope (compEnvC scope c C X.env) fp) E0 ifs ft)
    (he : ∀ (s : Shared) (H : Hp) (C : Addr) (c : List (Str × Addr)) (fp : List Addr), DE cl (X.blk s H scope (compEnvC scope c C X.env) fp) E0 elt fe)
    (hs : ∀ x, foldedSetIterable iter X.env x = pure x := by intro _; rfl) :
    DS cl X E (.Assign [.Name y py] (.ListComp elt [⟨tg, iter, ifs, 0⟩] scope pos) spos) (sAsg (dFrz (dComp (own.map (·.2)) fi ga ft fe)) (gVar i)) := by
  obtain ⟨wi, pi, hi⟩ := hi
  refine ⟨_, ps_frz (t := tAsg (tLc wi (fun v σ H Q => ∃ m S sd d, RS cl X.K m S H ∧ RSl X.K m H sd σ ∧ RV X.K m H d v ∧ Post cl X.K (RSl X.K) m H E0 (fun σ2 H2 => wipe σ2 (own.map (·.2)) = wipe σ (own.map (·.2)) → Q σ2 H2) (ga d sd S))
      (fun σ H Q => ∃ m S sd, RS cl X.K m S H ∧ RSl X.K m H sd σ ∧ Post cl X.K RBool m H E0 Q (ft sd S))
      (fun σ H Q => ∃ m S sd, RS cl X.K m S H ∧ RSl X.K m H sd σ ∧ Post cl X.K (RV X.K) m H E0 Q (fe sd S)) (own.map (·.2))) (gName i)) (ps_setLc hc hN hy hyl hsw pi ok (fun s H C c fp => ?_) (fun s H C c fp => ?_) (fun s H C c fp => ?_) hs), ?_⟩
  · obtain ⟨g, pg, og, hg⟩ := hg s H C c fp
    exact ⟨fun pins s σ H v u Q I r ⟨m, S, sd, d, rs, rl, rv, h⟩ => pg.run pins s σ H v u Q I r (og.mono _ _ _ _ _ (fun σ2 H2 z => z.2 z.1) (og.own _ _ _ _ (hg m S H sd σ d v _ rs rl rv h)))⟩
  · obtain ⟨t, p, ht⟩ := ht s H C c fp
    exact ⟨fun pins s σ H Q I ⟨m, S, sd, rs, rl, h⟩ => p.run pins s σ H Q I (ht m S H sd σ Q rs rl h)⟩
  · obtain ⟨t, p, he⟩ := he s H C c fp
    exact ⟨fun pins s σ H Q I ⟨m, S, sd, rs, rl, h⟩ => p.run pins s σ H Q I (he m S H sd σ Q rs rl h)⟩
  · intro m S H sd σ D rs rl h
    have key : Post cl X.K (RV X.K) m H E (fun v H1 => (fun σ' H' => D.nx σ' H' ∨ ∃ a u, H' a = some u ∧ Mut (some u) ∧ ∀ od, D.nx σ' (upd H' a (.frz od u))) (σ.set i (some v)) H1) (dComp (own.map (·.2)) fi ga ft fe sd S) := by
      unfold sAsg dFrz at h
      cases hr : dComp (own.map (·.2)) fi ga ft fe sd S with
      | stuck => rw [hr] at h; exact h
      | exc x S1 => rw [hr] at h; exact h
      | ok d S1 =>
        rw [hr] at h
        intro m1 v H1 x1 k1 rs1 rv
        have h2 : Post cl X.K (RV X.K) m H E (fun v H1 => D.nx (σ.set i (some v)) H1) (frzD S d S1) := by
          have h' : Post cl X.K (RFl X.K) m H E (endQ D) ((frzD S d S1).bind fun d S1 => .ok (.nx (sd.set i (some d))) S1) := h
          cases hf : frzD S d S1 with
          | stuck => rw [hf] at h'; exact h'
          | exc x S2 => rw [hf] at h'; exact h'
          | ok d2 S2 =>
            rw [hf] at h'
            intro m2 v2 H2 x2 k2 rs2 rv2
            exact h' m2 (.nx (σ.set i (some v2))) H2 x2 k2 rs2 ((rl.mono x2 k2).set i rv2)
        rcases frz_post rs h2 x1 k1 rs1 rv with z | ⟨a, u, e, ha, mu, z⟩
        · exact .inl z
        · exact .inr ⟨a, u, ha, mu, z⟩
    exact comp_core X rfl hi ⟨fun v σ H Q Q' hq ⟨m, S, sd, d, rs, rl, rv, h⟩ => ⟨m, S, sd, d, rs, rl, rv, h.imp fun σ2 H2 z w => hq _ _ (z w)⟩, fun v σ H Q ⟨m, S, sd, d, rs, rl, rv, h⟩ => ⟨m, S, sd, d, rs, rl, rv, h.imp fun σ2 H2 z w => ⟨w, z w⟩⟩⟩
      (fun m S H sd σ d v Q rs rl rv h => ⟨m, S, sd, d, rs, rl, rv, Post.imp (Q' := fun σ2 H2 => wipe σ2 (own.map (·.2)) = wipe σ (own.map (·.2)) → Q σ2 H2) (fun σ2 H2 z _ => z) h⟩) (fun m S H sd σ Q rs rl h => ⟨m, S, sd, rs, rl, h⟩) (fun m S H sd σ Q rs rl h => ⟨m, S, sd, rs, rl, h⟩) m S H sd σ _ rs rl key
end
end DL

namespace DL
open PySem PySem.Spec PyProof.Rows L2
section
variable {cl : Cl} {K : PySem.W.Frag} {m : List Addr} {S : Sto} {H : Hp} {ds : List D} {vs : List V} {p : Addr} {E : XK} {Q : VK}
theorem newFrl (rs : RS cl K m S H) (r : RVs K m H ds vs) (hp : H p = none) (h : Post cl K (RV K) m H E Q (.ok (.frl ds) S)) :
    Q (.ref p) (upd H p (.lst vs)) ∨ ∃ a u, V.ref p = .ref a ∧ (upd H p (.lst vs)) a = some u ∧ Mut (some u) ∧ ∀ od, Q (.ref p) (upd (upd H p (.lst vs)) a (.frz od u)) :=
  .inr ⟨p, .lst vs, rfl, upd_same, trivial, fun od => by
    rw [upd_upd]
    exact h m _ _ (Ext.refl m) (Keep.new hp) (rs.ext hp) ⟨p, vs, rfl, .inl ⟨od, upd_same⟩, r.mono (Ext.refl m) (Keep.new hp)⟩⟩
end
def dLstF (f : Sl → Sto → Res (List D)) : Sl → Sto → Res D := fun sd S => (f sd S).bind fun ds S1 => if ds.length ≤ sizeLine then .ok (.frl ds) S1 else .stuck
theorem opr_frz {X : Cx} {f : Value → Value → Sem Value} {r : R2} (h : OpR X f r) : OpR X f (fun x y H Q => r x y H fun v H1 => Q v H1 ∨ ∃ a u, v = .ref a ∧ H1 a = some u ∧ Mut (some u) ∧ ∀ od, Q v (upd H1 a (.frz od u))) := by
  intro pins s σ H x y v u Q I rx ry hh
  refine thn (h pins s σ H x y v u _ I rx ry hh) fun u s1 ⟨v, H1, I1, r1, q1⟩ => ?_
  rcases q1 with q | ⟨a, w, rfl, ha, mu, q⟩
  · exact ⟨v, H1, I1, r1, q⟩
  · obtain ⟨od, I2⟩ := I1.lock ha mu
    exact ⟨.ref a, _, I2, r1, q od⟩
theorem callr_frz {X : Cx} {f : Value} {r} (h : CallR X f r) : CallR X f (fun xs H Q => r xs H fun v H1 => Q v H1 ∨ ∃ a u, v = .ref a ∧ H1 a = some u ∧ Mut (some u) ∧ ∀ od, Q v (upd H1 a (.frz od u))) := by
  intro pins s σ H xs us Q I rx hh
  refine thn (h pins s σ H xs us _ I rx hh) fun u s1 ⟨v, H1, I1, r1, q1⟩ => ?_
  rcases q1 with q | ⟨a, w, rfl, ha, mu, q⟩
  · exact ⟨v, H1, I1, r1, q⟩
  · obtain ⟨od, I2⟩ := I1.lock ha mu
    exact ⟨.ref a, _, I2, r1, q od⟩
def addF : D → D → Sto → Res D
  | .int a, .int b, S => .ok (.int (a + b)) S
  | .str a, .str b, S => if a.length + b.length ≤ sizeLine then .ok (.str (a ++ b)) S else .stuck
  | .tup a, .tup b, S => if a.length + b.length ≤ sizeLine then .ok (.tup (a ++ b)) S else .stuck
  | a, b, S => match lsD a S, lsD b S with
    | some x, some y => if x.length + y.length ≤ sizeLine then .ok (.frl (x ++ y)) S else .stuck
    | _, _ => .stuck
def sliceF (x : D) (lo hi : Option Int) (S : Sto) : Res D := match x with
  | .tup ds => .ok (.tup (cutL ds lo hi)) S
  | .str z => if z.length ≤ sizeLine then .ok (.str (cutS z lo hi)) S else .stuck
  | x => match lsD x S with
    | some ds => .ok (.frl (cutL ds lo hi)) S
    | _ => .stuck
def dSliceF (f : Sl → Sto → Res D) (g h : Sl → Sto → Res (Option Int)) : Sl → Sto → Res D := fun sd S => (f sd S).bind fun x S1 => (g sd S1).bind fun lo S2 => (h sd S2).bind fun hi S3 => sliceF x lo hi S3
def listF : List D → Sto → Res D
  | [d], S => match seqD d S with
    | some ds => .ok (.frl ds) S
    | none => .stuck
  | _, _ => .stuck
section
variable {cl : Cl} {X : Cx} {E : XK} {a b : Expr} {fa fb : Sl → Sto → Res D} {pos : Pos}
theorem de_lstF {es : List Expr} {f pos} (h : DA cl X E es f) : DE cl X E (.List es pos) (dLstF f) := by
  obtain ⟨t, p, h⟩ := h
  refine ⟨_, pe_frz (pe_lst p), fun m S H sd σ Q rs rl hh => ?_⟩
  refine h m S H sd σ _ rs rl (Post.bind hh fun ds S1 m1 vs H1 x1 k1 rs1 rv1 h1 => ?_)
  split at h1
  · rename_i hz
    exact ⟨by rw [← rv1.length]; exact hz, fun p hp => newFrl rs1 rv1 hp h1⟩
  · exact h1.elim
theorem op_addF : OpD cl X (binaryOp .Add) addF := by
  refine ⟨_, opr_frz (((op_add.or op_add_str).or op_catA).or op_catS), fun E m S H x y vx vy Q rs rx ry h => ?_⟩
  unfold addF at h
  split at h
  · rename_i a b
    cases rx; cases ry
    exact .inl (.inl (.inl ⟨_, _, rfl, rfl, .inl (h.here rs rfl)⟩))
  · rename_i a b
    cases rx; cases ry
    split at h
    · rename_i hz
      exact .inl (.inl (.inr ⟨_, _, rfl, rfl, hz, .inl (h.here rs rfl)⟩))
    · exact h.elim
  · rename_i a b
    split at h
    · rename_i hz
      obtain ⟨p, vs, rfl, s1, r1⟩ := rx
      obtain ⟨q, ws, rfl, s2, r2⟩ := ry
      refine .inl (.inr ⟨p, q, vs, ws, rfl, rfl, s1, s2, by rw [← r1.length, ← r2.length]; exact hz, fun e => ?_, fun e1 e2 => ?_, fun e1 e2 p' hp => ?_⟩)
      · subst e
        have : a = [] := List.eq_nil_of_length_eq_zero r1.length
        subst this
        exact .inl (h.here rs ⟨q, ws, rfl, s2, r2⟩)
      · subst e2
        have : b = [] := List.eq_nil_of_length_eq_zero r2.length
        subst this
        exact .inl (h.here rs ⟨p, vs, rfl, s1, by rw [List.append_nil]; exact r1⟩)
      · obtain ⟨a1, b1⟩ := newTup rs (r1.append r2) hp
        exact .inl (h _ _ _ (Ext.refl m) (Keep.new hp) a1 b1)
    · exact h.elim
  · rename_i a b _ _ _
    split at h
    · rename_i x y e1 e2
      split at h
      · rename_i hz
        obtain ⟨p, vs, rfl, hv, r1⟩ := ls_rv rs rx e1
        obtain ⟨q, ws, rfl, hw, r2⟩ := ls_rv rs ry e2
        exact .inr ⟨p, q, vs, ws, rfl, rfl, hv, hw, by rw [← r1.length, ← r2.length]; exact hz, fun p' hp => newFrl rs (r1.append r2) hp h⟩
      · exact h.elim
    · exact h.elim
theorem de_sliceF {lo hi : Option Expr} {p2 : Pos} {fl fh} (ha : DE cl X E a fa) (hl : DPO cl X E lo fl) (hh : DPO cl X E hi fh) : DE cl X E (.Subscript a (.Slice lo hi none p2) pos) (dSliceF fa fl fh) := by
  obtain ⟨t, p, ha⟩ := ha
  obtain ⟨t1, p1, hl⟩ := hl
  obtain ⟨t2, p2', hh⟩ := hh
  refine ⟨_, pe_frz (pe_slice ((sl_list.or sl_tupA).or sl_str) p p1 p2'), fun m S H sd σ Q rs rl h => ?_⟩
  refine ha m S H sd σ _ rs rl (Post.bind h fun x S1 m1 vx H1 x1 k1 rs1 rx h1 => ?_)
  refine hl m1 S1 H1 sd σ _ rs1 (rl.mono x1 k1) (Post.bind h1 fun l S2 m2 vl H2 x2 k2 rs2 rll h2 => ?_)
  refine hh m2 S2 H2 sd σ _ rs2 (rl.mono (x1.trans x2) (k1.trans k2)) (Post.bind h2 fun u S3 m3 vu H3 x3 k3 rs3 ru h3 => ?_)
  cases rll; cases ru
  have rx3 := RV.mono (x2.trans x3) (k2.trans k3) x rx
  unfold sliceF at h3
  split at h3
  · obtain ⟨a, vs, rfl, s1, r1⟩ := rx3
    refine .inl (.inr ⟨a, vs, rfl, s1, fun e => ?_, fun e p' hp => ?_⟩)
    · rw [← r1.length] at e
      rw [sIx_whole e] at h3
      exact .inl (h3.here rs3 ⟨a, vs, rfl, s1, r1⟩)
    · obtain ⟨a1, b1⟩ := newTup rs3 (cut_rv r1 l u) hp
      exact .inl (h3 _ _ _ (Ext.refl _) (Keep.new hp) a1 b1)
  · cases rx3
    split at h3
    · rename_i hz
      exact .inr ⟨_, rfl, hz, .inl (h3.here rs3 rfl)⟩
    · exact h3.elim
  · split at h3
    · rename_i ds e1
      obtain ⟨a, vs, rfl, hv, r1⟩ := ls_rv rs3 rx3 e1
      exact .inl (.inl ⟨a, vs, rfl, hv, fun p' hp => newFrl rs3 (cut_rv r1 l u) hp h3⟩)
    · exact h3.elim
theorem cd_listF : CallD cl X (.type "list") listF := by
  refine ⟨_, callr_frz call_list_of, fun E m S H ds vs Q rs rv h => ?_⟩
  unfold listF at h
  split at h
  · rename_i d
    obtain ⟨v, rfl, r⟩ := rvs1 rv
    split at h
    · rename_i es e1
      obtain ⟨a, ws, rfl, hs, r1⟩ := seq_rv rs r e1
      exact ⟨a, ws, rfl, hs, fun l hl => newFrl rs r1 hl h⟩
    · exact h.elim
  · exact h.elim
end
end DL

namespace DL
open PySem PySem.Spec PyProof.Rows L2
section
variable {X : Cx} {pins : List (Addr × Obj)} {σ : L2.St} {H : Hp} {s : Shared}
end
theorem key0_rv {K : PySem.W.Frag} {m : List Addr} {H : Hp} {d : D} {v : V} {k : Key} (h : key0 d = some k) (r : RV K m H d v) : v = kV k := by
  cases d <;> simp only [key0] at h <;> cases h <;> exact r
theorem key0_eq {a b : D} {j k : Key} (ha : key0 a = some j) (hb : key0 b = some k) : a = b ↔ j = k := by
  constructor
  · intro e; subst e; rw [ha] at hb; cases hb; rfl
  · intro e; subst e
    cases a <;> simp only [key0] at ha <;> cases ha <;> cases b <;> simp only [key0] at hb <;> cases hb <;> rfl
def RVp (K : PySem.W.Frag) (m : List Addr) (H : Hp) : List (D × D) → List (V × V) → Prop
  | [], vs => vs = []
  | p :: ps, vs => ∃ a b vs', vs = (a, b) :: vs' ∧ RV K m H p.1 a ∧ RV K m H p.2 b ∧ RVp K m H ps vs'
def RVo (K : PySem.W.Frag) (m : List Addr) (H : Hp) : Option D → Option V → Prop
  | none, o => o = none
  | some d, o => ∃ v, o = some v ∧ RV K m H d v
def keysOk (ps : List (D × D)) : Bool := ps.all fun p => (key0 p.1).isSome
def dgl (y : D) : List (D × D) → Option D → Option D
  | [], acc => acc
  | p :: r, acc => dgl y r (if p.1 = y then some p.2 else acc)
def putD (kvs : List (D × D)) (k v : D) : List (D × D) := if kvs.any (fun p => decide (p.1 = k)) then kvs.map fun p => if p.1 = k then (p.1, v) else p else kvs ++ [(k, v)]
def mergeD (kvs more : List (D × D)) : List (D × D) := more.foldl (fun acc p => putD acc p.1 p.2) kvs
def getK (kvs : List (D × D)) (k : D) : Option D := (kvs.find? fun p => decide (p.1 = k)).map (·.2)
section
variable {K : PySem.W.Frag} {m m' : List Addr} {H H' : Hp}
theorem RVp.mono (x : Ext m m') (k : Keep H H') : ∀ {ps : List (D × D)} {vs : List (V × V)}, RVp K m H ps vs → RVp K m' H' ps vs
  | [], _, h => h
  | _ :: _, _, ⟨a, b, vs', e, r1, r2, t⟩ => ⟨a, b, vs', e, RV.mono x k _ r1, RV.mono x k _ r2, RVp.mono x k t⟩
theorem RVp.keys : ∀ {ps : List (D × D)} {vs : List (V × V)}, RVp K m H ps vs → keysOk ps = true → ∃ kvs : List (Key × V), vs = kvs.map (fun kv => (kV kv.1, kv.2)) ∧ RD0 K m H ps kvs ∧ kvs.length = ps.length
  | [], _, h, _ => by cases h; exact ⟨[], rfl, rfl, rfl⟩
  | p :: ps, _, ⟨a, b, vs', e, r1, r2, t⟩, h => by
    unfold keysOk at h
    rw [List.all_cons, Bool.and_eq_true] at h
    obtain ⟨kvs, e1, r, l⟩ := RVp.keys t h.2
    obtain ⟨k, hk⟩ := Option.isSome_iff_exists.mp h.1
    have := key0_rv hk r1
    subst this e e1
    exact ⟨(k, b) :: kvs, rfl, ⟨k, b, kvs, rfl, hk, r2, r⟩, by simp [l]⟩
theorem RD0.any : ∀ {ps : List (D × D)} {gs : List (Key × V)} {d : D} {k : Key}, RD0 K m H ps gs → key0 d = some k → (ps.any fun p => decide (p.1 = d)) = gs.any fun kv => decide (kv.1 = k)
  | [], _, _, _, h, _ => by cases h; rfl
  | p :: ps, _, d, k, ⟨j, v, gs', e, hj, r, t⟩, hk => by
    subst e
    rw [List.any_cons, List.any_cons, RD0.any t hk]
    congr 1
    exact decide_eq_decide.mpr (key0_eq hj hk)
theorem RD0.repl {d x : D} {k : Key} {v : V} (hk : key0 d = some k) (rx : RV K m H x v) : ∀ {ps : List (D × D)} {gs : List (Key × V)}, RD0 K m H ps gs → RD0 K m H (ps.map fun p => if p.1 = d then (p.1, x) else p) (gs.map fun kv => if kv.1 = k then (kv.1, v) else kv)
  | [], _, h => by cases h; exact rfl
  | p :: ps, _, ⟨j, u, gs', e, hj, r, t⟩ => by
    subst e
    rw [List.map_cons, List.map_cons]
    by_cases z : p.1 = d
    · rw [if_pos z, if_pos ((key0_eq hj hk).mp z)]
      exact ⟨j, v, _, rfl, hj, rx, RD0.repl hk rx t⟩
    · rw [if_neg z, if_neg (fun q => z ((key0_eq hj hk).mpr q))]
      exact ⟨j, u, _, rfl, hj, r, RD0.repl hk rx t⟩
theorem RD0.snoc {d x : D} {k : Key} {v : V} (hk : key0 d = some k) (rx : RV K m H x v) : ∀ {ps : List (D × D)} {gs : List (Key × V)}, RD0 K m H ps gs → RD0 K m H (ps ++ [(d, x)]) (gs ++ [(k, v)])
  | [], _, h => by cases h; exact ⟨k, v, [], rfl, hk, rx, rfl⟩
  | p :: ps, _, ⟨j, u, gs', e, hj, r, t⟩ => by subst e; exact ⟨j, u, _, rfl, hj, r, RD0.snoc hk rx t⟩
theorem RD0.put {d x : D} {k : Key} {v : V} {ps : List (D × D)} {gs : List (Key × V)} (r : RD0 K m H ps gs) (hk : key0 d = some k) (rx : RV K m H x v) : RD0 K m H (putD ps d x) (putK gs k v) := by
  unfold putD putK
  rw [RD0.any r hk]
  split
  · exact RD0.repl hk rx r
  · exact RD0.snoc hk rx r
theorem RD0.len : ∀ {ps : List (D × D)} {gs : List (Key × V)}, RD0 K m H ps gs → gs.length = ps.length
  | [], _, h => by cases h; rfl
  | p :: ps, _, ⟨j, u, gs', e, hj, r, t⟩ => by subst e; simp [RD0.len t]
theorem RD0.get : ∀ {ps : List (D × D)} {gs : List (Key × V)} {d : D} {k : Key}, RD0 K m H ps gs → key0 d = some k → RVo K m H (getK ps d) (valV gs k)
  | [], _, _, _, h, _ => by cases h; exact rfl
  | p :: ps, _, d, k, ⟨j, v, gs', e, hj, r, t⟩, hk => by
    subst e
    by_cases z : p.1 = d
    · rw [valV_pos ((key0_eq hj hk).mp z)]
      simp only [getK, List.find?_cons, z, decide_true, Option.map_some]
      exact ⟨v, rfl, r⟩
    · rw [valV_neg (fun q => z ((key0_eq hj hk).mpr q))]
      have := RD0.get t hk
      simp only [getK, List.find?_cons, z, decide_false] at this ⊢
      exact this
theorem RD0.dgl {d : D} {k : Key} (hk : key0 d = some k) : ∀ {ps : List (D × D)} {gs : List (Key × V)} {o : Option D} {u : Option V}, RD0 K m H ps gs → RVo K m H o u → RVo K m H (DL.dgl d ps o) (gs.foldl (fun acc kv => if kv.1 = k then some kv.2 else acc) u)
  | [], _, _, _, h, r => by cases h; exact r
  | p :: ps, _, o, u, ⟨j, v, gs', e, hj, r1, t⟩, r => by
    subst e
    show RVo K m H (DL.dgl d ps (if p.1 = d then some p.2 else o)) _
    rw [List.foldl_cons]
    refine RD0.dgl hk t ?_
    by_cases z : p.1 = d
    · rw [if_pos z, if_pos ((key0_eq hj hk).mp z)]
      exact ⟨v, rfl, r1⟩
    · rw [if_neg z, if_neg (fun q => z ((key0_eq hj hk).mpr q))]
      exact r
theorem RVo.mono (x : Ext m m') (k : Keep H H') : ∀ {o : Option D} {u : Option V}, RVo K m H o u → RVo K m' H' o u
  | none, _, h => h
  | some _, _, ⟨v, e, r⟩ => ⟨v, e, RV.mono x k _ r⟩
theorem RVo.getD {d : D} {v : V} (r : RV K m H d v) : ∀ {o : Option D} {u : Option V}, RVo K m H o u → RV K m H (o.getD d) (u.getD v)
  | none, _, h => by cases h; exact r
  | some _, _, ⟨v, e, q⟩ => by subst e; exact q
theorem RVo.isSome : ∀ {o : Option D} {u : Option V}, RVo K m H o u → o.isSome = u.isSome
  | none, _, h => by cases h; rfl
  | some _, _, ⟨v, e, q⟩ => by subst e; rfl
end
def pNil : Sl → Sto → Res (List (D × D)) := fun _ S => .ok [] S
def pCons (fk fv : Sl → Sto → Res D) (g : Sl → Sto → Res (List (D × D))) : Sl → Sto → Res (List (D × D)) := fun sd S =>
  (fk sd S).bind fun k S1 => (fv sd S1).bind fun v S2 => (g sd S2).bind fun ds S3 => .ok ((k, v) :: ds) S3
section
variable {cl : Cl} {X : Cx} {E : XK} {dpos apos cpos pos : Pos} {o e f : Expr} {fo fe ff : Sl → Sto → Res D} {fp : Sl → Sto → Res (List (D × D))} {keys : List (Option Expr)} {values : List Expr}
def dDispGet (fp : Sl → Sto → Res (List (D × D))) (fe ff : Sl → Sto → Res D) : Sl → Sto → Res D := fun sd S => (fp sd S).bind fun ps S1 => match keysOk ps with
  | false => .stuck
  | true => (fe sd S1).bind fun y S2 => match (key0 y).isSome with
    | false => .stuck
    | true => (ff sd S2).bind fun z S3 => .ok ((dgl y ps none).getD z) S3
def dDisp (fp : Sl → Sto → Res (List (D × D))) : Sl → Sto → Res D := fun sd S => (fp sd S).bind fun ps S1 => match keysOk ps && decide (ps.length ≤ 15) with
  | false => .stuck
  | true => .ok (.ref S1.length) (S1 ++ [.dic 0 (mergeD [] ps)])
def dDisp0 : Sl → Sto → Res D := fun _ S => .ok (.ref S.length) (S ++ [.dic 0 []])
def dicD (d k : D) (S : Sto) : Option (Option D) := match d with
  | .ref l => match S[l]? with
    | some (.dic 0 kvs) => match (key0 k).isSome with
      | true => some (getK kvs k)
      | false => none
    | _ => none
  | _ => none
def dDget (fo fe ff : Sl → Sto → Res D) : Sl → Sto → Res D := fun sd S => (fo sd S).bind fun x S1 => match dicD x (.int 0) S1 with
  | none => .stuck
  | some _ => (fe sd S1).bind fun y S2 => (ff sd S2).bind fun z S3 => match dicD x y S3 with
    | some r => .ok (r.getD z) S3
    | none => .stuck
end
end DL

namespace DL
open PySem PySem.Spec PyProof.Rows L2
structure KDg (K : PySem.W.Frag) (w : World) (mg : Str → Option Value) (x : Str) (kvs : List (Str × D)) : Prop where
  g : mg x = some (.ref (He.ga K x))
  d : ∃ es n, KDict K w (He.ga K x) es n
  hit : ∀ z c, kvs.lookup z = some c → ∃ u v, PySem.W.nsIn K (He.ga K x) z = some (some u) ∧ RelV v u ∧ ∀ m H, RV K m H c v
  miss : ∀ z, kvs.lookup z = none → PySem.W.nsIn K (He.ga K x) z = some none
section
variable {cl : Cl} {X : Cx} {E : XK} {apos cpos pos : Pos} {o e f : Expr} {fe ff : Sl → Sto → Res D} {td ty tx : TE}
def kdGet (kvs : List (Str × D)) : D → Option (Option D)
  | .str z => some (kvs.lookup z)
  | .int _ => some none
  | _ => none
def dKget (kvs : List (Str × D)) (fe ff : Sl → Sto → Res D) : Sl → Sto → Res D := fun sd S => (fe sd S).bind fun y S1 => match kdGet kvs y with
  | some r => (ff sd S1).bind fun x S2 => .ok (r.getD x) S2
  | none => .stuck
end
abbrev AlV : Type := (He.AlD × Bool) × List (Option (List (Option (Str × Int))))
def obV (n : Nat) (fa : List He.Fa) (fn : List He.DefD) (tf : List He.Defn) (ts : List (Str × List Str)) (ex : PySem.W.Frag → Bool) (g : Addr → Option Obj) : AlV := (obU n fa fn tf ex g, ts.map fun t => He.dicW (frU n g) (He.ga (frU n g) t.1))
def hookV (n : Nat) (fa : List He.Fa) (fn : List He.DefD) (tf : List He.Defn) (ts : List (Str × List Str)) (ex : PySem.W.Frag → Bool) : PySem.W.Hook where
  α := AlV
  obs := fun s => obV n fa fn tf ts ex s.heap.get?
  val := fun w => ((He.valD fn, true), ts.map fun t => some (He.keysIn w.params t.2))
  says := fun w h => ∃ K : PySem.W.Frag, K.In h ∧ He.SaysD fa fn K ∧ ex K = true ∧ TabF K h tf ∧ ∀ (i : Nat) (t : Str × List Str), ts[i]? = some t → He.dicW K (He.ga K t.1) = some (He.keysIn w.params t.2)
  of := fun w s e => by
    have e0 : obU n fa fn tf ex s.heap.get? = (He.valD fn, true) := congrArg (fun z : AlV => z.1) e
    have e2 : (ex (frU n s.heap.get?) && He.tabsB s.heap.get? tf (frU n s.heap.get?)) = true := congrArg (fun z : He.AlD × Bool => z.2) e0
    rw [Bool.and_eq_true] at e2
    refine ⟨frU n s.heap.get?, He.frT_in, congrArg (fun z : He.AlD × Bool => z.1) e0, e2.1, tabF_of e2.2, fun i t ht => ?_⟩
    have e3 : (ts.map fun t => He.dicW (frU n s.heap.get?) (He.ga (frU n s.heap.get?) t.1)) = ts.map fun t => some (He.keysIn w.params t.2) := congrArg (fun z : AlV => z.2) e
    have e4 := congrArg (fun l => l[i]?) e3
    simp only [List.getElem?_map, ht, Option.map_some] at e4
    exact Option.some.inj e4
  keeps := fun _ _ _ ⟨K, hK, c1, c2, c3, c4⟩ k => ⟨K, PySem.W.Frag.In.keeps hK k, c1, c2, ⟨c3.hd, c3.out, fun p hp => k _ _ (c3.empty p hp)⟩, c4⟩
end DL

namespace DL
open PySem PySem.Spec PyProof.Rows L2
section
variable {cl : Cl} {X : Cx}
end
end DL

namespace DL
open PySem PySem.Spec PyProof.Rows L2
mutual
def NKey (K : PySem.W.Frag) (H : Hp) : NestedKey → V → Prop
  | .none, v => v = .non
  | .num i, v => v = .int i
  | .text x, v => v = .str x
  | .tup ks, v => ∃ a vs, v = .ref a ∧ SqT K H a vs ∧ NKeys K H ks vs
def NKeys (K : PySem.W.Frag) (H : Hp) : List NestedKey → List V → Prop
  | [], vs => vs = []
  | k :: ks, vs => ∃ v vs', vs = v :: vs' ∧ NKey K H k v ∧ NKeys K H ks vs'
end
section
variable {K : PySem.W.Frag} {m : List Addr} {H : Hp}
mutual
theorem nkey_rv : ∀ (d : D) {k : NestedKey} {v : V}, nkey d = some k → RV K m H d v → NKey K H k v
  | .non, _, _, h, r => by cases h; exact r
  | .int _, _, _, h, r => by cases h; exact r
  | .str _, _, _, h, r => by cases h; exact r
  | .tup ds, _, _, h, ⟨a, vs, e, s, r⟩ => by
    unfold nkey at h
    cases e2 : nkeys ds with
    | none => rw [e2] at h; cases h
    | some ks =>
      rw [e2] at h
      cases h
      exact ⟨a, vs, e, s, nkeys_rv ds e2 r⟩
  | .bl _, _, _, h, _ => by cases h
  | .frl _, _, _, h, _ => by cases h
  | .ref _, _, _, h, _ => by cases h
  | .exn _ _ _ _, _, _, h, _ => by cases h
theorem nkeys_rv : ∀ (ds : List D) {ks : List NestedKey} {vs : List V}, nkeys ds = some ks → RVs K m H ds vs → NKeys K H ks vs
  | [], _, _, h, r => by cases h; exact r
  | d :: ds, _, _, h, ⟨v, vs', e, r, t⟩ => by
    unfold nkeys at h
    cases e1 : nkey d with
    | none => rw [e1] at h; cases h
    | some k =>
      cases e2 : nkeys ds with
      | none => rw [e1, e2] at h; cases h
      | some ks =>
        rw [e1, e2] at h
        cases h
        exact ⟨v, vs', e, nkey_rv d e1 r, nkeys_rv ds e2 t⟩
end
mutual
theorem nkey_inj : ∀ (a b : D) {k : NestedKey}, nkey a = some k → nkey b = some k → a = b
  | .non, b, _, h, g => by
    cases h
    cases b <;> first | (cases g <;> rfl) | (unfold nkey at g; split at g <;> cases g)
  | .int i, b, _, h, g => by
    cases h
    cases b <;> first | (cases g <;> rfl) | (unfold nkey at g; split at g <;> cases g)
  | .str x, b, _, h, g => by
    cases h
    cases b <;> first | (cases g <;> rfl) | (unfold nkey at g; split at g <;> cases g)
  | .tup ds, b, k, h, g => by
    unfold nkey at h
    cases e2 : nkeys ds with
    | none => rw [e2] at h; cases h
    | some ks =>
      rw [e2] at h
      cases h
      cases b with
      | tup es =>
        unfold nkey at g
        cases e3 : nkeys es with
        | none => rw [e3] at g; cases g
        | some js =>
          rw [e3] at g
          cases g
          rw [nkeys_inj ds es e2 e3]
      | _ => cases g
  | .bl _, _, _, h, _ => by cases h
  | .frl _, _, _, h, _ => by cases h
  | .ref _, _, _, h, _ => by cases h
  | .exn _ _ _ _, _, _, h, _ => by cases h
theorem nkeys_inj : ∀ (as bs : List D) {ks : List NestedKey}, nkeys as = some ks → nkeys bs = some ks → as = bs
  | [], bs, _, h, g => by
    cases h
    cases bs with
    | nil => rfl
    | cons b bs =>
      unfold nkeys at g
      split at g <;> cases g
  | a :: as, bs, _, h, g => by
    unfold nkeys at h
    cases e1 : nkey a with
    | none => rw [e1] at h; cases h
    | some k =>
      cases e2 : nkeys as with
      | none => rw [e1, e2] at h; cases h
      | some ks =>
        rw [e1, e2] at h
        cases h
        cases bs with
        | nil => cases g
        | cons b bs =>
          unfold nkeys at g
          cases e3 : nkey b with
          | none => rw [e3] at g; cases g
          | some j =>
            cases e4 : nkeys bs with
            | none => rw [e3, e4] at g; cases g
            | some js =>
              rw [e3, e4] at g
              cases g
              rw [nkey_inj a b e1 e3, nkeys_inj as bs e2 e4]
end
end
section
variable {X : Cx} {pins : List (Addr × Obj)} {σ : L2.St} {H : Hp} {s : Shared}
mutual
theorem NKey.is (I : Inv X pins σ H s) : ∀ (k : NestedKey) {v : V} {u : Value}, NKey X.K H k v → RelV v u → NestedIs s.heap k u
  | .none, _, _, h, r => by cases h; cases r; exact .none
  | .num i, _, _, h, r => by cases h; obtain ⟨t, rfl⟩ := r; exact .int i t
  | .text x, _, _, h, r => by cases h; obtain ⟨t, rfl⟩ := r; exact .text x t
  | .tup ks, _, _, ⟨a, vs, e, sq, hk⟩, r => by
    subst e
    cases (show _ = Value.ref a from r)
    obtain ⟨its, rv, ⟨o, ho, hc, n, hd⟩, _⟩ := I.tuple sq
    exact .tup ho hc hd (by simpa using NKeys.is I ks hk rv)
theorem NKeys.is (I : Inv X pins σ H s) : ∀ (ks : List NestedKey) {vs : List V} {us : List Value}, NKeys X.K H ks vs → Vals vs us → NestedAll s.heap ks us
  | [], _, _, h, r => by cases h; cases r; exact .nil
  | k :: ks, _, _, ⟨v, vs', e, hk, t⟩, r => by
    subst e
    cases r with
    | cons r1 r2 => exact .cons (NKey.is I k hk r1) (NKeys.is I ks t r2)
end
def entN (X : Cx) (x : NestedKey × Addr × Value) : DictEntry := ⟨x.1.hash X.w, .ref x.2.1, x.2.2⟩
def NAt (X : Cx) (H : Hp) (a : Addr) (xs : List (NestedKey × Addr × Value)) : Prop :=
  ∃ es ep, H a = some (RawO a es ep) ∧ es.toList = xs.map (entN X) ∧ (xs.map (·.1)).Nodup ∧ (a == sysModules) = false ∧ ∀ x ∈ xs, NKey X.K H x.1 (.ref x.2.1) ∧ x.1.depth ≤ 8
theorem NAt.dict {a : Addr} {xs : List (NestedKey × Addr × Value)} (I : Inv X pins σ H s) (h : NAt X H a xs) : s.heap.DictOfH (nestedKind X.prog X.w) a xs := by
  obtain ⟨es, ep, e, he, hn, _, hk⟩ := h
  obtain ⟨⟨o, ho, hc, hd⟩, _, _⟩ := (show ObjOk X.prog X.w H s.heap a (RawO a es ep) from I.hok a _ e)
  exact ⟨o, es, ep, ho, hc, hd, he, fun x hx => ⟨NKey.is I _ (hk x hx).1 rfl, (hk x hx).2⟩, hn⟩
end
def RVn (K : PySem.W.Frag) (m : List Addr) (H : Hp) : Option D → Option (Addr × Value) → Prop
  | none, o => o = none
  | some d, o => ∃ p v, o = some p ∧ RV K m H d v ∧ RelV v p.2
section
variable {K : PySem.W.Frag} {m : List Addr} {H : Hp}
theorem RD2.get {d : D} {k : NestedKey} (hk : nkey d = some k) : ∀ {ps : List (D × D)} {xs : List (NestedKey × Addr × Value)}, RD2 K m H ps xs → RVn K m H (getK ps d) (atKey xs k)
  | [], _, h => by cases h; exact rfl
  | p :: ps, _, ⟨j, b, v, u, xs', e, hj, hd, r1, r2, r3, t⟩ => by
    subst e
    have ih := RD2.get hk t
    by_cases z : p.1 = d
    · have zk : j = k := by rw [z] at hj; rw [hj] at hk; exact Option.some.inj hk
      simp only [getK, List.find?_cons, z, decide_true, Option.map_some, atKey, zk]
      exact ⟨(b, u), v, rfl, r2, r3⟩
    · have zk : ¬ j = k := fun q => z (nkey_inj _ _ hj (q ▸ hk))
      simp only [getK, List.find?_cons, z, decide_false, atKey, zk] at ih ⊢
      exact ih
theorem RD2.keys : ∀ {ps : List (D × D)} {xs : List (NestedKey × Addr × Value)}, RD2 K m H ps xs → ∀ x ∈ xs, NKey K H x.1 (.ref x.2.1) ∧ x.1.depth ≤ 8
  | [], _, h, x, hx => by cases h; cases hx
  | p :: ps, _, ⟨j, b, v, u, xs', e, hj, hd, r1, r2, r3, t⟩, x, hx => by
    subst e
    rcases List.mem_cons.mp hx with rfl | hx
    · exact ⟨nkey_rv _ hj r1, hd⟩
    · exact RD2.keys t x hx
theorem RD2.len : ∀ {ps : List (D × D)} {xs : List (NestedKey × Addr × Value)}, RD2 K m H ps xs → xs.length = ps.length
  | [], _, h => by cases h; rfl
  | p :: ps, _, ⟨j, b, v, u, xs', e, hj, hd, r1, r2, r3, t⟩ => by subst e; simp [RD2.len t]
theorem RD2.any {d : D} {k : NestedKey} (hk : nkey d = some k) : ∀ {ps : List (D × D)} {xs : List (NestedKey × Addr × Value)}, RD2 K m H ps xs → (ps.any fun p => decide (p.1 = d)) = (atKey xs k).isSome
  | [], _, h => by cases h; rfl
  | p :: ps, _, ⟨j, b, v, u, xs', e, hj, hd, r1, r2, r3, t⟩ => by
    subst e
    have ih := RD2.any hk t
    by_cases z : p.1 = d
    · have zk : j = k := by rw [z] at hj; rw [hj] at hk; exact Option.some.inj hk
      simp [z, atKey, zk]
    · have zk : ¬ j = k := fun q => z (nkey_inj _ _ hj (q ▸ hk))
      simp only [List.any_cons, z, decide_false, Bool.false_or, atKey, List.find?_cons, zk] at ih ⊢
      exact ih
theorem RD2.repl {d x : D} {k : NestedKey} {v : V} {u : Value} (hk : nkey d = some k) (rx : RV K m H x v) (ru : RelV v u) : ∀ {ps : List (D × D)} {xs : List (NestedKey × Addr × Value)}, RD2 K m H ps xs → RD2 K m H (ps.map fun p => if p.1 = d then (p.1, x) else p) (xs.map (putAt k u))
  | [], _, h => by cases h; exact rfl
  | p :: ps, _, ⟨j, b, w, u', xs', e, hj, hd, r1, r2, r3, t⟩ => by
    subst e
    by_cases z : p.1 = d
    · have zk : j = k := by rw [z] at hj; rw [hj] at hk; exact Option.some.inj hk
      simp only [List.map_cons, z, if_true, putAt, zk]
      exact ⟨k, b, v, u, _, rfl, hk, zk ▸ hd, z ▸ r1, rx, ru, RD2.repl hk rx ru t⟩
    · have zk : ¬ j = k := fun q => z (nkey_inj _ _ hj (q ▸ hk))
      simp only [List.map_cons, z, if_false, putAt, zk]
      exact ⟨j, b, w, u', _, rfl, hj, hd, r1, r2, r3, RD2.repl hk rx ru t⟩
theorem RD2.snoc {d x : D} {k : NestedKey} {b : Addr} {v : V} {u : Value} (hk : nkey d = some k) (hd : k.depth ≤ 8) (rd : RV K m H d (.ref b)) (rx : RV K m H x v) (ru : RelV v u) : ∀ {ps : List (D × D)} {xs : List (NestedKey × Addr × Value)}, RD2 K m H ps xs → RD2 K m H (ps ++ [(d, x)]) (xs ++ [(k, b, u)])
  | [], _, h => by cases h; exact ⟨k, b, v, u, [], rfl, hk, hd, rd, rx, ru, rfl⟩
  | p :: ps, _, ⟨j, c, w, u', xs', e, hj, hd', r1, r2, r3, t⟩ => by
    subst e
    exact ⟨j, c, w, u', _, rfl, hj, hd', r1, r2, r3, RD2.snoc hk hd rd rx ru t⟩
theorem RD2.put {d x : D} {k : NestedKey} {b : Addr} {v : V} {u : Value} {ps : List (D × D)} {xs : List (NestedKey × Addr × Value)} (r : RD2 K m H ps xs) (hk : nkey d = some k) (hd : k.depth ≤ 8) (rd : RV K m H d (.ref b)) (rx : RV K m H x v) (ru : RelV v u) : RD2 K m H (putD ps d x) (storedH xs k b u) := by
  unfold putD storedH
  rw [RD2.any hk r]
  split
  · exact RD2.repl hk rx ru r
  · exact RD2.snoc hk hd rd rx ru r
end
section
variable {cl : Cl} {X : Cx} {E : XK}
theorem RVn.isSome {K : PySem.W.Frag} {m : List Addr} {H : Hp} : ∀ {o : Option D} {u : Option (Addr × Value)}, RVn K m H o u → o.isSome = u.isSome
  | none, _, h => by cases h; rfl
  | some _, _, ⟨p, v, e, _⟩ => by subst e; rfl
end
end DL

namespace DL
open PySem PySem.Spec PyProof.Rows L2
section
variable {X : Cx}
end
end DL

namespace DL
open PySem PySem.Spec PyProof.Rows L2
section
variable {cl : Cl} {X : Cx} {E : XK}
end
end DL

namespace DL
open PySem PySem.Spec PyProof.Rows L2
section
variable {cl : Cl} {X : Cx} {E : XK}
end
end DL

namespace DL
open PySem PySem.Spec PyProof.Rows L2
section
variable {cl : Cl} {X : Cx} {E : XK}
end
end DL

namespace DL
open PySem PySem.Spec PyProof.Rows L2
section
variable {cl : Cl} {X : Cx} {E : XK}
end
end DL

namespace DL
open PySem PySem.Spec PyProof.Rows L2
section
variable {prog : Program} {w : World} {A : Around} {E : Value → Shared → Prop} {s : Shared} {z TI TO T i1 i2 : Addr} {fp1 fp2 : List Addr} {n1 n2 i : Nat} {P1 P2 : Nat → Value → Prop} {St1 St2 : Nat → Heap → Prop} {f : Bool} {oT : Obj}
end
section
variable {prog : Program} {w : World}
end
end DL

namespace DL
open PySem PySem.Spec PyProof.Rows L2
section
variable {cl : Cl} {X : Cx} {E : XK}
end
end DL

namespace DL
open PySem PySem.Spec PyProof.Rows L2
section
variable {cl : Cl} {X : Cx} {E : XK}
end
end DL

namespace DL
open PySem PySem.Spec PyProof.Rows L2
section
variable {prog : Program} {w : World} {A : Around} {R : Result → Shared → Prop} {I : Addr} {fp wr : List Addr} {n : Nat} {P : Nat → Value → Prop} {St : Nat → Heap → Prop} {h0 : Heap}
end
section
variable {cl : Cl} {X : Cx} {E : XK}
end
end DL

namespace DL
open PySem PySem.Spec PyProof.Rows L2
section
variable {cl : Cl} {X : Cx} {E : XK}
end
end DL
namespace DL
open PySem PySem.Spec PyProof.Rows L2
section
variable {cl : Cl} {X : Cx} {E : XK}
end
end DL

namespace DL
open PySem PySem.Spec PyProof.Rows L2
def Wp {α : Type} (r : Res α) (Q : α → Sto → Prop) (X : Exc → Sto → Prop) : Prop := match r with
  | .ok a S => Q a S
  | .exc x S => X x S
  | .stuck => False
def kB {α β : Type} (k : α → Sto → Res β) (Q : β → Sto → Prop) (X : Exc → Sto → Prop) (a : α) (S : Sto) : Prop := Wp (k a S) Q X
theorem kB_ap {α β : Type} {k : α → Sto → Res β} {Q : β → Sto → Prop} {X : Exc → Sto → Prop} {a : α} {S : Sto} : kB k Q X a S = Wp (k a S) Q X := rfl
theorem w_bind {α β : Type} {r : Res α} {k : α → Sto → Res β} {Q : β → Sto → Prop} {X : Exc → Sto → Prop} : Wp (r.bind k) Q X = Wp r (kB k Q X) X := by cases r <;> rfl
theorem w_ok {α : Type} {a : α} {S : Sto} {Q : α → Sto → Prop} {X : Exc → Sto → Prop} : Wp (.ok a S) Q X = Q a S := rfl
theorem w_exc {α : Type} {x : Exc} {S : Sto} {Q : α → Sto → Prop} {X : Exc → Sto → Prop} : Wp (.exc x S) Q X = X x S := rfl
theorem w_stuck {α : Type} {Q : α → Sto → Prop} {X : Exc → Sto → Prop} : Wp .stuck Q X = False := rfl
theorem w_ite {α : Type} {c : Prop} [Decidable c] {r s : Res α} {Q : α → Sto → Prop} {X : Exc → Sto → Prop} (h : c) : Wp (if c then r else s) Q X = Wp r Q X := by rw [if_pos h]
theorem Wp.mono {α : Type} {r : Res α} {Q Q' : α → Sto → Prop} {X X' : Exc → Sto → Prop} (h : Wp r Q X) (hq : ∀ a S, Q a S → Q' a S) (hx : ∀ x S, X x S → X' x S) : Wp r Q' X' := by
  cases r with
  | ok a S => exact hq a S h
  | exc x S => exact hx x S h
  | stuck => exact h
theorem Wp.ok {α : Type} {r : Res α} {Q : α → Sto → Prop} (h : Wp r Q (fun _ _ => False)) : ∃ a S, r = .ok a S ∧ Q a S := by
  cases r with
  | ok a S => exact ⟨a, S, rfl, h⟩
  | exc x S => exact h.elim
  | stuck => exact h.elim
def kFn (Q : D → Sto → Prop) : Fl → Sto → Prop
  | .nx _, S => Q .non S
  | .ret d, S => Q d S
  | _, _ => False
theorem w_dFn {n : Nat} {Fb : Sl → Sto → Res Fl} {ds : List D} {S : Sto} {Q : D → Sto → Prop} {X : Exc → Sto → Prop} : Wp (dFn n Fb ds S) Q X = Wp (Fb (startD n ds) S) (kFn Q) X := by
  unfold dFn
  cases h : Fb (startD n ds) S with
  | ok fl S1 => cases fl <;> rfl
  | exc x S1 => rfl
  | stuck => rfl
theorem kFn_nx {Q : D → Sto → Prop} {sd : Sl} {S : Sto} : kFn Q (.nx sd) S = Q .non S := rfl
theorem kFn_ret {Q : D → Sto → Prop} {d : D} {S : Sto} : kFn Q (.ret d) S = Q d S := rfl
theorem w_sTry {Fb : Sl → Sto → Res Fl} {Fx : Exc → Sto → Res D} {sd : Sl} {S : Sto} {Q : Fl → Sto → Prop} {X : Exc → Sto → Prop} : Wp (sTry Fb Fx sd S) Q X = Wp (Fb sd S) Q (fun x S => Wp (Fx x S) (fun d S => Q (.ret d) S) X) := by
  unfold sTry
  cases Fb sd S with
  | ok fl S1 => rfl
  | exc x S1 =>
    show Wp ((Fx x S1).bind _) Q X = _
    rw [w_bind]; rfl
  | stuck => rfl
theorem w_dKind {Fx : Exc → Sto → Res D} {fb : Sl → Sto → Res D} {sd : Sl} {S : Sto} {Q : D → Sto → Prop} {X : Exc → Sto → Prop} : Wp (dKind Fx fb sd S) Q X = Wp (fb sd S) Q (fun x S => Wp (Fx x S) Q (fun _ _ => False)) := by
  unfold dKind
  cases fb sd S with
  | ok d S1 => rfl
  | exc x S1 =>
    show Wp (match Fx x S1 with
      | .ok d S2 => .ok d S2
      | _ => .stuck) Q X = _
    show _ = Wp (Fx x S1) Q _
    cases Fx x S1 <;> rfl
  | stuck => rfl
theorem w_sFor {fi : Sl → Sto → Res ItD} {ga : D → Sl → Sto → Res Sl} {fb : Sl → Sto → Res Fl} {sd : Sl} {S : Sto} {Q : Fl → Sto → Prop} {X : Exc → Sto → Prop} :
    Wp (sFor fi ga fb sd S) Q X = Wp (fi sd S) (kB (fun it S1 => loopD it.chk ga fb it.items sd S1) Q X) X := w_bind
theorem w_loop {chk : Sto → Bool} {ga : D → Sl → Sto → Res Sl} {fb : Sl → Sto → Res Fl} {Q : Fl → Sto → Prop} {X : Exc → Sto → Prop} (I : List D → Sl → Sto → Prop) (hc : ∀ xs sd S, I xs sd S → chk S = true)
    (h0 : ∀ sd S, I [] sd S → Q (.nx sd) S)
    (h1 : ∀ x xs sd S, I (x :: xs) sd S → Wp (ga x sd S) (fun sd1 S1 => Wp (fb sd1 S1) (fun fl S2 => match fl with
      | .nx sd2 => I xs sd2 S2
      | .cnt sd2 => I xs sd2 S2
      | .brk sd2 => Q (.nx sd2) S2
      | .ret d => Q (.ret d) S2) X) X) :
    ∀ xs sd S, I xs sd S → Wp (loopD chk ga fb xs sd S) Q X := by
  intro xs
  induction xs with
  | nil =>
    intro sd S h
    unfold loopD
    rw [if_pos (hc _ _ _ h)]
    exact h0 sd S h
  | cons x xs ih =>
    intro sd S h
    unfold loopD
    rw [if_pos (hc _ _ _ h), w_bind]
    refine Wp.mono (h1 x xs sd S h) (fun sd1 S1 h2 => ?_) fun _ _ z => z
    show Wp ((fb sd1 S1).bind _) Q X
    rw [w_bind]
    refine Wp.mono h2 (fun fl S2 h3 => ?_) fun _ _ z => z
    show Wp (match fl with
      | .nx sd2 => loopD chk ga fb xs sd2 S2
      | .cnt sd2 => loopD chk ga fb xs sd2 S2
      | .brk sd2 => .ok (.nx sd2) S2
      | .ret d => .ok (.ret d) S2) Q X
    cases fl with
    | nx sd2 => exact ih sd2 S2 h3
    | cnt sd2 => exact ih sd2 S2 h3
    | brk sd2 => exact h3
    | ret d => exact h3
theorem z6 {ga : D → Sl → Sto → Res Sl} {fb : Sl → Sto → Res Fl} {sd : Sl} {S : Sto} {Q : Fl → Sto → Prop} {X : Exc → Sto → Prop} : Wp (loopD yes ga fb [] sd S) Q X = Q (.nx sd) S := rfl
theorem z4 {ga : D → Sl → Sto → Res Sl} {fb : Sl → Sto → Res Fl} {x : D} {xs : List D} {sd : Sl} {S : Sto} {Q : Fl → Sto → Prop} {X : Exc → Sto → Prop} : Wp (loopD yes ga fb (x :: xs) sd S) Q X =
    Wp ((ga x sd S).bind fun sd1 S1 => (fb sd1 S1).bind fun fl S2 => match fl with
      | .nx sd2 => loopD yes ga fb xs sd2 S2
      | .cnt sd2 => loopD yes ga fb xs sd2 S2
      | .brk sd2 => .ok (.nx sd2) S2
      | .ret d => .ok (.ret d) S2) Q X := rfl
theorem w_dVar {i : Nat} {sd : Sl} {S : Sto} {Q : D → Sto → Prop} {X : Exc → Sto → Prop} : Wp (dVar i  sd S) Q X = Wp (match sd[i]? with
  | some (some d) => .ok d S
  | _ => .stuck) Q X := rfl
theorem w_dC {d : D} {sd : Sl} {S : Sto} {Q : D → Sto → Prop} {X : Exc → Sto → Prop} : Wp (dC d  sd S) Q X = Wp (.ok d S) Q X := rfl
theorem w_dNil {sd : Sl} {S : Sto} {Q : (List D) → Sto → Prop} {X : Exc → Sto → Prop} : Wp (dNil   sd S) Q X = Wp (.ok [] S) Q X := rfl
theorem w_dCons {f : Sl → Sto → Res D} {g : Sl → Sto → Res (List D)} {sd : Sl} {S : Sto} {Q : (List D) → Sto → Prop} {X : Exc → Sto → Prop} : Wp (dCons f g  sd S) Q X = Wp ((f sd S).bind fun d S1 => (g sd S1).bind fun ds S2 => .ok (d :: ds) S2) Q X := rfl
theorem w_dTup {f : Sl → Sto → Res (List D)} {sd : Sl} {S : Sto} {Q : D → Sto → Prop} {X : Exc → Sto → Prop} : Wp (dTup f  sd S) Q X = Wp ((f sd S).bind fun ds S1 => if ds.length ≤ sizeLine then .ok (.tup ds) S1 else .stuck) Q X := rfl
theorem w_dLst {f : Sl → Sto → Res (List D)} {sd : Sl} {S : Sto} {Q : D → Sto → Prop} {X : Exc → Sto → Prop} : Wp (dLst f  sd S) Q X = Wp ((f sd S).bind fun ds S1 => if ds.length ≤ sizeLine then .ok (.ref S1.length) (S1 ++ [.lst ds]) else .stuck) Q X := rfl
theorem w_d2 {g : D → D → Sto → Res D} {fa fb : Sl → Sto → Res D} {sd : Sl} {S : Sto} {Q : D → Sto → Prop} {X : Exc → Sto → Prop} : Wp (d2 g fa fb  sd S) Q X = Wp ((fa sd S).bind fun x S1 => (fb sd S1).bind fun y S2 => g x y S2) Q X := rfl
theorem w_d2T {g : D → D → Sto → Res D} {fa fb : Sl → Sto → Res D} {sd : Sl} {S : Sto} {Q : Bool → Sto → Prop} {X : Exc → Sto → Prop} : Wp (d2T g fa fb  sd S) Q X = Wp ((d2 g fa fb sd S).bind fun d S1 => match d with
  | .bl b => .ok b S1
  | _ => .stuck) Q X := rfl
theorem w_d3 {g g' : D → D → Sto → Res D} {fa fb fc : Sl → Sto → Res D} {sd : Sl} {S : Sto} {Q : D → Sto → Prop} {X : Exc → Sto → Prop} : Wp (d3 g g' fa fb fc  sd S) Q X = Wp ((fa sd S).bind fun x S1 => (fb sd S1).bind fun y S2 => (g x y S2).bind fun z S3 => match z with
  | .bl true => (fc sd S3).bind fun w S4 => g' y w S4
  | .bl false => .ok (.bl false) S3
  | _ => .stuck) Q X := rfl
theorem w_d3T {g g' : D → D → Sto → Res D} {fa fb fc : Sl → Sto → Res D} {sd : Sl} {S : Sto} {Q : Bool → Sto → Prop} {X : Exc → Sto → Prop} : Wp (d3T g g' fa fb fc  sd S) Q X = Wp ((d3 g g' fa fb fc sd S).bind fun d S1 => match d with
  | .bl b => .ok b S1
  | _ => .stuck) Q X := rfl
theorem w_tstB {f : Sl → Sto → Res D} {sd : Sl} {S : Sto} {Q : Bool → Sto → Prop} {X : Exc → Sto → Prop} : Wp (tstB f  sd S) Q X = Wp ((f sd S).bind fun d S1 => match d with
  | .bl b => .ok b S1
  | _ => .stuck) Q X := rfl
theorem w_tAndD {f g : Sl → Sto → Res Bool} {sd : Sl} {S : Sto} {Q : Bool → Sto → Prop} {X : Exc → Sto → Prop} : Wp (tAndD f g  sd S) Q X = Wp ((f sd S).bind fun b S1 => if b then g sd S1 else .ok false S1) Q X := rfl
theorem w_tOrD {f g : Sl → Sto → Res Bool} {sd : Sl} {S : Sto} {Q : Bool → Sto → Prop} {X : Exc → Sto → Prop} : Wp (tOrD f g  sd S) Q X = Wp ((f sd S).bind fun b S1 => if b then .ok true S1 else g sd S1) Q X := rfl
theorem w_tNotD {f : Sl → Sto → Res Bool} {sd : Sl} {S : Sto} {Q : Bool → Sto → Prop} {X : Exc → Sto → Prop} : Wp (tNotD f  sd S) Q X = Wp ((f sd S).bind fun b S1 => .ok (!b) S1) Q X := rfl
theorem w_dAnd {f g : Sl → Sto → Res D} {sd : Sl} {S : Sto} {Q : D → Sto → Prop} {X : Exc → Sto → Prop} : Wp (dAnd f g  sd S) Q X = Wp ((f sd S).bind fun d S1 => match d with
  | .bl true => g sd S1
  | .bl false => .ok (.bl false) S1
  | _ => .stuck) Q X := rfl
theorem w_dOr {f g : Sl → Sto → Res D} {sd : Sl} {S : Sto} {Q : D → Sto → Prop} {X : Exc → Sto → Prop} : Wp (dOr f g  sd S) Q X = Wp ((f sd S).bind fun d S1 => match d with
  | .bl true => .ok (.bl true) S1
  | .bl false => g sd S1
  | _ => .stuck) Q X := rfl
theorem w_dNot {f : Sl → Sto → Res D} {sd : Sl} {S : Sto} {Q : D → Sto → Prop} {X : Exc → Sto → Prop} : Wp (dNot f  sd S) Q X = Wp ((f sd S).bind fun d S1 => match d with
  | .bl b => .ok (.bl (!b)) S1
  | _ => .stuck) Q X := rfl
theorem w_dIf {c : Sl → Sto → Res Bool} {f g : Sl → Sto → Res D} {sd : Sl} {S : Sto} {Q : D → Sto → Prop} {X : Exc → Sto → Prop} : Wp (dIf c f g  sd S) Q X = Wp ((c sd S).bind fun b S1 => if b then f sd S1 else g sd S1) Q X := rfl
theorem w_dNeg {f : Sl → Sto → Res D} {sd : Sl} {S : Sto} {Q : D → Sto → Prop} {X : Exc → Sto → Prop} : Wp (dNeg f  sd S) Q X = Wp ((f sd S).bind fun d S1 => match d with
  | .int i => .ok (.int (-i)) S1
  | _ => .stuck) Q X := rfl
theorem w_sNext {sd : Sl} {S : Sto} {Q : Fl → Sto → Prop} {X : Exc → Sto → Prop} : Wp (sNext   sd S) Q X = Wp (.ok (.nx sd) S) Q X := rfl
theorem w_sSeq {f g : Sl → Sto → Res Fl} {sd : Sl} {S : Sto} {Q : Fl → Sto → Prop} {X : Exc → Sto → Prop} : Wp (sSeq f g  sd S) Q X = Wp ((f sd S).bind fun fl S1 => match fl with
  | .nx sd1 => g sd1 S1
  | r => .ok r S1) Q X := rfl
theorem w_sIf {c : Sl → Sto → Res Bool} {f g : Sl → Sto → Res Fl} {sd : Sl} {S : Sto} {Q : Fl → Sto → Prop} {X : Exc → Sto → Prop} : Wp (sIf c f g  sd S) Q X = Wp ((c sd S).bind fun b S1 => if b then f sd S1 else g sd S1) Q X := rfl
theorem w_sRet {f : Sl → Sto → Res D} {sd : Sl} {S : Sto} {Q : Fl → Sto → Prop} {X : Exc → Sto → Prop} : Wp (sRet f  sd S) Q X = Wp ((f sd S).bind fun d S1 => .ok (.ret d) S1) Q X := rfl
theorem w_sExpr {f : Sl → Sto → Res D} {sd : Sl} {S : Sto} {Q : Fl → Sto → Prop} {X : Exc → Sto → Prop} : Wp (sExpr f  sd S) Q X = Wp ((f sd S).bind fun _ S1 => .ok (.nx sd) S1) Q X := rfl
theorem w_sAsg {f : Sl → Sto → Res D} {g : D → Sl → Sto → Res Sl} {sd : Sl} {S : Sto} {Q : Fl → Sto → Prop} {X : Exc → Sto → Prop} : Wp (sAsg f g  sd S) Q X = Wp ((f sd S).bind fun d S1 => (g d sd S1).bind fun sd1 S2 => .ok (.nx sd1) S2) Q X := rfl
theorem w_gVar {i : Nat} {d : D} {sd : Sl} {S : Sto} {Q : Sl → Sto → Prop} {X : Exc → Sto → Prop} : Wp (gVar i d sd S) Q X = Wp (.ok (sd.set i (some d)) S) Q X := rfl
theorem w_sBrk {sd : Sl} {S : Sto} {Q : Fl → Sto → Prop} {X : Exc → Sto → Prop} : Wp (sBrk   sd S) Q X = Wp (.ok (.brk sd) S) Q X := rfl
theorem w_gsNil {ds : List D} {sd : Sl} {S : Sto} {Q : Sl → Sto → Prop} {X : Exc → Sto → Prop} : Wp (gsNil  ds sd S) Q X = Wp (match ds with
  | [] => .ok sd S
  | _ => .stuck) Q X := rfl
theorem w_gsCons {g : D → Sl → Sto → Res Sl} {k : List D → Sl → Sto → Res Sl} {ds : List D} {sd : Sl} {S : Sto} {Q : Sl → Sto → Prop} {X : Exc → Sto → Prop} : Wp (gsCons g k ds sd S) Q X = Wp (match ds with
  | d :: r => (g d sd S).bind fun sd1 S1 => k r sd1 S1
  | _ => .stuck) Q X := rfl
theorem w_gTupD {n : Nat} {k : List D → Sl → Sto → Res Sl} {d : D} {sd : Sl} {S : Sto} {Q : Sl → Sto → Prop} {X : Exc → Sto → Prop} : Wp (gTupD n k d sd S) Q X = Wp (match d with
  | .tup ds => if ds.length = n then k ds sd S else .stuck
  | d => match lsD d S with
    | some ds => if ds.length = n then k ds sd S else .stuck
    | _ => .stuck) Q X := rfl
theorem w_sPar {i j : Nat} {f : Sl → Sto → Res (List D)} {sd : Sl} {S : Sto} {Q : Fl → Sto → Prop} {X : Exc → Sto → Prop} : Wp (sPar i j f  sd S) Q X = Wp ((f sd S).bind fun ds S1 => match ds with
  | [x, y] => .ok (.nx ((sd.set i (some x)).set j (some y))) S1
  | _ => .stuck) Q X := rfl
theorem w_iVal {f : Sl → Sto → Res D} {sd : Sl} {S : Sto} {Q : ItD → Sto → Prop} {X : Exc → Sto → Prop} : Wp (iVal f  sd S) Q X = Wp ((f sd S).bind fun d S1 => match itemsD d S1 with
  | some it => .ok it S1
  | none => .stuck) Q X := rfl
theorem w_iEnumD {f : Sl → Sto → Res D} {sd : Sl} {S : Sto} {Q : ItD → Sto → Prop} {X : Exc → Sto → Prop} : Wp (iEnumD f  sd S) Q X = Wp ((f sd S).bind fun d S1 => match itemsD d S1 with
  | some it => .ok ⟨enumL 0 it.items, it.chk⟩ S1
  | none => .stuck) Q X := rfl
theorem w_iZipD {f g : Sl → Sto → Res D} {sd : Sl} {S : Sto} {Q : ItD → Sto → Prop} {X : Exc → Sto → Prop} : Wp (iZipD f g  sd S) Q X = Wp ((f sd S).bind fun d S1 => (g sd S1).bind fun e S2 => match itemsD d S2, itemsD e S2 with
  | some it, some jt => .ok ⟨zipL it.items jt.items, fun S => it.chk S && jt.chk S⟩ S2
  | _, _ => .stuck) Q X := rfl
theorem w_iRngD1 {f : Sl → Sto → Res D} {sd : Sl} {S : Sto} {Q : ItD → Sto → Prop} {X : Exc → Sto → Prop} : Wp (iRngD1 f  sd S) Q X = Wp ((f sd S).bind fun d S1 => match d with
  | .int j => if bnd 62 j = true then .ok ⟨rangeL 0 j.toNat, yes⟩ S1 else .stuck
  | _ => .stuck) Q X := rfl
theorem w_iRngD2 {f g : Sl → Sto → Res D} {sd : Sl} {S : Sto} {Q : ItD → Sto → Prop} {X : Exc → Sto → Prop} : Wp (iRngD2 f g  sd S) Q X = Wp ((f sd S).bind fun d S1 => (g sd S1).bind fun e S2 => match d, e with
  | .int i, .int j => if bnd 62 i = true ∧ bnd 62 j = true then .ok ⟨rangeL i (j - i).toNat, yes⟩ S2 else .stuck
  | _, _ => .stuck) Q X := rfl
theorem w_dComp {vs : List Nat} {fi : Sl → Sto → Res ItD} {ga : D → Sl → Sto → Res Sl} {ft : Sl → Sto → Res Bool} {fe : Sl → Sto → Res D} {sd : Sl} {S : Sto} {Q : D → Sto → Prop} {X : Exc → Sto → Prop} : Wp (dComp vs fi ga ft fe  sd S) Q X = Wp ((fi sd S).bind fun it S1 => (compD it.chk ga ft fe S1.length (wipeD sd vs) it.items (S1 ++ [.lst []])).bind fun _ S2 => .ok (.ref S1.length) S2) Q X := rfl
theorem w_tYesD {sd : Sl} {S : Sto} {Q : Bool → Sto → Prop} {X : Exc → Sto → Prop} : Wp (tYesD   sd S) Q X = Wp (.ok true S) Q X := rfl
theorem w_gSubD {set : D → D → D → Sto → Res Unit} {fo fi : Sl → Sto → Res D} {v : D} {sd : Sl} {S : Sto} {Q : Sl → Sto → Prop} {X : Exc → Sto → Prop} : Wp (gSubD set fo fi v sd S) Q X = Wp ((fo sd S).bind fun o S1 => (fi sd S1).bind fun i S2 => (set o i v S2).bind fun _ S3 => .ok sd S3) Q X := rfl
theorem w_oNone {sd : Sl} {S : Sto} {Q : (Option Int) → Sto → Prop} {X : Exc → Sto → Prop} : Wp (oNone   sd S) Q X = Wp (.ok none S) Q X := rfl
theorem w_oSome {f : Sl → Sto → Res D} {sd : Sl} {S : Sto} {Q : (Option Int) → Sto → Prop} {X : Exc → Sto → Prop} : Wp (oSome f  sd S) Q X = Wp ((f sd S).bind fun d S1 => match d with
  | .int i => .ok (some i) S1
  | _ => .stuck) Q X := rfl
theorem w_dSlice {f : Sl → Sto → Res D} {g h : Sl → Sto → Res (Option Int)} {sd : Sl} {S : Sto} {Q : D → Sto → Prop} {X : Exc → Sto → Prop} : Wp (dSlice f g h  sd S) Q X = Wp ((f sd S).bind fun x S1 => (g sd S1).bind fun lo S2 => (h sd S2).bind fun hi S3 => sliceD x lo hi S3) Q X := rfl
theorem w_dCall {g : List D → Sto → Res D} {f : Sl → Sto → Res (List D)} {sd : Sl} {S : Sto} {Q : D → Sto → Prop} {X : Exc → Sto → Prop} : Wp (dCall g f  sd S) Q X = Wp ((f sd S).bind fun ds S1 => g ds S1) Q X := rfl
theorem w_dFld {cs : List Nat} {f : Str} {fo : Sl → Sto → Res D} {sd : Sl} {S : Sto} {Q : D → Sto → Prop} {X : Exc → Sto → Prop} : Wp (dFld cs f fo  sd S) Q X = Wp ((fo sd S).bind fun d S1 => getF cs f d S1) Q X := rfl
theorem w_sFldD {cs : List Nat} {f : Str} {fo fv : Sl → Sto → Res D} {sd : Sl} {S : Sto} {Q : Fl → Sto → Prop} {X : Exc → Sto → Prop} : Wp (sFldD cs f fo fv  sd S) Q X = Wp ((fv sd S).bind fun v S1 => (fo sd S1).bind fun o S2 => (setF cs f o v S2).bind fun _ S3 => .ok (.nx sd) S3) Q X := rfl
theorem w_gFldD {cs : List Nat} {f : Str} {fo : Sl → Sto → Res D} {v : D} {sd : Sl} {S : Sto} {Q : Sl → Sto → Prop} {X : Exc → Sto → Prop} : Wp (gFldD cs f fo v sd S) Q X = Wp ((fo sd S).bind fun o S2 => (setF cs f o v S2).bind fun _ S3 => .ok sd S3) Q X := rfl
theorem w_dCallF {n : Nat} {F : List D → Sto → Res D} {fs : Sl → Sto → Res (List D)} {sd : Sl} {S : Sto} {Q : D → Sto → Prop} {X : Exc → Sto → Prop} : Wp (dCallF n F fs  sd S) Q X = Wp ((fs sd S).bind fun ds S1 => if ds.length = n then F ds S1 else .stuck) Q X := rfl
theorem w_dMeth {c : Nat} {m : Str} {n : Nat} {F : List D → Sto → Res D} {fo : Sl → Sto → Res D} {fs : Sl → Sto → Res (List D)} {sd : Sl} {S : Sto} {Q : D → Sto → Prop} {X : Exc → Sto → Prop} : Wp (dMeth c m n F fo fs  sd S) Q X = Wp ((fo sd S).bind fun d S1 => match d with
  | .ref l => match S1[l]? with
    | some (.ins c' gs) => if c' = c ∧ gs.lookup m = none then (fs sd S1).bind fun ds S2 => if ds.length + 1 = n then F (d :: ds) S2 else .stuck else .stuck
    | _ => .stuck
  | _ => .stuck) Q X := rfl
theorem w_dMake {c : Nat} {n : Nat} {F : List D → Sto → Res D} {fs : Sl → Sto → Res (List D)} {sd : Sl} {S : Sto} {Q : D → Sto → Prop} {X : Exc → Sto → Prop} : Wp (dMake c n F fs  sd S) Q X = Wp ((fs sd S).bind fun ds S1 => if ds.length + 1 = n then (F (.ref S1.length :: ds) (S1 ++ [.ins c []])).bind fun r S2 => match r with
    | .non => .ok (.ref S1.length) S2
    | _ => .stuck
  else .stuck) Q X := rfl
theorem w_sRaise {c : Nat} {fs : List Str} {fa : Sl → Sto → Res (List D)} {sd : Sl} {S : Sto} {Q : Fl → Sto → Prop} {X : Exc → Sto → Prop} : Wp (sRaise c fs fa  sd S) Q X = Wp ((fa sd S).bind fun ds S1 => match fs, ds with
  | [f], [d] => .exc ⟨c, some [(f, d)]⟩ S1
  | [f, g], [d, e] => .exc ⟨c, some [(g, e), (f, d)]⟩ S1
  | _, _ => .stuck) Q X := rfl
theorem w_sRaiseT {c : Nat} {sd : Sl} {S : Sto} {Q : Fl → Sto → Prop} {X : Exc → Sto → Prop} : Wp (sRaiseT c  sd S) Q X = Wp (.exc ⟨c, none⟩ S) Q X := rfl
theorem w_dExF {i : Nat} {a : Addr} {d : Option Addr} {f : Str} {sd : Sl} {S : Sto} {Q : D → Sto → Prop} {X : Exc → Sto → Prop} : Wp (dExF i a d f  sd S) Q X = Wp (match sd[i]? with
  | some (some (.exn a' dd ns ds)) => if a' = a ∧ d = some dd ∧ ns ≠ [] then (match lookN ns ds f with
    | some v => .ok v S
    | none => .stuck) else .stuck
  | _ => .stuck) Q X := rfl
theorem w_dExI {i : Nat} {a : Addr} {d : Option Addr} {b : Bool} {sd : Sl} {S : Sto} {Q : D → Sto → Prop} {X : Exc → Sto → Prop} : Wp (dExI i a d b  sd S) Q X = Wp (match sd[i]? with
  | some (some (.exn a' dd ns _)) => if a' = a ∧ (d = none ∨ (d = some dd ∧ ns ≠ [])) then .ok (.bl b) S else .stuck
  | _ => .stuck) Q X := rfl
theorem w_dExFc {i : Nat} {c : Nat} {cs : List Nat} {a : Addr} {d : Option Addr} {f : Str} {sd : Sl} {S : Sto} {Q : D → Sto → Prop} {X : Exc → Sto → Prop} : Wp (dExFc i c cs a d f  sd S) Q X = Wp (if c ∈ cs then dExF i a d f sd S else .stuck) Q X := rfl
theorem w_dBm {T : String} {g : D → List D → Sto → Res D} {fo : Sl → Sto → Res D} {fs : Sl → Sto → Res (List D)} {sd : Sl} {S : Sto} {Q : D → Sto → Prop} {X : Exc → Sto → Prop} : Wp (dBm T g fo fs  sd S) Q X = Wp ((fo sd S).bind fun d S1 => if isTy T d S1 then (fs sd S1).bind fun ds S2 => g d ds S2 else .stuck) Q X := rfl
theorem w_dIsi {ts : List String} {f : Sl → Sto → Res D} {sd : Sl} {S : Sto} {Q : D → Sto → Prop} {X : Exc → Sto → Prop} : Wp (dIsi ts f  sd S) Q X = Wp ((f sd S).bind fun d S1 => match tyS d S1 with
  | some t => .ok (.bl (ts.any fun b => isT t b)) S1
  | none => .stuck) Q X := rfl
theorem w_dFrz {f : Sl → Sto → Res D} {sd : Sl} {S : Sto} {Q : D → Sto → Prop} {X : Exc → Sto → Prop} : Wp (dFrz f  sd S) Q X = Wp ((f sd S).bind fun d S1 => frzD S d S1) Q X := rfl
theorem w_dLstF {f : Sl → Sto → Res (List D)} {sd : Sl} {S : Sto} {Q : D → Sto → Prop} {X : Exc → Sto → Prop} : Wp (dLstF f  sd S) Q X = Wp ((f sd S).bind fun ds S1 => if ds.length ≤ sizeLine then .ok (.frl ds) S1 else .stuck) Q X := rfl
theorem w_dSliceF {f : Sl → Sto → Res D} {g h : Sl → Sto → Res (Option Int)} {sd : Sl} {S : Sto} {Q : D → Sto → Prop} {X : Exc → Sto → Prop} : Wp (dSliceF f g h  sd S) Q X = Wp ((f sd S).bind fun x S1 => (g sd S1).bind fun lo S2 => (h sd S2).bind fun hi S3 => sliceF x lo hi S3) Q X := rfl
-- w_dVar, w_dC, w_dNil, w_dCons, w_dTup, w_dLst, w_d2, w_d2T, w_d3, w_d3T, w_tstB, w_tAndD, w_tOrD, w_tNotD, w_dAnd, w_dOr, w_dNot, w_dIf, w_dNeg, w_sNext, w_sSeq, w_sIf, w_sRet, w_sExpr, w_sAsg, w_gVar, w_sBrk, w_gsNil, w_gsCons, w_gTupD, w_sPar, w_iVal, w_iEnumD, w_iZipD, w_iRngD1, w_iRngD2, w_dComp, w_tYesD, w_gSubD, w_oNone, w_oSome, w_dSlice, w_dCall, w_dFld, w_sFldD, w_gFldD, w_dCallF, w_dMeth, w_dMake, w_sRaise, w_sRaiseT, w_dExF, w_dExI, w_dExFc, w_dBm, w_dIsi, w_dFrz, w_dLstF, w_dSliceF

section
variable {S : Sto} {Q : D → Sto → Prop} {X : Exc → Sto → Prop}
theorem w_addI {a b : Int} : Wp (addD (.int a) (.int b) S) Q X = Q (.int (a + b)) S := rfl
theorem w_subI {a b : Int} : Wp (subD (.int a) (.int b) S) Q X = Q (.int (a - b)) S := rfl
theorem w_modI {a b : Int} (h : 0 < b) : Wp (modD (.int a) (.int b) S) Q X = Q (.int (a % b)) S := by simp only [modD, if_pos h]; rfl
theorem w_fdivI {a b : Int} (h : fdOk b = true) : Wp (fdivD (.int a) (.int b) S) Q X = Q (.int (a / b)) S := by simp only [fdivD, if_pos h]; rfl
theorem w_mulI {a b : Int} (h : (bnd 63 a || bnd 63 b) = true) : Wp (mulD (.int a) (.int b) S) Q X = Q (.int (a * b)) S := by simp only [mulD, if_pos h]; rfl
theorem w_ltI {a b : Int} : Wp (ltD (.int a) (.int b) S) Q X = Q (.bl (decide (a < b))) S := rfl
theorem w_leI {a b : Int} : Wp (leD (.int a) (.int b) S) Q X = Q (.bl (decide (a ≤ b))) S := rfl
theorem w_gtI {a b : Int} : Wp (gtD (.int a) (.int b) S) Q X = Q (.bl (decide (b < a))) S := rfl
theorem w_geI {a b : Int} : Wp (geD (.int a) (.int b) S) Q X = Q (.bl (decide (b ≤ a))) S := rfl
theorem w_eqI {a b : Int} : Wp (eqD (.int a) (.int b) S) Q X = Q (.bl (decide (a = b))) S := rfl
theorem w_neI {a b : Int} : Wp (neD (.int a) (.int b) S) Q X = Q (.bl (!decide (a = b))) S := rfl
theorem w_eqS {a b : Str} : Wp (eqD (.str a) (.str b) S) Q X = Q (.bl (decide (a = b))) S := rfl
theorem w_neS {a b : Str} : Wp (neD (.str a) (.str b) S) Q X = Q (.bl (!decide (a = b))) S := rfl
theorem w_lenT {ds : List D} : Wp (lenD [.tup ds] S) Q X = Q (.int (ds.length : Nat)) S := rfl
theorem w_lenF {ds : List D} : Wp (lenD [.frl ds] S) Q X = Q (.int (ds.length : Nat)) S := rfl
theorem w_lenS {z : Str} (h : z.length ≤ sizeLine) : Wp (lenD [.str z] S) Q X = Q (.int (z.length : Nat)) S := by simp only [lenD, if_pos h]; rfl
theorem w_ixT2 {ds : List D} {i : Int} : Wp (ixD (.tup ds) (.int i) S) Q X = Wp (match atI ds i with
  | some d => .ok d S
  | none => .stuck) Q X := rfl
theorem w_ixF2 {ds : List D} {i : Int} : Wp (ixD (.frl ds) (.int i) S) Q X = Wp (match atI ds i with
  | some d => .ok d S
  | none => .stuck) Q X := rfl
theorem w_ixL2 {l : Nat} {ds : List D} {i : Int} (hl : S[l]? = some (.lst ds)) : Wp (ixD (.ref l) (.int i) S) Q X = Wp (match atI ds i with
  | some d => .ok d S
  | none => .stuck) Q X := by simp only [ixD, hl] <;> rfl
theorem w_setL2 {l : Nat} {ds : List D} {i : Int} {v : D} {Q : Unit → Sto → Prop} (hl : S[l]? = some (.lst ds)) : Wp (setD (.ref l) (.int i) v S) Q X = Wp (match ixN ds.length i with
  | some j => .ok () (S.set l (.lst (ds.set j v)))
  | none => .stuck) Q X := by simp only [setD, hl] <;> rfl
end
theorem atI_pos {α : Type} {xs : List α} {i : Int} (h : 0 ≤ i) : atI xs i = xs[i.toNat]? := by
  unfold atI ixN
  rw [if_pos h]
  by_cases hl : i < xs.length
  · rw [if_pos hl]; rfl
  · rw [if_neg hl]
    rw [List.getElem?_eq_none (by omega)]
    rfl
theorem ixN_nat {n : Nat} {i : Int} (h : 0 ≤ i) (h2 : i < n) : ixN n i = some i.toNat := by
  unfold ixN
  rw [if_pos h, if_pos h2]
theorem set_same {S : Sto} {l : Nat} {o : DO} (h : l < S.length) : (S.set l o)[l]? = some o := by rw [List.getElem?_set_self h]
def Grow (S S' : Sto) : Prop := ∃ T, S' = S ++ T
theorem Grow.refl (S : Sto) : Grow S S := ⟨[], by simp⟩
theorem Grow.trans {A B C : Sto} (a : Grow A B) (b : Grow B C) : Grow A C := by
  obtain ⟨T, rfl⟩ := a
  obtain ⟨U, rfl⟩ := b
  exact ⟨T ++ U, by simp⟩
theorem Grow.one (S : Sto) (o : DO) : Grow S (S ++ [o]) := ⟨[o], rfl⟩
theorem Grow.get {S S' : Sto} (g : Grow S S') {l : Nat} {o : DO} (h : S[l]? = some o) : S'[l]? = some o := by
  obtain ⟨T, rfl⟩ := g
  rw [List.getElem?_append_left (List.getElem?_eq_some_iff.mp h).1]; exact h
theorem Grow.len {S S' : Sto} (g : Grow S S') : S.length ≤ S'.length := by
  obtain ⟨T, rfl⟩ := g
  simp
theorem set_last {S : Sto} {o o' : DO} : (S ++ [o]).set S.length o' = S ++ [o'] := by
  rw [List.set_append_right _ _ (Nat.le_refl _)]
  simp
theorem wp_eq {α : Type} {r : Res α} {a : α} {S : Sto} {Q : α → Sto → Prop} {X : Exc → Sto → Prop} (h : r = .ok a S) : Wp r Q X = Q a S := by rw [h]; rfl
theorem eq_of_wp {α : Type} {r : Res α} {a : α} {S : Sto} (h : Wp r (fun d S' => d = a ∧ S' = S) (fun _ _ => False)) : r = .ok a S := by
  obtain ⟨d, S', e, rfl, rfl⟩ := h.ok
  exact e
theorem c_0 : ((0 : Nat) : Int) = 0 := rfl
theorem c_1 : ((1 : Nat) : Int) = 1 := rfl
theorem c_2 : ((2 : Nat) : Int) = 2 := rfl
theorem c_3 : ((3 : Nat) : Int) = 3 := rfl
theorem c_4 : ((4 : Nat) : Int) = 4 := rfl
theorem c_5 : ((5 : Nat) : Int) = 5 := rfl
theorem c_6 : ((6 : Nat) : Int) = 6 := rfl
theorem c_7 : ((7 : Nat) : Int) = 7 := rfl
theorem c_8 : ((8 : Nat) : Int) = 8 := rfl
theorem c_9 : ((9 : Nat) : Int) = 9 := rfl
theorem c_10 : ((10 : Nat) : Int) = 10 := rfl
theorem c_11 : ((11 : Nat) : Int) = 11 := rfl
theorem c_12 : ((12 : Nat) : Int) = 12 := rfl
theorem sz_0 : (0 ≤ sizeLine) = True := eq_true (by rw [sizeLine_eq]; omega)
theorem sz_1 : (1 ≤ sizeLine) = True := eq_true (by rw [sizeLine_eq]; omega)
theorem sz_2 : (2 ≤ sizeLine) = True := eq_true (by rw [sizeLine_eq]; omega)
theorem sz_3 : (3 ≤ sizeLine) = True := eq_true (by rw [sizeLine_eq]; omega)
theorem sz_4 : (4 ≤ sizeLine) = True := eq_true (by rw [sizeLine_eq]; omega)
theorem sz_5 : (5 ≤ sizeLine) = True := eq_true (by rw [sizeLine_eq]; omega)
theorem sz_6 : (6 ≤ sizeLine) = True := eq_true (by rw [sizeLine_eq]; omega)
theorem sz_7 : (7 ≤ sizeLine) = True := eq_true (by rw [sizeLine_eq]; omega)
theorem sz_8 : (8 ≤ sizeLine) = True := eq_true (by rw [sizeLine_eq]; omega)
theorem sz_9 : (9 ≤ sizeLine) = True := eq_true (by rw [sizeLine_eq]; omega)
theorem sz_10 : (10 ≤ sizeLine) = True := eq_true (by rw [sizeLine_eq]; omega)
theorem sz_11 : (11 ≤ sizeLine) = True := eq_true (by rw [sizeLine_eq]; omega)
theorem sz_12 : (12 ≤ sizeLine) = True := eq_true (by rw [sizeLine_eq]; omega)
theorem sz_13 : (13 ≤ sizeLine) = True := eq_true (by rw [sizeLine_eq]; omega)
theorem sz_14 : (14 ≤ sizeLine) = True := eq_true (by rw [sizeLine_eq]; omega)
theorem sz_15 : (15 ≤ sizeLine) = True := eq_true (by rw [sizeLine_eq]; omega)
theorem sz_16 : (16 ≤ sizeLine) = True := eq_true (by rw [sizeLine_eq]; omega)
theorem off {S T : Sto} {k : Nat} : (S ++ T)[S.length + k]? = T[k]? := by rw [List.getElem?_append_right (Nat.le_add_right _ _), Nat.add_sub_cancel_left]
theorem w_addFI {a b : Int} {S : Sto} {Q : D → Sto → Prop} {X : Exc → Sto → Prop} : Wp (addF (.int a) (.int b) S) Q X = Q (.int (a + b)) S := rfl
theorem w_addFL2 {a b : List D} {S : Sto} {Q : D → Sto → Prop} {X : Exc → Sto → Prop} : Wp (addF (.frl a) (.frl b) S) Q X = Wp (if a.length + b.length ≤ sizeLine then .ok (.frl (a ++ b)) S else .stuck) Q X := rfl
theorem w_addFT2 {a b : List D} {S : Sto} {Q : D → Sto → Prop} {X : Exc → Sto → Prop} : Wp (addF (.tup a) (.tup b) S) Q X = Wp (if a.length + b.length ≤ sizeLine then .ok (.tup (a ++ b)) S else .stuck) Q X := rfl
theorem w_addS {a b : Str} {S : Sto} {Q : D → Sto → Prop} {X : Exc → Sto → Prop} (h : a.length + b.length ≤ sizeLine) : Wp (addD (.str a) (.str b) S) Q X = Q (.str (a ++ b)) S := by simp only [addD, if_pos h]; rfl
theorem w_frzI {i : Int} {S0 S : Sto} {Q : D → Sto → Prop} {X : Exc → Sto → Prop} : Wp (frzD S0 (.int i) S) Q X = Q (.int i) S := rfl
theorem w_frzS {i : Str} {S0 S : Sto} {Q : D → Sto → Prop} {X : Exc → Sto → Prop} : Wp (frzD S0 (.str i) S) Q X = Q (.str i) S := rfl
theorem w_frzT {i : List D} {S0 S : Sto} {Q : D → Sto → Prop} {X : Exc → Sto → Prop} : Wp (frzD S0 (.tup i) S) Q X = Q (.tup i) S := rfl
theorem w_frzF {i : List D} {S0 S : Sto} {Q : D → Sto → Prop} {X : Exc → Sto → Prop} : Wp (frzD S0 (.frl i) S) Q X = Q (.frl i) S := rfl
theorem w_frzN {S0 S : Sto} {Q : D → Sto → Prop} {X : Exc → Sto → Prop} : Wp (frzD S0 .non S) Q X = Q .non S := rfl
theorem w_frzB {i : Bool} {S0 S : Sto} {Q : D → Sto → Prop} {X : Exc → Sto → Prop} : Wp (frzD S0 (.bl i) S) Q X = Q (.bl i) S := rfl
theorem get_last {S : Sto} {o : DO} : (S ++ [o])[S.length]? = some o := by simp
theorem it_tuplelist_int : ((["tuple", "list"] : List String).any fun b => isT "int" b) = false := by decide +kernel
theorem it_tuplelist_str : ((["tuple", "list"] : List String).any fun b => isT "str" b) = false := by decide +kernel
theorem it_tuplelist_tuple : ((["tuple", "list"] : List String).any fun b => isT "tuple" b) = true := by decide +kernel
theorem it_tuplelist_list : ((["tuple", "list"] : List String).any fun b => isT "list" b) = true := by decide +kernel
theorem it_tuplelist_bool : ((["tuple", "list"] : List String).any fun b => isT "bool" b) = false := by decide +kernel
theorem it_tuplelist_NoneType : ((["tuple", "list"] : List String).any fun b => isT "NoneType" b) = false := by decide +kernel
theorem it_list_int : ((["list"] : List String).any fun b => isT "int" b) = false := by decide +kernel
theorem it_list_str : ((["list"] : List String).any fun b => isT "str" b) = false := by decide +kernel
theorem it_list_tuple : ((["list"] : List String).any fun b => isT "tuple" b) = false := by decide +kernel
theorem it_list_list : ((["list"] : List String).any fun b => isT "list" b) = true := by decide +kernel
theorem it_list_bool : ((["list"] : List String).any fun b => isT "bool" b) = false := by decide +kernel
theorem it_list_NoneType : ((["list"] : List String).any fun b => isT "NoneType" b) = false := by decide +kernel
theorem it_tuple_int : ((["tuple"] : List String).any fun b => isT "int" b) = false := by decide +kernel
theorem it_tuple_str : ((["tuple"] : List String).any fun b => isT "str" b) = false := by decide +kernel
theorem it_tuple_tuple : ((["tuple"] : List String).any fun b => isT "tuple" b) = true := by decide +kernel
theorem it_tuple_list : ((["tuple"] : List String).any fun b => isT "list" b) = false := by decide +kernel
theorem it_tuple_bool : ((["tuple"] : List String).any fun b => isT "bool" b) = false := by decide +kernel
theorem it_tuple_NoneType : ((["tuple"] : List String).any fun b => isT "NoneType" b) = false := by decide +kernel
theorem it_bool_int : ((["bool"] : List String).any fun b => isT "int" b) = false := by decide +kernel
theorem it_bool_str : ((["bool"] : List String).any fun b => isT "str" b) = false := by decide +kernel
theorem it_bool_tuple : ((["bool"] : List String).any fun b => isT "tuple" b) = false := by decide +kernel
theorem it_bool_list : ((["bool"] : List String).any fun b => isT "list" b) = false := by decide +kernel
theorem it_bool_bool : ((["bool"] : List String).any fun b => isT "bool" b) = true := by decide +kernel
theorem it_bool_NoneType : ((["bool"] : List String).any fun b => isT "NoneType" b) = false := by decide +kernel
theorem it_int_int : ((["int"] : List String).any fun b => isT "int" b) = true := by decide +kernel
theorem it_int_str : ((["int"] : List String).any fun b => isT "str" b) = false := by decide +kernel
theorem it_int_tuple : ((["int"] : List String).any fun b => isT "tuple" b) = false := by decide +kernel
theorem it_int_list : ((["int"] : List String).any fun b => isT "list" b) = false := by decide +kernel
theorem it_int_bool : ((["int"] : List String).any fun b => isT "bool" b) = true := by decide +kernel
theorem it_int_NoneType : ((["int"] : List String).any fun b => isT "NoneType" b) = false := by decide +kernel
theorem it_str_int : ((["str"] : List String).any fun b => isT "int" b) = false := by decide +kernel
theorem it_str_str : ((["str"] : List String).any fun b => isT "str" b) = true := by decide +kernel
theorem it_str_tuple : ((["str"] : List String).any fun b => isT "tuple" b) = false := by decide +kernel
theorem it_str_list : ((["str"] : List String).any fun b => isT "list" b) = false := by decide +kernel
theorem it_str_bool : ((["str"] : List String).any fun b => isT "bool" b) = false := by decide +kernel
theorem it_str_NoneType : ((["str"] : List String).any fun b => isT "NoneType" b) = false := by decide +kernel
theorem ty_int {i : Int} {S : Sto} : tyS (.int i) S = some "int" := rfl
theorem ty_str {i : Str} {S : Sto} : tyS (.str i) S = some "str" := rfl
theorem ty_tuple {i : List D} {S : Sto} : tyS (.tup i) S = some "tuple" := rfl
theorem ty_list {i : List D} {S : Sto} : tyS (.frl i) S = some "list" := rfl
theorem ty_bool {i : Bool} {S : Sto} : tyS (.bl i) S = some "bool" := rfl
theorem ty_non {S : Sto} : tyS .non S = some "NoneType" := rfl
theorem w_eqB {a b : Bool} {S : Sto} {Q : D → Sto → Prop} {X : Exc → Sto → Prop} : Wp (eqD (.bl a) (.bl b) S) Q X = Q (.bl (decide (a = b))) S := rfl
theorem w_neB {a b : Bool} {S : Sto} {Q : D → Sto → Prop} {X : Exc → Sto → Prop} : Wp (neD (.bl a) (.bl b) S) Q X = Q (.bl (!decide (a = b))) S := rfl
theorem w_isN {x : D} {S : Sto} {Q : D → Sto → Prop} {X : Exc → Sto → Prop} : Wp (isD x .non S) Q X = Q (.bl (decide (x = .non))) S := by cases x <;> rfl
theorem w_isNotN {x : D} {S : Sto} {Q : D → Sto → Prop} {X : Exc → Sto → Prop} : Wp (isNotD x .non S) Q X = Q (.bl (!decide (x = .non))) S := by cases x <;> rfl
theorem nn_int {i : Int} : (D.int i = D.non) = False := eq_false (by intro h; cases h)
theorem nn_str {i : Str} : (D.str i = D.non) = False := eq_false (by intro h; cases h)
theorem nn_tuple {i : List D} : (D.tup i = D.non) = False := eq_false (by intro h; cases h)
theorem nn_list {i : List D} : (D.frl i = D.non) = False := eq_false (by intro h; cases h)
theorem nn_bool {i : Bool} : (D.bl i = D.non) = False := eq_false (by intro h; cases h)
end DL

namespace DL
open PySem PySem.Spec PyProof.Rows L2
def su_kind (q : Exc) (a : Addr) (d : Option Addr) : Sl → Sto → Res Fl :=
  (sSeq (sAsg (dLstF (dCons (dExI 1 a d (q.c == 1 || 1 == 0)) (dCons (dExI 1 a d (q.c == 2 || 2 == 0)) (dCons (dExI 1 a d (q.c == 3 || 3 == 0)) (dCons (dExI 1 a d (q.c == 4 || 4 == 0)) dNil))))) (gVar 2))
  (sSeq (sAsg (d2 addF (dVar 2) (dLstF (dCons (dExI 1 a d (q.c == 5 || 5 == 0)) (dCons (dExI 1 a d (q.c == 6 || 6 == 0)) (dCons (dExI 1 a d (q.c == 7 || 7 == 0)) dNil))))) (gVar 2))
  (sSeq (sAsg (d2 addF (dVar 2) (dLstF (dCons (dExI 1 a d (q.c == 8 || 8 == 0)) (dCons (dExI 1 a d (q.c == 9 || 9 == 0)) (dCons (dExI 1 a d (q.c == 10 || 10 == 0)) dNil))))) (gVar 2))
  (sSeq (sAsg (d2 addF (dVar 2) (dLstF (dCons (dExI 1 a d (q.c == 11 || 11 == 0)) (dCons (dExI 1 a d (q.c == 12 || 12 == 0)) (dCons (dExI 1 a d (q.c == 13 || 13 == 0)) dNil))))) (gVar 2))
  (sSeq (sAsg (d2 addF (dVar 2) (dLstF (dCons (dExI 1 a d (q.c == 14 || 14 == 0)) (dCons (dExI 1 a d (q.c == 15 || 15 == 0)) (dCons (dExI 1 a d (q.c == 16 || 16 == 0)) dNil))))) (gVar 2))
  (sSeq (sAsg (dLstF (dCons (dC (.str "BadMachine")) (dCons (dC (.str "NotSound")) (dCons (dC (.str "BadBeat")) (dCons (dC (.str "BadPlain")) (dCons (dC (.str "TooLarge")) (dCons (dC (.str "BadMatch")) (dCons (dC (.str "BadMarks")) (dCons (dC (.str "BadTree")) dNil))))))))) (gVar 3))
  (sSeq (sAsg (d2 addF (dVar 3) (dLstF (dCons (dC (.str "BadProgram")) (dCons (dC (.str "Stuck")) (dCons (dC (.str "BadCircuit")) (dCons (dC (.str "BadPattern")) (dCons (dC (.str "BadPairs")) (dCons (dC (.str "BadNumbers")) (dCons (dC (.str "BadRows")) dNil))))))))) (gVar 3))
  (sSeq (sIf (tOrD (d2T neD (dBm "list" countD (dVar 2) (dCons (dC (.bl true)) dNil)) (dC (.int 1))) (tNotD (tstB (dExI 1 a d true)))) (sRet (dC (.str "other"))) sNext)
  (sSeq (sAsg (d2 ixD (d2 addF (dVar 3) (dLstF (dCons (dC (.str "BadText")) dNil))) (dBm "list" indexD (dVar 2) (dCons (dC (.bl true)) dNil))) (gVar 4))
  (sSeq (sIf (d2T eqD (dVar 4) (dC (.str "BadMachine"))) (sRet (dTup (dCons (dVar 4) (dCons (dExFc 1 q.c [1] a d "why") (dCons (dExFc 1 q.c [1] a d "spot") dNil))))) sNext)
  (sSeq (sIf (d2T inD (dVar 4) (dTup (dCons (dC (.str "BadBeat")) (dCons (dC (.str "BadPlain")) (dCons (dC (.str "BadProgram")) (dCons (dC (.str "BadCircuit")) (dCons (dC (.str "BadRows")) dNil))))))) (sRet (dTup (dCons (dVar 4) (dCons (dExFc 1 q.c [3, 4, 9, 11, 15] a d "number") dNil)))) sNext)
  (sRet (dIf (d2T eqD (dVar 4) (dC (.str "BadText"))) (dTup (dCons (dVar 4) (dCons (dExFc 1 q.c [16] a d "row") dNil))) (dVar 4))))))))))))))
def kwords : List D := [.str "BadMachine", .str "NotSound", .str "BadBeat", .str "BadPlain", .str "TooLarge", .str "BadMatch", .str "BadMarks", .str "BadTree", .str "BadProgram", .str "Stuck", .str "BadCircuit", .str "BadPattern", .str "BadPairs", .str "BadNumbers", .str "BadRows", .str "BadText"]
def kbits (c : Nat) : List D := [.bl (c == 1 || 1 == 0), .bl (c == 2 || 2 == 0), .bl (c == 3 || 3 == 0), .bl (c == 4 || 4 == 0), .bl (c == 5 || 5 == 0), .bl (c == 6 || 6 == 0), .bl (c == 7 || 7 == 0), .bl (c == 8 || 8 == 0), .bl (c == 9 || 9 == 0), .bl (c == 10 || 10 == 0), .bl (c == 11 || 11 == 0), .bl (c == 12 || 12 == 0), .bl (c == 13 || 13 == 0), .bl (c == 14 || 14 == 0), .bl (c == 15 || 15 == 0), .bl (c == 16 || 16 == 0)]
def lookF (fs : List (Str × D)) (f : Str) : Option D := lookN (fs.map Prod.fst) (fs.map Prod.snd) f
def kdata (q : Exc) : Option D := match q.c, q.fs with
  | 1, some fs => (match lookF fs "why", lookF fs "spot" with
    | some u, some v => some (.tup [.str "BadMachine", u, v])
    | _, _ => none)
  | 3, some fs => (lookF fs "number").map fun v => .tup [.str "BadBeat", v]
  | 4, some fs => (lookF fs "number").map fun v => .tup [.str "BadPlain", v]
  | 9, some fs => (lookF fs "number").map fun v => .tup [.str "BadProgram", v]
  | 11, some fs => (lookF fs "number").map fun v => .tup [.str "BadCircuit", v]
  | 15, some fs => (lookF fs "number").map fun v => .tup [.str "BadRows", v]
  | 16, some fs => (lookF fs "row").map fun v => .tup [.str "BadText", v]
  | 2, _ => some (.str "NotSound")
  | 5, _ => some (.str "TooLarge")
  | 6, _ => some (.str "BadMatch")
  | 7, _ => some (.str "BadMarks")
  | 8, _ => some (.str "BadTree")
  | 10, _ => some (.str "Stuck")
  | 12, _ => some (.str "BadPattern")
  | 13, _ => some (.str "BadPairs")
  | 14, _ => some (.str "BadNumbers")
  | _, _ => none
def x_kind (q : Exc) (S : Sto) : Res D := if (1 ≤ q.c ∧ q.c < 17) ∧ q.fs ≠ some [] then (match kdata q with
  | some d => .ok d (S)
  | none => .stuck) else .stuck
theorem x_kind_ok {q : Exc} {S : Sto} (h : x_kind q S ≠ .stuck) : (1 ≤ q.c ∧ q.c < 17) ∧ q.fs ≠ some [] := by
  unfold x_kind at h
  by_cases z : (1 ≤ q.c ∧ q.c < 17) ∧ q.fs ≠ some []
  · exact z
  · rw [if_neg z] at h; exact absurd rfl h
theorem kn_BadMachine_BadText : (Str.ofString "BadMachine" = Str.ofString "BadText") = False := eq_false (by decide +kernel)
theorem kn_NotSound_BadMachine : (Str.ofString "NotSound" = Str.ofString "BadMachine") = False := eq_false (by decide +kernel)
theorem kn_NotSound_BadText : (Str.ofString "NotSound" = Str.ofString "BadText") = False := eq_false (by decide +kernel)
theorem kn_BadBeat_BadMachine : (Str.ofString "BadBeat" = Str.ofString "BadMachine") = False := eq_false (by decide +kernel)
theorem kn_BadBeat_BadText : (Str.ofString "BadBeat" = Str.ofString "BadText") = False := eq_false (by decide +kernel)
theorem kn_BadPlain_BadMachine : (Str.ofString "BadPlain" = Str.ofString "BadMachine") = False := eq_false (by decide +kernel)
theorem kn_BadPlain_BadText : (Str.ofString "BadPlain" = Str.ofString "BadText") = False := eq_false (by decide +kernel)
theorem kn_TooLarge_BadMachine : (Str.ofString "TooLarge" = Str.ofString "BadMachine") = False := eq_false (by decide +kernel)
theorem kn_TooLarge_BadText : (Str.ofString "TooLarge" = Str.ofString "BadText") = False := eq_false (by decide +kernel)
theorem kn_BadMatch_BadMachine : (Str.ofString "BadMatch" = Str.ofString "BadMachine") = False := eq_false (by decide +kernel)
theorem kn_BadMatch_BadText : (Str.ofString "BadMatch" = Str.ofString "BadText") = False := eq_false (by decide +kernel)
theorem kn_BadMarks_BadMachine : (Str.ofString "BadMarks" = Str.ofString "BadMachine") = False := eq_false (by decide +kernel)
theorem kn_BadMarks_BadText : (Str.ofString "BadMarks" = Str.ofString "BadText") = False := eq_false (by decide +kernel)
theorem kn_BadTree_BadMachine : (Str.ofString "BadTree" = Str.ofString "BadMachine") = False := eq_false (by decide +kernel)
theorem kn_BadTree_BadText : (Str.ofString "BadTree" = Str.ofString "BadText") = False := eq_false (by decide +kernel)
theorem kn_BadProgram_BadMachine : (Str.ofString "BadProgram" = Str.ofString "BadMachine") = False := eq_false (by decide +kernel)
theorem kn_BadProgram_BadText : (Str.ofString "BadProgram" = Str.ofString "BadText") = False := eq_false (by decide +kernel)
theorem kn_Stuck_BadMachine : (Str.ofString "Stuck" = Str.ofString "BadMachine") = False := eq_false (by decide +kernel)
theorem kn_Stuck_BadText : (Str.ofString "Stuck" = Str.ofString "BadText") = False := eq_false (by decide +kernel)
theorem kn_BadCircuit_BadMachine : (Str.ofString "BadCircuit" = Str.ofString "BadMachine") = False := eq_false (by decide +kernel)
theorem kn_BadCircuit_BadText : (Str.ofString "BadCircuit" = Str.ofString "BadText") = False := eq_false (by decide +kernel)
theorem kn_BadPattern_BadMachine : (Str.ofString "BadPattern" = Str.ofString "BadMachine") = False := eq_false (by decide +kernel)
theorem kn_BadPattern_BadText : (Str.ofString "BadPattern" = Str.ofString "BadText") = False := eq_false (by decide +kernel)
theorem kn_BadPairs_BadMachine : (Str.ofString "BadPairs" = Str.ofString "BadMachine") = False := eq_false (by decide +kernel)
theorem kn_BadPairs_BadText : (Str.ofString "BadPairs" = Str.ofString "BadText") = False := eq_false (by decide +kernel)
theorem kn_BadNumbers_BadMachine : (Str.ofString "BadNumbers" = Str.ofString "BadMachine") = False := eq_false (by decide +kernel)
theorem kn_BadNumbers_BadText : (Str.ofString "BadNumbers" = Str.ofString "BadText") = False := eq_false (by decide +kernel)
theorem kn_BadRows_BadMachine : (Str.ofString "BadRows" = Str.ofString "BadMachine") = False := eq_false (by decide +kernel)
theorem kn_BadRows_BadText : (Str.ofString "BadRows" = Str.ofString "BadText") = False := eq_false (by decide +kernel)
theorem kn_BadText_BadMachine : (Str.ofString "BadText" = Str.ofString "BadMachine") = False := eq_false (by decide +kernel)
theorem km_BadMachine {S : Sto} : hasD (.str "BadMachine") (.tup [.str "BadBeat", .str "BadPlain", .str "BadProgram", .str "BadCircuit", .str "BadRows"]) S = some false := by
  simp only [hasD]
  decide +kernel
theorem km_NotSound {S : Sto} : hasD (.str "NotSound") (.tup [.str "BadBeat", .str "BadPlain", .str "BadProgram", .str "BadCircuit", .str "BadRows"]) S = some false := by
  simp only [hasD]
  decide +kernel
theorem km_BadBeat {S : Sto} : hasD (.str "BadBeat") (.tup [.str "BadBeat", .str "BadPlain", .str "BadProgram", .str "BadCircuit", .str "BadRows"]) S = some true := by
  simp only [hasD]
  decide +kernel
theorem km_BadPlain {S : Sto} : hasD (.str "BadPlain") (.tup [.str "BadBeat", .str "BadPlain", .str "BadProgram", .str "BadCircuit", .str "BadRows"]) S = some true := by
  simp only [hasD]
  decide +kernel
theorem km_TooLarge {S : Sto} : hasD (.str "TooLarge") (.tup [.str "BadBeat", .str "BadPlain", .str "BadProgram", .str "BadCircuit", .str "BadRows"]) S = some false := by
  simp only [hasD]
  decide +kernel
theorem km_BadMatch {S : Sto} : hasD (.str "BadMatch") (.tup [.str "BadBeat", .str "BadPlain", .str "BadProgram", .str "BadCircuit", .str "BadRows"]) S = some false := by
  simp only [hasD]
  decide +kernel
theorem km_BadMarks {S : Sto} : hasD (.str "BadMarks") (.tup [.str "BadBeat", .str "BadPlain", .str "BadProgram", .str "BadCircuit", .str "BadRows"]) S = some false := by
  simp only [hasD]
  decide +kernel
theorem km_BadTree {S : Sto} : hasD (.str "BadTree") (.tup [.str "BadBeat", .str "BadPlain", .str "BadProgram", .str "BadCircuit", .str "BadRows"]) S = some false := by
  simp only [hasD]
  decide +kernel
theorem km_BadProgram {S : Sto} : hasD (.str "BadProgram") (.tup [.str "BadBeat", .str "BadPlain", .str "BadProgram", .str "BadCircuit", .str "BadRows"]) S = some true := by
  simp only [hasD]
  decide +kernel
theorem km_Stuck {S : Sto} : hasD (.str "Stuck") (.tup [.str "BadBeat", .str "BadPlain", .str "BadProgram", .str "BadCircuit", .str "BadRows"]) S = some false := by
  simp only [hasD]
  decide +kernel
theorem km_BadCircuit {S : Sto} : hasD (.str "BadCircuit") (.tup [.str "BadBeat", .str "BadPlain", .str "BadProgram", .str "BadCircuit", .str "BadRows"]) S = some true := by
  simp only [hasD]
  decide +kernel
theorem km_BadPattern {S : Sto} : hasD (.str "BadPattern") (.tup [.str "BadBeat", .str "BadPlain", .str "BadProgram", .str "BadCircuit", .str "BadRows"]) S = some false := by
  simp only [hasD]
  decide +kernel
theorem km_BadPairs {S : Sto} : hasD (.str "BadPairs") (.tup [.str "BadBeat", .str "BadPlain", .str "BadProgram", .str "BadCircuit", .str "BadRows"]) S = some false := by
  simp only [hasD]
  decide +kernel
theorem km_BadNumbers {S : Sto} : hasD (.str "BadNumbers") (.tup [.str "BadBeat", .str "BadPlain", .str "BadProgram", .str "BadCircuit", .str "BadRows"]) S = some false := by
  simp only [hasD]
  decide +kernel
theorem km_BadRows {S : Sto} : hasD (.str "BadRows") (.tup [.str "BadBeat", .str "BadPlain", .str "BadProgram", .str "BadCircuit", .str "BadRows"]) S = some true := by
  simp only [hasD]
  decide +kernel
theorem km_BadText {S : Sto} : hasD (.str "BadText") (.tup [.str "BadBeat", .str "BadPlain", .str "BadProgram", .str "BadCircuit", .str "BadRows"]) S = some false := by
  simp only [hasD]
  decide +kernel
theorem kcount {c : Nat} {S : Sto} (hc : 1 ≤ c ∧ c < 17) : countD (.frl (kbits c)) [.bl true] S = .ok (.int 1) S := by
  have : c = 1 ∨ c = 2 ∨ c = 3 ∨ c = 4 ∨ c = 5 ∨ c = 6 ∨ c = 7 ∨ c = 8 ∨ c = 9 ∨ c = 10 ∨ c = 11 ∨ c = 12 ∨ c = 13 ∨ c = 14 ∨ c = 15 ∨ c = 16 := by omega
  simp only [countD, lsD]
  rcases this with rfl | rfl | rfl | rfl | rfl | rfl | rfl | rfl | rfl | rfl | rfl | rfl | rfl | rfl | rfl | rfl <;> rfl
theorem kindex {c : Nat} {S : Sto} (hc : 1 ≤ c ∧ c < 17) : indexD (.frl (kbits c)) [.bl true] S = .ok (.int ((c - 1 : Nat) : Int)) S := by
  have : c = 1 ∨ c = 2 ∨ c = 3 ∨ c = 4 ∨ c = 5 ∨ c = 6 ∨ c = 7 ∨ c = 8 ∨ c = 9 ∨ c = 10 ∨ c = 11 ∨ c = 12 ∨ c = 13 ∨ c = 14 ∨ c = 15 ∨ c = 16 := by omega
  simp only [indexD, lsD]
  rcases this with rfl | rfl | rfl | rfl | rfl | rfl | rfl | rfl | rfl | rfl | rfl | rfl | rfl | rfl | rfl | rfl <;> rfl
theorem x_kind_su (q : Exc) (a : Addr) (d : Option Addr) (S : Sto) (hns : x_kind q S ≠ .stuck) (hok : ExOk d q) : su_kind q a d (exSl 5 1 (excD a (d.getD 0) q)) S = (x_kind q S).bind fun r S2 => .ok (.ret r) S2 := by
  obtain ⟨hc, hne⟩ := x_kind_ok hns
  unfold x_kind at hns ⊢
  rw [if_pos ⟨hc, hne⟩] at hns ⊢
  cases hk : kdata q with
  | none => rw [hk] at hns; exact absurd rfl hns
  | some r =>
    show _ = Res.ok (Fl.ret r) (S)
    apply eq_of_wp
    obtain ⟨e, he⟩ : ∃ e, e = excD a (d.getD 0) q := ⟨_, rfl⟩
    have wI : ∀ {b : Bool} {sd : Sl} {S : Sto} {Q : D → Sto → Prop} {X : Exc → Sto → Prop}, sd[1]? = some (some e) → Wp (dExI 1 a d b sd S) Q X = Q (.bl b) S := fun {b sd S Q X} hs => by
      have : dExI 1 a d b sd S = .ok (.bl b) S := by
        unfold dExI
        rw [hs, he]
        unfold excD
        unfold ExOk at hok
        cases hfs : q.fs with
        | none =>
          rw [hfs] at hok
          simp [hok]
        | some fs =>
          rw [hfs] at hok
          obtain ⟨dd, rfl⟩ := Option.isSome_iff_exists.mp hok.1
          simp [hok.2]
      rw [this]; rfl
    have wF : ∀ {f : Str} {v : D} {fs : List (Str × D)} {sd : Sl} {S : Sto} {Q : D → Sto → Prop} {X : Exc → Sto → Prop}, q.fs = some fs → lookF fs f = some v → sd[1]? = some (some e) → Wp (dExF 1 a d f sd S) Q X = Q v S := fun {f v fs sd S Q X} hfs hl hs => by
      have : dExF 1 a d f sd S = .ok v S := by
        unfold dExF
        rw [hs, he]
        unfold excD
        unfold ExOk at hok
        rw [hfs] at hok
        obtain ⟨dd, rfl⟩ := Option.isSome_iff_exists.mp hok.1
        unfold lookF at hl
        simp [hfs, hok.2, hl]
      rw [this]; rfl
    rw [← he]
    show Wp (su_kind q a d [none, some e, none, none, none] S) _ _
    unfold su_kind
    have tyR : ∀ {S : Sto} {xs : List D}, isTy "list" (.frl xs) S = true := fun {S xs} => rfl
    simp only [w_dVar, w_dC, w_dNil, w_dCons, w_dTup, w_dLst, w_d2, w_d2T, w_d3, w_d3T, w_tstB, w_tAndD, w_tOrD, w_tNotD, w_dAnd, w_dOr, w_dNot, w_dIf, w_dNeg, w_sNext, w_sSeq, w_sIf, w_sRet, w_sExpr, w_sAsg, w_gVar, w_sBrk, w_gsNil, w_gsCons, w_gTupD, w_sPar, w_iVal, w_iEnumD, w_iZipD, w_iRngD1, w_iRngD2, w_tYesD, w_gSubD, w_oNone, w_oSome, w_dSlice, w_dCall, w_dFld, w_sFldD, w_gFldD, w_dCallF, w_dMeth, w_dMake, w_sRaise, w_sRaiseT, w_dExFc, w_dBm, w_dIsi, w_dLstF, w_dSliceF, w_dKind, kB_ap, w_bind, w_ok, w_exc, w_stuck, w_dFn, kFn_nx, kFn_ret, w_sTry, w_sFor, z6, z4, w_addI, w_addFI, w_addFL2, w_addFT2, w_frzI, w_frzS, w_frzT, w_frzF, w_frzN, w_frzB, w_subI, w_ltI, w_leI, w_gtI, w_geI, w_eqI, w_neI, w_eqS, w_neS, w_lenT, w_lenF, w_ixT2, w_ixF2, atI_pos, ixN_nat, Int.reduceToNat, Int.reduceLE, Int.reduceLT, Int.reduceNeg, startD, List.map_cons, List.map_nil, List.length_cons, List.length_nil, List.replicate, List.cons_append, List.nil_append, List.getElem?_cons_zero, List.getElem?_cons_succ, List.set_cons_zero, List.set_cons_succ, Nat.reduceAdd, Nat.reduceSub, Nat.reduceEqDiff, if_true, if_false, Bool.false_eq_true, decide_true, decide_false, Int.reduceEq, Int.reduceAdd, Int.reduceSub, Int.reduceMul, Bool.not_true, Bool.not_false, c_0, c_1, c_2, c_3, c_4, c_5, c_6, c_7, c_8, c_9, c_10, c_11, c_12, sz_0, sz_1, sz_2, sz_3, sz_4, sz_5, sz_6, sz_7, sz_8, sz_9, sz_10, sz_11, sz_12, sz_13, sz_14, sz_15, sz_16, Bool.true_eq_false, eq_self, it_tuplelist_int, it_tuplelist_str, it_tuplelist_tuple, it_tuplelist_list, it_tuplelist_bool, it_tuplelist_NoneType, it_list_int, it_list_str, it_list_tuple, it_list_list, it_list_bool, it_list_NoneType, it_tuple_int, it_tuple_str, it_tuple_tuple, it_tuple_list, it_tuple_bool, it_tuple_NoneType, it_bool_int, it_bool_str, it_bool_tuple, it_bool_list, it_bool_bool, it_bool_NoneType, it_int_int, it_int_str, it_int_tuple, it_int_list, it_int_bool, it_int_NoneType, it_str_int, it_str_str, it_str_tuple, it_str_list, it_str_bool, it_str_NoneType, ty_int, ty_str, ty_tuple, ty_list, ty_bool, ty_non, w_eqB, w_neB, w_isN, w_isNotN, nn_int, nn_str, nn_tuple, nn_list, nn_bool, wI, w_ite tyR]
    refine (wp_eq (kcount hc)).mpr ?_
    simp only [w_dVar, w_dC, w_dNil, w_dCons, w_dTup, w_dLst, w_d2, w_d2T, w_d3, w_d3T, w_tstB, w_tAndD, w_tOrD, w_tNotD, w_dAnd, w_dOr, w_dNot, w_dIf, w_dNeg, w_sNext, w_sSeq, w_sIf, w_sRet, w_sExpr, w_sAsg, w_gVar, w_sBrk, w_gsNil, w_gsCons, w_gTupD, w_sPar, w_iVal, w_iEnumD, w_iZipD, w_iRngD1, w_iRngD2, w_tYesD, w_gSubD, w_oNone, w_oSome, w_dSlice, w_dCall, w_dFld, w_sFldD, w_gFldD, w_dCallF, w_dMeth, w_dMake, w_sRaise, w_sRaiseT, w_dExFc, w_dBm, w_dIsi, w_dLstF, w_dSliceF, w_dKind, kB_ap, w_bind, w_ok, w_exc, w_stuck, w_dFn, kFn_nx, kFn_ret, w_sTry, w_sFor, z6, z4, w_addI, w_addFI, w_addFL2, w_addFT2, w_frzI, w_frzS, w_frzT, w_frzF, w_frzN, w_frzB, w_subI, w_ltI, w_leI, w_gtI, w_geI, w_eqI, w_neI, w_eqS, w_neS, w_lenT, w_lenF, w_ixT2, w_ixF2, atI_pos, ixN_nat, Int.reduceToNat, Int.reduceLE, Int.reduceLT, Int.reduceNeg, startD, List.map_cons, List.map_nil, List.length_cons, List.length_nil, List.replicate, List.cons_append, List.nil_append, List.getElem?_cons_zero, List.getElem?_cons_succ, List.set_cons_zero, List.set_cons_succ, Nat.reduceAdd, Nat.reduceSub, Nat.reduceEqDiff, if_true, if_false, Bool.false_eq_true, decide_true, decide_false, Int.reduceEq, Int.reduceAdd, Int.reduceSub, Int.reduceMul, Bool.not_true, Bool.not_false, c_0, c_1, c_2, c_3, c_4, c_5, c_6, c_7, c_8, c_9, c_10, c_11, c_12, sz_0, sz_1, sz_2, sz_3, sz_4, sz_5, sz_6, sz_7, sz_8, sz_9, sz_10, sz_11, sz_12, sz_13, sz_14, sz_15, sz_16, Bool.true_eq_false, eq_self, it_tuplelist_int, it_tuplelist_str, it_tuplelist_tuple, it_tuplelist_list, it_tuplelist_bool, it_tuplelist_NoneType, it_list_int, it_list_str, it_list_tuple, it_list_list, it_list_bool, it_list_NoneType, it_tuple_int, it_tuple_str, it_tuple_tuple, it_tuple_list, it_tuple_bool, it_tuple_NoneType, it_bool_int, it_bool_str, it_bool_tuple, it_bool_list, it_bool_bool, it_bool_NoneType, it_int_int, it_int_str, it_int_tuple, it_int_list, it_int_bool, it_int_NoneType, it_str_int, it_str_str, it_str_tuple, it_str_list, it_str_bool, it_str_NoneType, ty_int, ty_str, ty_tuple, ty_list, ty_bool, ty_non, w_eqB, w_neB, w_isN, w_isNotN, nn_int, nn_str, nn_tuple, nn_list, nn_bool, wI, w_ite tyR]
    refine (wp_eq (kindex hc)).mpr ?_
    simp only [kB_ap, w_ixF2]
    show Wp (match atI kwords ((q.c - 1 : Nat) : Int) with | some d => Res.ok d S | none => Res.stuck) _ _
    generalize hS2 : S = S2
    clear hS2
    clear hns
    obtain ⟨c, fs⟩ := q
    have : c = 1 ∨ c = 2 ∨ c = 3 ∨ c = 4 ∨ c = 5 ∨ c = 6 ∨ c = 7 ∨ c = 8 ∨ c = 9 ∨ c = 10 ∨ c = 11 ∨ c = 12 ∨ c = 13 ∨ c = 14 ∨ c = 15 ∨ c = 16 := by
      have h1 : 1 ≤ c := hc.1
      have h2 : c < 17 := hc.2
      omega
    rcases this with rfl | rfl | rfl | rfl | rfl | rfl | rfl | rfl | rfl | rfl | rfl | rfl | rfl | rfl | rfl | rfl
    · show Wp (match atI kwords ((0 : Nat) : Int) with | some d => Res.ok d S2 | none => Res.stuck) _ _
      have ea : atI kwords ((0 : Nat) : Int) = some (.str "BadMachine") := rfl
      rw [ea]
      cases fs with
      | none => cases hk
      | some fs =>
        cases h1 : lookF fs "why" with
        | none => simp [kdata, h1] at hk
        | some u =>
          cases h2 : lookF fs "spot" with
          | none => simp [kdata, h1, h2] at hk
          | some v =>
            simp [kdata, h1, h2] at hk
            subst hk
            simp only [w_dVar, w_dC, w_dNil, w_dCons, w_dTup, w_dLst, w_d2, w_d2T, w_d3, w_d3T, w_tstB, w_tAndD, w_tOrD, w_tNotD, w_dAnd, w_dOr, w_dNot, w_dIf, w_dNeg, w_sNext, w_sSeq, w_sIf, w_sRet, w_sExpr, w_sAsg, w_gVar, w_sBrk, w_gsNil, w_gsCons, w_gTupD, w_sPar, w_iVal, w_iEnumD, w_iZipD, w_iRngD1, w_iRngD2, w_tYesD, w_gSubD, w_oNone, w_oSome, w_dSlice, w_dCall, w_dFld, w_sFldD, w_gFldD, w_dCallF, w_dMeth, w_dMake, w_sRaise, w_sRaiseT, w_dExFc, w_dBm, w_dIsi, w_dLstF, w_dSliceF, w_dKind, kB_ap, w_bind, w_ok, w_exc, w_stuck, w_dFn, kFn_nx, kFn_ret, w_sTry, w_sFor, z6, z4, w_addI, w_addFI, w_addFL2, w_addFT2, w_frzI, w_frzS, w_frzT, w_frzF, w_frzN, w_frzB, w_subI, w_ltI, w_leI, w_gtI, w_geI, w_eqI, w_neI, w_eqS, w_neS, w_lenT, w_lenF, w_ixT2, w_ixF2, atI_pos, ixN_nat, Int.reduceToNat, Int.reduceLE, Int.reduceLT, Int.reduceNeg, startD, List.map_cons, List.map_nil, List.length_cons, List.length_nil, List.replicate, List.cons_append, List.nil_append, List.getElem?_cons_zero, List.getElem?_cons_succ, List.set_cons_zero, List.set_cons_succ, Nat.reduceAdd, Nat.reduceSub, Nat.reduceEqDiff, if_true, if_false, Bool.false_eq_true, decide_true, decide_false, Int.reduceEq, Int.reduceAdd, Int.reduceSub, Int.reduceMul, Bool.not_true, Bool.not_false, c_0, c_1, c_2, c_3, c_4, c_5, c_6, c_7, c_8, c_9, c_10, c_11, c_12, sz_0, sz_1, sz_2, sz_3, sz_4, sz_5, sz_6, sz_7, sz_8, sz_9, sz_10, sz_11, sz_12, sz_13, sz_14, sz_15, sz_16, Bool.true_eq_false, eq_self, it_tuplelist_int, it_tuplelist_str, it_tuplelist_tuple, it_tuplelist_list, it_tuplelist_bool, it_tuplelist_NoneType, it_list_int, it_list_str, it_list_tuple, it_list_list, it_list_bool, it_list_NoneType, it_tuple_int, it_tuple_str, it_tuple_tuple, it_tuple_list, it_tuple_bool, it_tuple_NoneType, it_bool_int, it_bool_str, it_bool_tuple, it_bool_list, it_bool_bool, it_bool_NoneType, it_int_int, it_int_str, it_int_tuple, it_int_list, it_int_bool, it_int_NoneType, it_str_int, it_str_str, it_str_tuple, it_str_list, it_str_bool, it_str_NoneType, ty_int, ty_str, ty_tuple, ty_list, ty_bool, ty_non, w_eqB, w_neB, w_isN, w_isNotN, nn_int, nn_str, nn_tuple, nn_list, nn_bool, dExFc, List.mem_cons, true_or, wF rfl h1, wF rfl h2]
            trivial
    · show Wp (match atI kwords ((1 : Nat) : Int) with | some d => Res.ok d S2 | none => Res.stuck) _ _
      have ea : atI kwords ((1 : Nat) : Int) = some (.str "NotSound") := rfl
      rw [ea]
      cases hk
      simp only [w_dVar, w_dC, w_dNil, w_dCons, w_dTup, w_dLst, w_d2, w_d2T, w_d3, w_d3T, w_tstB, w_tAndD, w_tOrD, w_tNotD, w_dAnd, w_dOr, w_dNot, w_dIf, w_dNeg, w_sNext, w_sSeq, w_sIf, w_sRet, w_sExpr, w_sAsg, w_gVar, w_sBrk, w_gsNil, w_gsCons, w_gTupD, w_sPar, w_iVal, w_iEnumD, w_iZipD, w_iRngD1, w_iRngD2, w_tYesD, w_gSubD, w_oNone, w_oSome, w_dSlice, w_dCall, w_dFld, w_sFldD, w_gFldD, w_dCallF, w_dMeth, w_dMake, w_sRaise, w_sRaiseT, w_dExFc, w_dBm, w_dIsi, w_dLstF, w_dSliceF, w_dKind, kB_ap, w_bind, w_ok, w_exc, w_stuck, w_dFn, kFn_nx, kFn_ret, w_sTry, w_sFor, z6, z4, w_addI, w_addFI, w_addFL2, w_addFT2, w_frzI, w_frzS, w_frzT, w_frzF, w_frzN, w_frzB, w_subI, w_ltI, w_leI, w_gtI, w_geI, w_eqI, w_neI, w_eqS, w_neS, w_lenT, w_lenF, w_ixT2, w_ixF2, atI_pos, ixN_nat, Int.reduceToNat, Int.reduceLE, Int.reduceLT, Int.reduceNeg, startD, List.map_cons, List.map_nil, List.length_cons, List.length_nil, List.replicate, List.cons_append, List.nil_append, List.getElem?_cons_zero, List.getElem?_cons_succ, List.set_cons_zero, List.set_cons_succ, Nat.reduceAdd, Nat.reduceSub, Nat.reduceEqDiff, if_true, if_false, Bool.false_eq_true, decide_true, decide_false, Int.reduceEq, Int.reduceAdd, Int.reduceSub, Int.reduceMul, Bool.not_true, Bool.not_false, c_0, c_1, c_2, c_3, c_4, c_5, c_6, c_7, c_8, c_9, c_10, c_11, c_12, sz_0, sz_1, sz_2, sz_3, sz_4, sz_5, sz_6, sz_7, sz_8, sz_9, sz_10, sz_11, sz_12, sz_13, sz_14, sz_15, sz_16, Bool.true_eq_false, eq_self, it_tuplelist_int, it_tuplelist_str, it_tuplelist_tuple, it_tuplelist_list, it_tuplelist_bool, it_tuplelist_NoneType, it_list_int, it_list_str, it_list_tuple, it_list_list, it_list_bool, it_list_NoneType, it_tuple_int, it_tuple_str, it_tuple_tuple, it_tuple_list, it_tuple_bool, it_tuple_NoneType, it_bool_int, it_bool_str, it_bool_tuple, it_bool_list, it_bool_bool, it_bool_NoneType, it_int_int, it_int_str, it_int_tuple, it_int_list, it_int_bool, it_int_NoneType, it_str_int, it_str_str, it_str_tuple, it_str_list, it_str_bool, it_str_NoneType, ty_int, ty_str, ty_tuple, ty_list, ty_bool, ty_non, w_eqB, w_neB, w_isN, w_isNotN, nn_int, nn_str, nn_tuple, nn_list, nn_bool, kn_BadMachine_BadText, kn_NotSound_BadMachine, kn_NotSound_BadText, kn_BadBeat_BadMachine, kn_BadBeat_BadText, kn_BadPlain_BadMachine, kn_BadPlain_BadText, kn_TooLarge_BadMachine, kn_TooLarge_BadText, kn_BadMatch_BadMachine, kn_BadMatch_BadText, kn_BadMarks_BadMachine, kn_BadMarks_BadText, kn_BadTree_BadMachine, kn_BadTree_BadText, kn_BadProgram_BadMachine, kn_BadProgram_BadText, kn_Stuck_BadMachine, kn_Stuck_BadText, kn_BadCircuit_BadMachine, kn_BadCircuit_BadText, kn_BadPattern_BadMachine, kn_BadPattern_BadText, kn_BadPairs_BadMachine, kn_BadPairs_BadText, kn_BadNumbers_BadMachine, kn_BadNumbers_BadText, kn_BadRows_BadMachine, kn_BadRows_BadText, kn_BadText_BadMachine, km_BadMachine, km_NotSound, km_BadBeat, km_BadPlain, km_TooLarge, km_BadMatch, km_BadMarks, km_BadTree, km_BadProgram, km_Stuck, km_BadCircuit, km_BadPattern, km_BadPairs, km_BadNumbers, km_BadRows, km_BadText, inD]
      trivial
    · show Wp (match atI kwords ((2 : Nat) : Int) with | some d => Res.ok d S2 | none => Res.stuck) _ _
      have ea : atI kwords ((2 : Nat) : Int) = some (.str "BadBeat") := rfl
      rw [ea]
      cases fs with
      | none => cases hk
      | some fs =>
        cases h1 : lookF fs "number" with
        | none => simp [kdata, h1] at hk
        | some u =>
          simp [kdata, h1] at hk
          subst hk
          simp only [w_dVar, w_dC, w_dNil, w_dCons, w_dTup, w_dLst, w_d2, w_d2T, w_d3, w_d3T, w_tstB, w_tAndD, w_tOrD, w_tNotD, w_dAnd, w_dOr, w_dNot, w_dIf, w_dNeg, w_sNext, w_sSeq, w_sIf, w_sRet, w_sExpr, w_sAsg, w_gVar, w_sBrk, w_gsNil, w_gsCons, w_gTupD, w_sPar, w_iVal, w_iEnumD, w_iZipD, w_iRngD1, w_iRngD2, w_tYesD, w_gSubD, w_oNone, w_oSome, w_dSlice, w_dCall, w_dFld, w_sFldD, w_gFldD, w_dCallF, w_dMeth, w_dMake, w_sRaise, w_sRaiseT, w_dExFc, w_dBm, w_dIsi, w_dLstF, w_dSliceF, w_dKind, kB_ap, w_bind, w_ok, w_exc, w_stuck, w_dFn, kFn_nx, kFn_ret, w_sTry, w_sFor, z6, z4, w_addI, w_addFI, w_addFL2, w_addFT2, w_frzI, w_frzS, w_frzT, w_frzF, w_frzN, w_frzB, w_subI, w_ltI, w_leI, w_gtI, w_geI, w_eqI, w_neI, w_eqS, w_neS, w_lenT, w_lenF, w_ixT2, w_ixF2, atI_pos, ixN_nat, Int.reduceToNat, Int.reduceLE, Int.reduceLT, Int.reduceNeg, startD, List.map_cons, List.map_nil, List.length_cons, List.length_nil, List.replicate, List.cons_append, List.nil_append, List.getElem?_cons_zero, List.getElem?_cons_succ, List.set_cons_zero, List.set_cons_succ, Nat.reduceAdd, Nat.reduceSub, Nat.reduceEqDiff, if_true, if_false, Bool.false_eq_true, decide_true, decide_false, Int.reduceEq, Int.reduceAdd, Int.reduceSub, Int.reduceMul, Bool.not_true, Bool.not_false, c_0, c_1, c_2, c_3, c_4, c_5, c_6, c_7, c_8, c_9, c_10, c_11, c_12, sz_0, sz_1, sz_2, sz_3, sz_4, sz_5, sz_6, sz_7, sz_8, sz_9, sz_10, sz_11, sz_12, sz_13, sz_14, sz_15, sz_16, Bool.true_eq_false, eq_self, it_tuplelist_int, it_tuplelist_str, it_tuplelist_tuple, it_tuplelist_list, it_tuplelist_bool, it_tuplelist_NoneType, it_list_int, it_list_str, it_list_tuple, it_list_list, it_list_bool, it_list_NoneType, it_tuple_int, it_tuple_str, it_tuple_tuple, it_tuple_list, it_tuple_bool, it_tuple_NoneType, it_bool_int, it_bool_str, it_bool_tuple, it_bool_list, it_bool_bool, it_bool_NoneType, it_int_int, it_int_str, it_int_tuple, it_int_list, it_int_bool, it_int_NoneType, it_str_int, it_str_str, it_str_tuple, it_str_list, it_str_bool, it_str_NoneType, ty_int, ty_str, ty_tuple, ty_list, ty_bool, ty_non, w_eqB, w_neB, w_isN, w_isNotN, nn_int, nn_str, nn_tuple, nn_list, nn_bool, kn_BadMachine_BadText, kn_NotSound_BadMachine, kn_NotSound_BadText, kn_BadBeat_BadMachine, kn_BadBeat_BadText, kn_BadPlain_BadMachine, kn_BadPlain_BadText, kn_TooLarge_BadMachine, kn_TooLarge_BadText, kn_BadMatch_BadMachine, kn_BadMatch_BadText, kn_BadMarks_BadMachine, kn_BadMarks_BadText, kn_BadTree_BadMachine, kn_BadTree_BadText, kn_BadProgram_BadMachine, kn_BadProgram_BadText, kn_Stuck_BadMachine, kn_Stuck_BadText, kn_BadCircuit_BadMachine, kn_BadCircuit_BadText, kn_BadPattern_BadMachine, kn_BadPattern_BadText, kn_BadPairs_BadMachine, kn_BadPairs_BadText, kn_BadNumbers_BadMachine, kn_BadNumbers_BadText, kn_BadRows_BadMachine, kn_BadRows_BadText, kn_BadText_BadMachine, km_BadMachine, km_NotSound, km_BadBeat, km_BadPlain, km_TooLarge, km_BadMatch, km_BadMarks, km_BadTree, km_BadProgram, km_Stuck, km_BadCircuit, km_BadPattern, km_BadPairs, km_BadNumbers, km_BadRows, km_BadText, inD, dExFc, List.mem_cons, true_or, or_true, Nat.reduceEqDiff, false_or, wF rfl h1]
          trivial
    · show Wp (match atI kwords ((3 : Nat) : Int) with | some d => Res.ok d S2 | none => Res.stuck) _ _
      have ea : atI kwords ((3 : Nat) : Int) = some (.str "BadPlain") := rfl
      rw [ea]
      cases fs with
      | none => cases hk
      | some fs =>
        cases h1 : lookF fs "number" with
        | none => simp [kdata, h1] at hk
        | some u =>
          simp [kdata, h1] at hk
          subst hk
          simp only [w_dVar, w_dC, w_dNil, w_dCons, w_dTup, w_dLst, w_d2, w_d2T, w_d3, w_d3T, w_tstB, w_tAndD, w_tOrD, w_tNotD, w_dAnd, w_dOr, w_dNot, w_dIf, w_dNeg, w_sNext, w_sSeq, w_sIf, w_sRet, w_sExpr, w_sAsg, w_gVar, w_sBrk, w_gsNil, w_gsCons, w_gTupD, w_sPar, w_iVal, w_iEnumD, w_iZipD, w_iRngD1, w_iRngD2, w_tYesD, w_gSubD, w_oNone, w_oSome, w_dSlice, w_dCall, w_dFld, w_sFldD, w_gFldD, w_dCallF, w_dMeth, w_dMake, w_sRaise, w_sRaiseT, w_dExFc, w_dBm, w_dIsi, w_dLstF, w_dSliceF, w_dKind, kB_ap, w_bind, w_ok, w_exc, w_stuck, w_dFn, kFn_nx, kFn_ret, w_sTry, w_sFor, z6, z4, w_addI, w_addFI, w_addFL2, w_addFT2, w_frzI, w_frzS, w_frzT, w_frzF, w_frzN, w_frzB, w_subI, w_ltI, w_leI, w_gtI, w_geI, w_eqI, w_neI, w_eqS, w_neS, w_lenT, w_lenF, w_ixT2, w_ixF2, atI_pos, ixN_nat, Int.reduceToNat, Int.reduceLE, Int.reduceLT, Int.reduceNeg, startD, List.map_cons, List.map_nil, List.length_cons, List.length_nil, List.replicate, List.cons_append, List.nil_append, List.getElem?_cons_zero, List.getElem?_cons_succ, List.set_cons_zero, List.set_cons_succ, Nat.reduceAdd, Nat.reduceSub, Nat.reduceEqDiff, if_true, if_false, Bool.false_eq_true, decide_true, decide_false, Int.reduceEq, Int.reduceAdd, Int.reduceSub, Int.reduceMul, Bool.not_true, Bool.not_false, c_0, c_1, c_2, c_3, c_4, c_5, c_6, c_7, c_8, c_9, c_10, c_11, c_12, sz_0, sz_1, sz_2, sz_3, sz_4, sz_5, sz_6, sz_7, sz_8, sz_9, sz_10, sz_11, sz_12, sz_13, sz_14, sz_15, sz_16, Bool.true_eq_false, eq_self, it_tuplelist_int, it_tuplelist_str, it_tuplelist_tuple, it_tuplelist_list, it_tuplelist_bool, it_tuplelist_NoneType, it_list_int, it_list_str, it_list_tuple, it_list_list, it_list_bool, it_list_NoneType, it_tuple_int, it_tuple_str, it_tuple_tuple, it_tuple_list, it_tuple_bool, it_tuple_NoneType, it_bool_int, it_bool_str, it_bool_tuple, it_bool_list, it_bool_bool, it_bool_NoneType, it_int_int, it_int_str, it_int_tuple, it_int_list, it_int_bool, it_int_NoneType, it_str_int, it_str_str, it_str_tuple, it_str_list, it_str_bool, it_str_NoneType, ty_int, ty_str, ty_tuple, ty_list, ty_bool, ty_non, w_eqB, w_neB, w_isN, w_isNotN, nn_int, nn_str, nn_tuple, nn_list, nn_bool, kn_BadMachine_BadText, kn_NotSound_BadMachine, kn_NotSound_BadText, kn_BadBeat_BadMachine, kn_BadBeat_BadText, kn_BadPlain_BadMachine, kn_BadPlain_BadText, kn_TooLarge_BadMachine, kn_TooLarge_BadText, kn_BadMatch_BadMachine, kn_BadMatch_BadText, kn_BadMarks_BadMachine, kn_BadMarks_BadText, kn_BadTree_BadMachine, kn_BadTree_BadText, kn_BadProgram_BadMachine, kn_BadProgram_BadText, kn_Stuck_BadMachine, kn_Stuck_BadText, kn_BadCircuit_BadMachine, kn_BadCircuit_BadText, kn_BadPattern_BadMachine, kn_BadPattern_BadText, kn_BadPairs_BadMachine, kn_BadPairs_BadText, kn_BadNumbers_BadMachine, kn_BadNumbers_BadText, kn_BadRows_BadMachine, kn_BadRows_BadText, kn_BadText_BadMachine, km_BadMachine, km_NotSound, km_BadBeat, km_BadPlain, km_TooLarge, km_BadMatch, km_BadMarks, km_BadTree, km_BadProgram, km_Stuck, km_BadCircuit, km_BadPattern, km_BadPairs, km_BadNumbers, km_BadRows, km_BadText, inD, dExFc, List.mem_cons, true_or, or_true, Nat.reduceEqDiff, false_or, wF rfl h1]
          trivial
    · show Wp (match atI kwords ((4 : Nat) : Int) with | some d => Res.ok d S2 | none => Res.stuck) _ _
      have ea : atI kwords ((4 : Nat) : Int) = some (.str "TooLarge") := rfl
      rw [ea]
      cases hk
      simp only [w_dVar, w_dC, w_dNil, w_dCons, w_dTup, w_dLst, w_d2, w_d2T, w_d3, w_d3T, w_tstB, w_tAndD, w_tOrD, w_tNotD, w_dAnd, w_dOr, w_dNot, w_dIf, w_dNeg, w_sNext, w_sSeq, w_sIf, w_sRet, w_sExpr, w_sAsg, w_gVar, w_sBrk, w_gsNil, w_gsCons, w_gTupD, w_sPar, w_iVal, w_iEnumD, w_iZipD, w_iRngD1, w_iRngD2, w_tYesD, w_gSubD, w_oNone, w_oSome, w_dSlice, w_dCall, w_dFld, w_sFldD, w_gFldD, w_dCallF, w_dMeth, w_dMake, w_sRaise, w_sRaiseT, w_dExFc, w_dBm, w_dIsi, w_dLstF, w_dSliceF, w_dKind, kB_ap, w_bind, w_ok, w_exc, w_stuck, w_dFn, kFn_nx, kFn_ret, w_sTry, w_sFor, z6, z4, w_addI, w_addFI, w_addFL2, w_addFT2, w_frzI, w_frzS, w_frzT, w_frzF, w_frzN, w_frzB, w_subI, w_ltI, w_leI, w_gtI, w_geI, w_eqI, w_neI, w_eqS, w_neS, w_lenT, w_lenF, w_ixT2, w_ixF2, atI_pos, ixN_nat, Int.reduceToNat, Int.reduceLE, Int.reduceLT, Int.reduceNeg, startD, List.map_cons, List.map_nil, List.length_cons, List.length_nil, List.replicate, List.cons_append, List.nil_append, List.getElem?_cons_zero, List.getElem?_cons_succ, List.set_cons_zero, List.set_cons_succ, Nat.reduceAdd, Nat.reduceSub, Nat.reduceEqDiff, if_true, if_false, Bool.false_eq_true, decide_true, decide_false, Int.reduceEq, Int.reduceAdd, Int.reduceSub, Int.reduceMul, Bool.not_true, Bool.not_false, c_0, c_1, c_2, c_3, c_4, c_5, c_6, c_7, c_8, c_9, c_10, c_11, c_12, sz_0, sz_1, sz_2, sz_3, sz_4, sz_5, sz_6, sz_7, sz_8, sz_9, sz_10, sz_11, sz_12, sz_13, sz_14, sz_15, sz_16, Bool.true_eq_false, eq_self, it_tuplelist_int, it_tuplelist_str, it_tuplelist_tuple, it_tuplelist_list, it_tuplelist_bool, it_tuplelist_NoneType, it_list_int, it_list_str, it_list_tuple, it_list_list, it_list_bool, it_list_NoneType, it_tuple_int, it_tuple_str, it_tuple_tuple, it_tuple_list, it_tuple_bool, it_tuple_NoneType, it_bool_int, it_bool_str, it_bool_tuple, it_bool_list, it_bool_bool, it_bool_NoneType, it_int_int, it_int_str, it_int_tuple, it_int_list, it_int_bool, it_int_NoneType, it_str_int, it_str_str, it_str_tuple, it_str_list, it_str_bool, it_str_NoneType, ty_int, ty_str, ty_tuple, ty_list, ty_bool, ty_non, w_eqB, w_neB, w_isN, w_isNotN, nn_int, nn_str, nn_tuple, nn_list, nn_bool, kn_BadMachine_BadText, kn_NotSound_BadMachine, kn_NotSound_BadText, kn_BadBeat_BadMachine, kn_BadBeat_BadText, kn_BadPlain_BadMachine, kn_BadPlain_BadText, kn_TooLarge_BadMachine, kn_TooLarge_BadText, kn_BadMatch_BadMachine, kn_BadMatch_BadText, kn_BadMarks_BadMachine, kn_BadMarks_BadText, kn_BadTree_BadMachine, kn_BadTree_BadText, kn_BadProgram_BadMachine, kn_BadProgram_BadText, kn_Stuck_BadMachine, kn_Stuck_BadText, kn_BadCircuit_BadMachine, kn_BadCircuit_BadText, kn_BadPattern_BadMachine, kn_BadPattern_BadText, kn_BadPairs_BadMachine, kn_BadPairs_BadText, kn_BadNumbers_BadMachine, kn_BadNumbers_BadText, kn_BadRows_BadMachine, kn_BadRows_BadText, kn_BadText_BadMachine, km_BadMachine, km_NotSound, km_BadBeat, km_BadPlain, km_TooLarge, km_BadMatch, km_BadMarks, km_BadTree, km_BadProgram, km_Stuck, km_BadCircuit, km_BadPattern, km_BadPairs, km_BadNumbers, km_BadRows, km_BadText, inD]
      trivial
    · show Wp (match atI kwords ((5 : Nat) : Int) with | some d => Res.ok d S2 | none => Res.stuck) _ _
      have ea : atI kwords ((5 : Nat) : Int) = some (.str "BadMatch") := rfl
      rw [ea]
      cases hk
      simp only [w_dVar, w_dC, w_dNil, w_dCons, w_dTup, w_dLst, w_d2, w_d2T, w_d3, w_d3T, w_tstB, w_tAndD, w_tOrD, w_tNotD, w_dAnd, w_dOr, w_dNot, w_dIf, w_dNeg, w_sNext, w_sSeq, w_sIf, w_sRet, w_sExpr, w_sAsg, w_gVar, w_sBrk, w_gsNil, w_gsCons, w_gTupD, w_sPar, w_iVal, w_iEnumD, w_iZipD, w_iRngD1, w_iRngD2, w_tYesD, w_gSubD, w_oNone, w_oSome, w_dSlice, w_dCall, w_dFld, w_sFldD, w_gFldD, w_dCallF, w_dMeth, w_dMake, w_sRaise, w_sRaiseT, w_dExFc, w_dBm, w_dIsi, w_dLstF, w_dSliceF, w_dKind, kB_ap, w_bind, w_ok, w_exc, w_stuck, w_dFn, kFn_nx, kFn_ret, w_sTry, w_sFor, z6, z4, w_addI, w_addFI, w_addFL2, w_addFT2, w_frzI, w_frzS, w_frzT, w_frzF, w_frzN, w_frzB, w_subI, w_ltI, w_leI, w_gtI, w_geI, w_eqI, w_neI, w_eqS, w_neS, w_lenT, w_lenF, w_ixT2, w_ixF2, atI_pos, ixN_nat, Int.reduceToNat, Int.reduceLE, Int.reduceLT, Int.reduceNeg, startD, List.map_cons, List.map_nil, List.length_cons, List.length_nil, List.replicate, List.cons_append, List.nil_append, List.getElem?_cons_zero, List.getElem?_cons_succ, List.set_cons_zero, List.set_cons_succ, Nat.reduceAdd, Nat.reduceSub, Nat.reduceEqDiff, if_true, if_false, Bool.false_eq_true, decide_true, decide_false, Int.reduceEq, Int.reduceAdd, Int.reduceSub, Int.reduceMul, Bool.not_true, Bool.not_false, c_0, c_1, c_2, c_3, c_4, c_5, c_6, c_7, c_8, c_9, c_10, c_11, c_12, sz_0, sz_1, sz_2, sz_3, sz_4, sz_5, sz_6, sz_7, sz_8, sz_9, sz_10, sz_11, sz_12, sz_13, sz_14, sz_15, sz_16, Bool.true_eq_false, eq_self, it_tuplelist_int, it_tuplelist_str, it_tuplelist_tuple, it_tuplelist_list, it_tuplelist_bool, it_tuplelist_NoneType, it_list_int, it_list_str, it_list_tuple, it_list_list, it_list_bool, it_list_NoneType, it_tuple_int, it_tuple_str, it_tuple_tuple, it_tuple_list, it_tuple_bool, it_tuple_NoneType, it_bool_int, it_bool_str, it_bool_tuple, it_bool_list, it_bool_bool, it_bool_NoneType, it_int_int, it_int_str, it_int_tuple, it_int_list, it_int_bool, it_int_NoneType, it_str_int, it_str_str, it_str_tuple, it_str_list, it_str_bool, it_str_NoneType, ty_int, ty_str, ty_tuple, ty_list, ty_bool, ty_non, w_eqB, w_neB, w_isN, w_isNotN, nn_int, nn_str, nn_tuple, nn_list, nn_bool, kn_BadMachine_BadText, kn_NotSound_BadMachine, kn_NotSound_BadText, kn_BadBeat_BadMachine, kn_BadBeat_BadText, kn_BadPlain_BadMachine, kn_BadPlain_BadText, kn_TooLarge_BadMachine, kn_TooLarge_BadText, kn_BadMatch_BadMachine, kn_BadMatch_BadText, kn_BadMarks_BadMachine, kn_BadMarks_BadText, kn_BadTree_BadMachine, kn_BadTree_BadText, kn_BadProgram_BadMachine, kn_BadProgram_BadText, kn_Stuck_BadMachine, kn_Stuck_BadText, kn_BadCircuit_BadMachine, kn_BadCircuit_BadText, kn_BadPattern_BadMachine, kn_BadPattern_BadText, kn_BadPairs_BadMachine, kn_BadPairs_BadText, kn_BadNumbers_BadMachine, kn_BadNumbers_BadText, kn_BadRows_BadMachine, kn_BadRows_BadText, kn_BadText_BadMachine, km_BadMachine, km_NotSound, km_BadBeat, km_BadPlain, km_TooLarge, km_BadMatch, km_BadMarks, km_BadTree, km_BadProgram, km_Stuck, km_BadCircuit, km_BadPattern, km_BadPairs, km_BadNumbers, km_BadRows, km_BadText, inD]
      trivial
    · show Wp (match atI kwords ((6 : Nat) : Int) with | some d => Res.ok d S2 | none => Res.stuck) _ _
      have ea : atI kwords ((6 : Nat) : Int) = some (.str "BadMarks") := rfl
      rw [ea]
      cases hk
      simp only [w_dVar, w_dC, w_dNil, w_dCons, w_dTup, w_dLst, w_d2, w_d2T, w_d3, w_d3T, w_tstB, w_tAndD, w_tOrD, w_tNotD, w_dAnd, w_dOr, w_dNot, w_dIf, w_dNeg, w_sNext, w_sSeq, w_sIf, w_sRet, w_sExpr, w_sAsg, w_gVar, w_sBrk, w_gsNil, w_gsCons, w_gTupD, w_sPar, w_iVal, w_iEnumD, w_iZipD, w_iRngD1, w_iRngD2, w_tYesD, w_gSubD, w_oNone, w_oSome, w_dSlice, w_dCall, w_dFld, w_sFldD, w_gFldD, w_dCallF, w_dMeth, w_dMake, w_sRaise, w_sRaiseT, w_dExFc, w_dBm, w_dIsi, w_dLstF, w_dSliceF, w_dKind, kB_ap, w_bind, w_ok, w_exc, w_stuck, w_dFn, kFn_nx, kFn_ret, w_sTry, w_sFor, z6, z4, w_addI, w_addFI, w_addFL2, w_addFT2, w_frzI, w_frzS, w_frzT, w_frzF, w_frzN, w_frzB, w_subI, w_ltI, w_leI, w_gtI, w_geI, w_eqI, w_neI, w_eqS, w_neS, w_lenT, w_lenF, w_ixT2, w_ixF2, atI_pos, ixN_nat, Int.reduceToNat, Int.reduceLE, Int.reduceLT, Int.reduceNeg, startD, List.map_cons, List.map_nil, List.length_cons, List.length_nil, List.replicate, List.cons_append, List.nil_append, List.getElem?_cons_zero, List.getElem?_cons_succ, List.set_cons_zero, List.set_cons_succ, Nat.reduceAdd, Nat.reduceSub, Nat.reduceEqDiff, if_true, if_false, Bool.false_eq_true, decide_true, decide_false, Int.reduceEq, Int.reduceAdd, Int.reduceSub, Int.reduceMul, Bool.not_true, Bool.not_false, c_0, c_1, c_2, c_3, c_4, c_5, c_6, c_7, c_8, c_9, c_10, c_11, c_12, sz_0, sz_1, sz_2, sz_3, sz_4, sz_5, sz_6, sz_7, sz_8, sz_9, sz_10, sz_11, sz_12, sz_13, sz_14, sz_15, sz_16, Bool.true_eq_false, eq_self, it_tuplelist_int, it_tuplelist_str, it_tuplelist_tuple, it_tuplelist_list, it_tuplelist_bool, it_tuplelist_NoneType, it_list_int, it_list_str, it_list_tuple, it_list_list, it_list_bool, it_list_NoneType, it_tuple_int, it_tuple_str, it_tuple_tuple, it_tuple_list, it_tuple_bool, it_tuple_NoneType, it_bool_int, it_bool_str, it_bool_tuple, it_bool_list, it_bool_bool, it_bool_NoneType, it_int_int, it_int_str, it_int_tuple, it_int_list, it_int_bool, it_int_NoneType, it_str_int, it_str_str, it_str_tuple, it_str_list, it_str_bool, it_str_NoneType, ty_int, ty_str, ty_tuple, ty_list, ty_bool, ty_non, w_eqB, w_neB, w_isN, w_isNotN, nn_int, nn_str, nn_tuple, nn_list, nn_bool, kn_BadMachine_BadText, kn_NotSound_BadMachine, kn_NotSound_BadText, kn_BadBeat_BadMachine, kn_BadBeat_BadText, kn_BadPlain_BadMachine, kn_BadPlain_BadText, kn_TooLarge_BadMachine, kn_TooLarge_BadText, kn_BadMatch_BadMachine, kn_BadMatch_BadText, kn_BadMarks_BadMachine, kn_BadMarks_BadText, kn_BadTree_BadMachine, kn_BadTree_BadText, kn_BadProgram_BadMachine, kn_BadProgram_BadText, kn_Stuck_BadMachine, kn_Stuck_BadText, kn_BadCircuit_BadMachine, kn_BadCircuit_BadText, kn_BadPattern_BadMachine, kn_BadPattern_BadText, kn_BadPairs_BadMachine, kn_BadPairs_BadText, kn_BadNumbers_BadMachine, kn_BadNumbers_BadText, kn_BadRows_BadMachine, kn_BadRows_BadText, kn_BadText_BadMachine, km_BadMachine, km_NotSound, km_BadBeat, km_BadPlain, km_TooLarge, km_BadMatch, km_BadMarks, km_BadTree, km_BadProgram, km_Stuck, km_BadCircuit, km_BadPattern, km_BadPairs, km_BadNumbers, km_BadRows, km_BadText, inD]
      trivial
    · show Wp (match atI kwords ((7 : Nat) : Int) with | some d => Res.ok d S2 | none => Res.stuck) _ _
      have ea : atI kwords ((7 : Nat) : Int) = some (.str "BadTree") := rfl
      rw [ea]
      cases hk
      simp only [w_dVar, w_dC, w_dNil, w_dCons, w_dTup, w_dLst, w_d2, w_d2T, w_d3, w_d3T, w_tstB, w_tAndD, w_tOrD, w_tNotD, w_dAnd, w_dOr, w_dNot, w_dIf, w_dNeg, w_sNext, w_sSeq, w_sIf, w_sRet, w_sExpr, w_sAsg, w_gVar, w_sBrk, w_gsNil, w_gsCons, w_gTupD, w_sPar, w_iVal, w_iEnumD, w_iZipD, w_iRngD1, w_iRngD2, w_tYesD, w_gSubD, w_oNone, w_oSome, w_dSlice, w_dCall, w_dFld, w_sFldD, w_gFldD, w_dCallF, w_dMeth, w_dMake, w_sRaise, w_sRaiseT, w_dExFc, w_dBm, w_dIsi, w_dLstF, w_dSliceF, w_dKind, kB_ap, w_bind, w_ok, w_exc, w_stuck, w_dFn, kFn_nx, kFn_ret, w_sTry, w_sFor, z6, z4, w_addI, w_addFI, w_addFL2, w_addFT2, w_frzI, w_frzS, w_frzT, w_frzF, w_frzN, w_frzB, w_subI, w_ltI, w_leI, w_gtI, w_geI, w_eqI, w_neI, w_eqS, w_neS, w_lenT, w_lenF, w_ixT2, w_ixF2, atI_pos, ixN_nat, Int.reduceToNat, Int.reduceLE, Int.reduceLT, Int.reduceNeg, startD, List.map_cons, List.map_nil, List.length_cons, List.length_nil, List.replicate, List.cons_append, List.nil_append, List.getElem?_cons_zero, List.getElem?_cons_succ, List.set_cons_zero, List.set_cons_succ, Nat.reduceAdd, Nat.reduceSub, Nat.reduceEqDiff, if_true, if_false, Bool.false_eq_true, decide_true, decide_false, Int.reduceEq, Int.reduceAdd, Int.reduceSub, Int.reduceMul, Bool.not_true, Bool.not_false, c_0, c_1, c_2, c_3, c_4, c_5, c_6, c_7, c_8, c_9, c_10, c_11, c_12, sz_0, sz_1, sz_2, sz_3, sz_4, sz_5, sz_6, sz_7, sz_8, sz_9, sz_10, sz_11, sz_12, sz_13, sz_14, sz_15, sz_16, Bool.true_eq_false, eq_self, it_tuplelist_int, it_tuplelist_str, it_tuplelist_tuple, it_tuplelist_list, it_tuplelist_bool, it_tuplelist_NoneType, it_list_int, it_list_str, it_list_tuple, it_list_list, it_list_bool, it_list_NoneType, it_tuple_int, it_tuple_str, it_tuple_tuple, it_tuple_list, it_tuple_bool, it_tuple_NoneType, it_bool_int, it_bool_str, it_bool_tuple, it_bool_list, it_bool_bool, it_bool_NoneType, it_int_int, it_int_str, it_int_tuple, it_int_list, it_int_bool, it_int_NoneType, it_str_int, it_str_str, it_str_tuple, it_str_list, it_str_bool, it_str_NoneType, ty_int, ty_str, ty_tuple, ty_list, ty_bool, ty_non, w_eqB, w_neB, w_isN, w_isNotN, nn_int, nn_str, nn_tuple, nn_list, nn_bool, kn_BadMachine_BadText, kn_NotSound_BadMachine, kn_NotSound_BadText, kn_BadBeat_BadMachine, kn_BadBeat_BadText, kn_BadPlain_BadMachine, kn_BadPlain_BadText, kn_TooLarge_BadMachine, kn_TooLarge_BadText, kn_BadMatch_BadMachine, kn_BadMatch_BadText, kn_BadMarks_BadMachine, kn_BadMarks_BadText, kn_BadTree_BadMachine, kn_BadTree_BadText, kn_BadProgram_BadMachine, kn_BadProgram_BadText, kn_Stuck_BadMachine, kn_Stuck_BadText, kn_BadCircuit_BadMachine, kn_BadCircuit_BadText, kn_BadPattern_BadMachine, kn_BadPattern_BadText, kn_BadPairs_BadMachine, kn_BadPairs_BadText, kn_BadNumbers_BadMachine, kn_BadNumbers_BadText, kn_BadRows_BadMachine, kn_BadRows_BadText, kn_BadText_BadMachine, km_BadMachine, km_NotSound, km_BadBeat, km_BadPlain, km_TooLarge, km_BadMatch, km_BadMarks, km_BadTree, km_BadProgram, km_Stuck, km_BadCircuit, km_BadPattern, km_BadPairs, km_BadNumbers, km_BadRows, km_BadText, inD]
      trivial
    · show Wp (match atI kwords ((8 : Nat) : Int) with | some d => Res.ok d S2 | none => Res.stuck) _ _
      have ea : atI kwords ((8 : Nat) : Int) = some (.str "BadProgram") := rfl
      rw [ea]
      cases fs with
      | none => cases hk
      | some fs =>
        cases h1 : lookF fs "number" with
        | none => simp [kdata, h1] at hk
        | some u =>
          simp [kdata, h1] at hk
          subst hk
          simp only [w_dVar, w_dC, w_dNil, w_dCons, w_dTup, w_dLst, w_d2, w_d2T, w_d3, w_d3T, w_tstB, w_tAndD, w_tOrD, w_tNotD, w_dAnd, w_dOr, w_dNot, w_dIf, w_dNeg, w_sNext, w_sSeq, w_sIf, w_sRet, w_sExpr, w_sAsg, w_gVar, w_sBrk, w_gsNil, w_gsCons, w_gTupD, w_sPar, w_iVal, w_iEnumD, w_iZipD, w_iRngD1, w_iRngD2, w_tYesD, w_gSubD, w_oNone, w_oSome, w_dSlice, w_dCall, w_dFld, w_sFldD, w_gFldD, w_dCallF, w_dMeth, w_dMake, w_sRaise, w_sRaiseT, w_dExFc, w_dBm, w_dIsi, w_dLstF, w_dSliceF, w_dKind, kB_ap, w_bind, w_ok, w_exc, w_stuck, w_dFn, kFn_nx, kFn_ret, w_sTry, w_sFor, z6, z4, w_addI, w_addFI, w_addFL2, w_addFT2, w_frzI, w_frzS, w_frzT, w_frzF, w_frzN, w_frzB, w_subI, w_ltI, w_leI, w_gtI, w_geI, w_eqI, w_neI, w_eqS, w_neS, w_lenT, w_lenF, w_ixT2, w_ixF2, atI_pos, ixN_nat, Int.reduceToNat, Int.reduceLE, Int.reduceLT, Int.reduceNeg, startD, List.map_cons, List.map_nil, List.length_cons, List.length_nil, List.replicate, List.cons_append, List.nil_append, List.getElem?_cons_zero, List.getElem?_cons_succ, List.set_cons_zero, List.set_cons_succ, Nat.reduceAdd, Nat.reduceSub, Nat.reduceEqDiff, if_true, if_false, Bool.false_eq_true, decide_true, decide_false, Int.reduceEq, Int.reduceAdd, Int.reduceSub, Int.reduceMul, Bool.not_true, Bool.not_false, c_0, c_1, c_2, c_3, c_4, c_5, c_6, c_7, c_8, c_9, c_10, c_11, c_12, sz_0, sz_1, sz_2, sz_3, sz_4, sz_5, sz_6, sz_7, sz_8, sz_9, sz_10, sz_11, sz_12, sz_13, sz_14, sz_15, sz_16, Bool.true_eq_false, eq_self, it_tuplelist_int, it_tuplelist_str, it_tuplelist_tuple, it_tuplelist_list, it_tuplelist_bool, it_tuplelist_NoneType, it_list_int, it_list_str, it_list_tuple, it_list_list, it_list_bool, it_list_NoneType, it_tuple_int, it_tuple_str, it_tuple_tuple, it_tuple_list, it_tuple_bool, it_tuple_NoneType, it_bool_int, it_bool_str, it_bool_tuple, it_bool_list, it_bool_bool, it_bool_NoneType, it_int_int, it_int_str, it_int_tuple, it_int_list, it_int_bool, it_int_NoneType, it_str_int, it_str_str, it_str_tuple, it_str_list, it_str_bool, it_str_NoneType, ty_int, ty_str, ty_tuple, ty_list, ty_bool, ty_non, w_eqB, w_neB, w_isN, w_isNotN, nn_int, nn_str, nn_tuple, nn_list, nn_bool, kn_BadMachine_BadText, kn_NotSound_BadMachine, kn_NotSound_BadText, kn_BadBeat_BadMachine, kn_BadBeat_BadText, kn_BadPlain_BadMachine, kn_BadPlain_BadText, kn_TooLarge_BadMachine, kn_TooLarge_BadText, kn_BadMatch_BadMachine, kn_BadMatch_BadText, kn_BadMarks_BadMachine, kn_BadMarks_BadText, kn_BadTree_BadMachine, kn_BadTree_BadText, kn_BadProgram_BadMachine, kn_BadProgram_BadText, kn_Stuck_BadMachine, kn_Stuck_BadText, kn_BadCircuit_BadMachine, kn_BadCircuit_BadText, kn_BadPattern_BadMachine, kn_BadPattern_BadText, kn_BadPairs_BadMachine, kn_BadPairs_BadText, kn_BadNumbers_BadMachine, kn_BadNumbers_BadText, kn_BadRows_BadMachine, kn_BadRows_BadText, kn_BadText_BadMachine, km_BadMachine, km_NotSound, km_BadBeat, km_BadPlain, km_TooLarge, km_BadMatch, km_BadMarks, km_BadTree, km_BadProgram, km_Stuck, km_BadCircuit, km_BadPattern, km_BadPairs, km_BadNumbers, km_BadRows, km_BadText, inD, dExFc, List.mem_cons, true_or, or_true, Nat.reduceEqDiff, false_or, wF rfl h1]
          trivial
    · show Wp (match atI kwords ((9 : Nat) : Int) with | some d => Res.ok d S2 | none => Res.stuck) _ _
      have ea : atI kwords ((9 : Nat) : Int) = some (.str "Stuck") := rfl
      rw [ea]
      cases hk
      simp only [w_dVar, w_dC, w_dNil, w_dCons, w_dTup, w_dLst, w_d2, w_d2T, w_d3, w_d3T, w_tstB, w_tAndD, w_tOrD, w_tNotD, w_dAnd, w_dOr, w_dNot, w_dIf, w_dNeg, w_sNext, w_sSeq, w_sIf, w_sRet, w_sExpr, w_sAsg, w_gVar, w_sBrk, w_gsNil, w_gsCons, w_gTupD, w_sPar, w_iVal, w_iEnumD, w_iZipD, w_iRngD1, w_iRngD2, w_tYesD, w_gSubD, w_oNone, w_oSome, w_dSlice, w_dCall, w_dFld, w_sFldD, w_gFldD, w_dCallF, w_dMeth, w_dMake, w_sRaise, w_sRaiseT, w_dExFc, w_dBm, w_dIsi, w_dLstF, w_dSliceF, w_dKind, kB_ap, w_bind, w_ok, w_exc, w_stuck, w_dFn, kFn_nx, kFn_ret, w_sTry, w_sFor, z6, z4, w_addI, w_addFI, w_addFL2, w_addFT2, w_frzI, w_frzS, w_frzT, w_frzF, w_frzN, w_frzB, w_subI, w_ltI, w_leI, w_gtI, w_geI, w_eqI, w_neI, w_eqS, w_neS, w_lenT, w_lenF, w_ixT2, w_ixF2, atI_pos, ixN_nat, Int.reduceToNat, Int.reduceLE, Int.reduceLT, Int.reduceNeg, startD, List.map_cons, List.map_nil, List.length_cons, List.length_nil, List.replicate, List.cons_append, List.nil_append, List.getElem?_cons_zero, List.getElem?_cons_succ, List.set_cons_zero, List.set_cons_succ, Nat.reduceAdd, Nat.reduceSub, Nat.reduceEqDiff, if_true, if_false, Bool.false_eq_true, decide_true, decide_false, Int.reduceEq, Int.reduceAdd, Int.reduceSub, Int.reduceMul, Bool.not_true, Bool.not_false, c_0, c_1, c_2, c_3, c_4, c_5, c_6, c_7, c_8, c_9, c_10, c_11, c_12, sz_0, sz_1, sz_2, sz_3, sz_4, sz_5, sz_6, sz_7, sz_8, sz_9, sz_10, sz_11, sz_12, sz_13, sz_14, sz_15, sz_16, Bool.true_eq_false, eq_self, it_tuplelist_int, it_tuplelist_str, it_tuplelist_tuple, it_tuplelist_list, it_tuplelist_bool, it_tuplelist_NoneType, it_list_int, it_list_str, it_list_tuple, it_list_list, it_list_bool, it_list_NoneType, it_tuple_int, it_tuple_str, it_tuple_tuple, it_tuple_list, it_tuple_bool, it_tuple_NoneType, it_bool_int, it_bool_str, it_bool_tuple, it_bool_list, it_bool_bool, it_bool_NoneType, it_int_int, it_int_str, it_int_tuple, it_int_list, it_int_bool, it_int_NoneType, it_str_int, it_str_str, it_str_tuple, it_str_list, it_str_bool, it_str_NoneType, ty_int, ty_str, ty_tuple, ty_list, ty_bool, ty_non, w_eqB, w_neB, w_isN, w_isNotN, nn_int, nn_str, nn_tuple, nn_list, nn_bool, kn_BadMachine_BadText, kn_NotSound_BadMachine, kn_NotSound_BadText, kn_BadBeat_BadMachine, kn_BadBeat_BadText, kn_BadPlain_BadMachine, kn_BadPlain_BadText, kn_TooLarge_BadMachine, kn_TooLarge_BadText, kn_BadMatch_BadMachine, kn_BadMatch_BadText, kn_BadMarks_BadMachine, kn_BadMarks_BadText, kn_BadTree_BadMachine, kn_BadTree_BadText, kn_BadProgram_BadMachine, kn_BadProgram_BadText, kn_Stuck_BadMachine, kn_Stuck_BadText, kn_BadCircuit_BadMachine, kn_BadCircuit_BadText, kn_BadPattern_BadMachine, kn_BadPattern_BadText, kn_BadPairs_BadMachine, kn_BadPairs_BadText, kn_BadNumbers_BadMachine, kn_BadNumbers_BadText, kn_BadRows_BadMachine, kn_BadRows_BadText, kn_BadText_BadMachine, km_BadMachine, km_NotSound, km_BadBeat, km_BadPlain, km_TooLarge, km_BadMatch, km_BadMarks, km_BadTree, km_BadProgram, km_Stuck, km_BadCircuit, km_BadPattern, km_BadPairs, km_BadNumbers, km_BadRows, km_BadText, inD]
      trivial
    · show Wp (match atI kwords ((10 : Nat) : Int) with | some d => Res.ok d S2 | none => Res.stuck) _ _
      have ea : atI kwords ((10 : Nat) : Int) = some (.str "BadCircuit") := rfl
      rw [ea]
      cases fs with
      | none => cases hk
      | some fs =>
        cases h1 : lookF fs "number" with
        | none => simp [kdata, h1] at hk
        | some u =>
          simp [kdata, h1] at hk
          subst hk
          simp only [w_dVar, w_dC, w_dNil, w_dCons, w_dTup, w_dLst, w_d2, w_d2T, w_d3, w_d3T, w_tstB, w_tAndD, w_tOrD, w_tNotD, w_dAnd, w_dOr, w_dNot, w_dIf, w_dNeg, w_sNext, w_sSeq, w_sIf, w_sRet, w_sExpr, w_sAsg, w_gVar, w_sBrk, w_gsNil, w_gsCons, w_gTupD, w_sPar, w_iVal, w_iEnumD, w_iZipD, w_iRngD1, w_iRngD2, w_tYesD, w_gSubD, w_oNone, w_oSome, w_dSlice, w_dCall, w_dFld, w_sFldD, w_gFldD, w_dCallF, w_dMeth, w_dMake, w_sRaise, w_sRaiseT, w_dExFc, w_dBm, w_dIsi, w_dLstF, w_dSliceF, w_dKind, kB_ap, w_bind, w_ok, w_exc, w_stuck, w_dFn, kFn_nx, kFn_ret, w_sTry, w_sFor, z6, z4, w_addI, w_addFI, w_addFL2, w_addFT2, w_frzI, w_frzS, w_frzT, w_frzF, w_frzN, w_frzB, w_subI, w_ltI, w_leI, w_gtI, w_geI, w_eqI, w_neI, w_eqS, w_neS, w_lenT, w_lenF, w_ixT2, w_ixF2, atI_pos, ixN_nat, Int.reduceToNat, Int.reduceLE, Int.reduceLT, Int.reduceNeg, startD, List.map_cons, List.map_nil, List.length_cons, List.length_nil, List.replicate, List.cons_append, List.nil_append, List.getElem?_cons_zero, List.getElem?_cons_succ, List.set_cons_zero, List.set_cons_succ, Nat.reduceAdd, Nat.reduceSub, Nat.reduceEqDiff, if_true, if_false, Bool.false_eq_true, decide_true, decide_false, Int.reduceEq, Int.reduceAdd, Int.reduceSub, Int.reduceMul, Bool.not_true, Bool.not_false, c_0, c_1, c_2, c_3, c_4, c_5, c_6, c_7, c_8, c_9, c_10, c_11, c_12, sz_0, sz_1, sz_2, sz_3, sz_4, sz_5, sz_6, sz_7, sz_8, sz_9, sz_10, sz_11, sz_12, sz_13, sz_14, sz_15, sz_16, Bool.true_eq_false, eq_self, it_tuplelist_int, it_tuplelist_str, it_tuplelist_tuple, it_tuplelist_list, it_tuplelist_bool, it_tuplelist_NoneType, it_list_int, it_list_str, it_list_tuple, it_list_list, it_list_bool, it_list_NoneType, it_tuple_int, it_tuple_str, it_tuple_tuple, it_tuple_list, it_tuple_bool, it_tuple_NoneType, it_bool_int, it_bool_str, it_bool_tuple, it_bool_list, it_bool_bool, it_bool_NoneType, it_int_int, it_int_str, it_int_tuple, it_int_list, it_int_bool, it_int_NoneType, it_str_int, it_str_str, it_str_tuple, it_str_list, it_str_bool, it_str_NoneType, ty_int, ty_str, ty_tuple, ty_list, ty_bool, ty_non, w_eqB, w_neB, w_isN, w_isNotN, nn_int, nn_str, nn_tuple, nn_list, nn_bool, kn_BadMachine_BadText, kn_NotSound_BadMachine, kn_NotSound_BadText, kn_BadBeat_BadMachine, kn_BadBeat_BadText, kn_BadPlain_BadMachine, kn_BadPlain_BadText, kn_TooLarge_BadMachine, kn_TooLarge_BadText, kn_BadMatch_BadMachine, kn_BadMatch_BadText, kn_BadMarks_BadMachine, kn_BadMarks_BadText, kn_BadTree_BadMachine, kn_BadTree_BadText, kn_BadProgram_BadMachine, kn_BadProgram_BadText, kn_Stuck_BadMachine, kn_Stuck_BadText, kn_BadCircuit_BadMachine, kn_BadCircuit_BadText, kn_BadPattern_BadMachine, kn_BadPattern_BadText, kn_BadPairs_BadMachine, kn_BadPairs_BadText, kn_BadNumbers_BadMachine, kn_BadNumbers_BadText, kn_BadRows_BadMachine, kn_BadRows_BadText, kn_BadText_BadMachine, km_BadMachine, km_NotSound, km_BadBeat, km_BadPlain, km_TooLarge, km_BadMatch, km_BadMarks, km_BadTree, km_BadProgram, km_Stuck, km_BadCircuit, km_BadPattern, km_BadPairs, km_BadNumbers, km_BadRows, km_BadText, inD, dExFc, List.mem_cons, true_or, or_true, Nat.reduceEqDiff, false_or, wF rfl h1]
          trivial
    · show Wp (match atI kwords ((11 : Nat) : Int) with | some d => Res.ok d S2 | none => Res.stuck) _ _
      have ea : atI kwords ((11 : Nat) : Int) = some (.str "BadPattern") := rfl
      rw [ea]
      cases hk
      simp only [w_dVar, w_dC, w_dNil, w_dCons, w_dTup, w_dLst, w_d2, w_d2T, w_d3, w_d3T, w_tstB, w_tAndD, w_tOrD, w_tNotD, w_dAnd, w_dOr, w_dNot, w_dIf, w_dNeg, w_sNext, w_sSeq, w_sIf, w_sRet, w_sExpr, w_sAsg, w_gVar, w_sBrk, w_gsNil, w_gsCons, w_gTupD, w_sPar, w_iVal, w_iEnumD, w_iZipD, w_iRngD1, w_iRngD2, w_tYesD, w_gSubD, w_oNone, w_oSome, w_dSlice, w_dCall, w_dFld, w_sFldD, w_gFldD, w_dCallF, w_dMeth, w_dMake, w_sRaise, w_sRaiseT, w_dExFc, w_dBm, w_dIsi, w_dLstF, w_dSliceF, w_dKind, kB_ap, w_bind, w_ok, w_exc, w_stuck, w_dFn, kFn_nx, kFn_ret, w_sTry, w_sFor, z6, z4, w_addI, w_addFI, w_addFL2, w_addFT2, w_frzI, w_frzS, w_frzT, w_frzF, w_frzN, w_frzB, w_subI, w_ltI, w_leI, w_gtI, w_geI, w_eqI, w_neI, w_eqS, w_neS, w_lenT, w_lenF, w_ixT2, w_ixF2, atI_pos, ixN_nat, Int.reduceToNat, Int.reduceLE, Int.reduceLT, Int.reduceNeg, startD, List.map_cons, List.map_nil, List.length_cons, List.length_nil, List.replicate, List.cons_append, List.nil_append, List.getElem?_cons_zero, List.getElem?_cons_succ, List.set_cons_zero, List.set_cons_succ, Nat.reduceAdd, Nat.reduceSub, Nat.reduceEqDiff, if_true, if_false, Bool.false_eq_true, decide_true, decide_false, Int.reduceEq, Int.reduceAdd, Int.reduceSub, Int.reduceMul, Bool.not_true, Bool.not_false, c_0, c_1, c_2, c_3, c_4, c_5, c_6, c_7, c_8, c_9, c_10, c_11, c_12, sz_0, sz_1, sz_2, sz_3, sz_4, sz_5, sz_6, sz_7, sz_8, sz_9, sz_10, sz_11, sz_12, sz_13, sz_14, sz_15, sz_16, Bool.true_eq_false, eq_self, it_tuplelist_int, it_tuplelist_str, it_tuplelist_tuple, it_tuplelist_list, it_tuplelist_bool, it_tuplelist_NoneType, it_list_int, it_list_str, it_list_tuple, it_list_list, it_list_bool, it_list_NoneType, it_tuple_int, it_tuple_str, it_tuple_tuple, it_tuple_list, it_tuple_bool, it_tuple_NoneType, it_bool_int, it_bool_str, it_bool_tuple, it_bool_list, it_bool_bool, it_bool_NoneType, it_int_int, it_int_str, it_int_tuple, it_int_list, it_int_bool, it_int_NoneType, it_str_int, it_str_str, it_str_tuple, it_str_list, it_str_bool, it_str_NoneType, ty_int, ty_str, ty_tuple, ty_list, ty_bool, ty_non, w_eqB, w_neB, w_isN, w_isNotN, nn_int, nn_str, nn_tuple, nn_list, nn_bool, kn_BadMachine_BadText, kn_NotSound_BadMachine, kn_NotSound_BadText, kn_BadBeat_BadMachine, kn_BadBeat_BadText, kn_BadPlain_BadMachine, kn_BadPlain_BadText, kn_TooLarge_BadMachine, kn_TooLarge_BadText, kn_BadMatch_BadMachine, kn_BadMatch_BadText, kn_BadMarks_BadMachine, kn_BadMarks_BadText, kn_BadTree_BadMachine, kn_BadTree_BadText, kn_BadProgram_BadMachine, kn_BadProgram_BadText, kn_Stuck_BadMachine, kn_Stuck_BadText, kn_BadCircuit_BadMachine, kn_BadCircuit_BadText, kn_BadPattern_BadMachine, kn_BadPattern_BadText, kn_BadPairs_BadMachine, kn_BadPairs_BadText, kn_BadNumbers_BadMachine, kn_BadNumbers_BadText, kn_BadRows_BadMachine, kn_BadRows_BadText, kn_BadText_BadMachine, km_BadMachine, km_NotSound, km_BadBeat, km_BadPlain, km_TooLarge, km_BadMatch, km_BadMarks, km_BadTree, km_BadProgram, km_Stuck, km_BadCircuit, km_BadPattern, km_BadPairs, km_BadNumbers, km_BadRows, km_BadText, inD]
      trivial
    · show Wp (match atI kwords ((12 : Nat) : Int) with | some d => Res.ok d S2 | none => Res.stuck) _ _
      have ea : atI kwords ((12 : Nat) : Int) = some (.str "BadPairs") := rfl
      rw [ea]
      cases hk
      simp only [w_dVar, w_dC, w_dNil, w_dCons, w_dTup, w_dLst, w_d2, w_d2T, w_d3, w_d3T, w_tstB, w_tAndD, w_tOrD, w_tNotD, w_dAnd, w_dOr, w_dNot, w_dIf, w_dNeg, w_sNext, w_sSeq, w_sIf, w_sRet, w_sExpr, w_sAsg, w_gVar, w_sBrk, w_gsNil, w_gsCons, w_gTupD, w_sPar, w_iVal, w_iEnumD, w_iZipD, w_iRngD1, w_iRngD2, w_tYesD, w_gSubD, w_oNone, w_oSome, w_dSlice, w_dCall, w_dFld, w_sFldD, w_gFldD, w_dCallF, w_dMeth, w_dMake, w_sRaise, w_sRaiseT, w_dExFc, w_dBm, w_dIsi, w_dLstF, w_dSliceF, w_dKind, kB_ap, w_bind, w_ok, w_exc, w_stuck, w_dFn, kFn_nx, kFn_ret, w_sTry, w_sFor, z6, z4, w_addI, w_addFI, w_addFL2, w_addFT2, w_frzI, w_frzS, w_frzT, w_frzF, w_frzN, w_frzB, w_subI, w_ltI, w_leI, w_gtI, w_geI, w_eqI, w_neI, w_eqS, w_neS, w_lenT, w_lenF, w_ixT2, w_ixF2, atI_pos, ixN_nat, Int.reduceToNat, Int.reduceLE, Int.reduceLT, Int.reduceNeg, startD, List.map_cons, List.map_nil, List.length_cons, List.length_nil, List.replicate, List.cons_append, List.nil_append, List.getElem?_cons_zero, List.getElem?_cons_succ, List.set_cons_zero, List.set_cons_succ, Nat.reduceAdd, Nat.reduceSub, Nat.reduceEqDiff, if_true, if_false, Bool.false_eq_true, decide_true, decide_false, Int.reduceEq, Int.reduceAdd, Int.reduceSub, Int.reduceMul, Bool.not_true, Bool.not_false, c_0, c_1, c_2, c_3, c_4, c_5, c_6, c_7, c_8, c_9, c_10, c_11, c_12, sz_0, sz_1, sz_2, sz_3, sz_4, sz_5, sz_6, sz_7, sz_8, sz_9, sz_10, sz_11, sz_12, sz_13, sz_14, sz_15, sz_16, Bool.true_eq_false, eq_self, it_tuplelist_int, it_tuplelist_str, it_tuplelist_tuple, it_tuplelist_list, it_tuplelist_bool, it_tuplelist_NoneType, it_list_int, it_list_str, it_list_tuple, it_list_list, it_list_bool, it_list_NoneType, it_tuple_int, it_tuple_str, it_tuple_tuple, it_tuple_list, it_tuple_bool, it_tuple_NoneType, it_bool_int, it_bool_str, it_bool_tuple, it_bool_list, it_bool_bool, it_bool_NoneType, it_int_int, it_int_str, it_int_tuple, it_int_list, it_int_bool, it_int_NoneType, it_str_int, it_str_str, it_str_tuple, it_str_list, it_str_bool, it_str_NoneType, ty_int, ty_str, ty_tuple, ty_list, ty_bool, ty_non, w_eqB, w_neB, w_isN, w_isNotN, nn_int, nn_str, nn_tuple, nn_list, nn_bool, kn_BadMachine_BadText, kn_NotSound_BadMachine, kn_NotSound_BadText, kn_BadBeat_BadMachine, kn_BadBeat_BadText, kn_BadPlain_BadMachine, kn_BadPlain_BadText, kn_TooLarge_BadMachine, kn_TooLarge_BadText, kn_BadMatch_BadMachine, kn_BadMatch_BadText, kn_BadMarks_BadMachine, kn_BadMarks_BadText, kn_BadTree_BadMachine, kn_BadTree_BadText, kn_BadProgram_BadMachine, kn_BadProgram_BadText, kn_Stuck_BadMachine, kn_Stuck_BadText, kn_BadCircuit_BadMachine, kn_BadCircuit_BadText, kn_BadPattern_BadMachine, kn_BadPattern_BadText, kn_BadPairs_BadMachine, kn_BadPairs_BadText, kn_BadNumbers_BadMachine, kn_BadNumbers_BadText, kn_BadRows_BadMachine, kn_BadRows_BadText, kn_BadText_BadMachine, km_BadMachine, km_NotSound, km_BadBeat, km_BadPlain, km_TooLarge, km_BadMatch, km_BadMarks, km_BadTree, km_BadProgram, km_Stuck, km_BadCircuit, km_BadPattern, km_BadPairs, km_BadNumbers, km_BadRows, km_BadText, inD]
      trivial
    · show Wp (match atI kwords ((13 : Nat) : Int) with | some d => Res.ok d S2 | none => Res.stuck) _ _
      have ea : atI kwords ((13 : Nat) : Int) = some (.str "BadNumbers") := rfl
      rw [ea]
      cases hk
      simp only [w_dVar, w_dC, w_dNil, w_dCons, w_dTup, w_dLst, w_d2, w_d2T, w_d3, w_d3T, w_tstB, w_tAndD, w_tOrD, w_tNotD, w_dAnd, w_dOr, w_dNot, w_dIf, w_dNeg, w_sNext, w_sSeq, w_sIf, w_sRet, w_sExpr, w_sAsg, w_gVar, w_sBrk, w_gsNil, w_gsCons, w_gTupD, w_sPar, w_iVal, w_iEnumD, w_iZipD, w_iRngD1, w_iRngD2, w_tYesD, w_gSubD, w_oNone, w_oSome, w_dSlice, w_dCall, w_dFld, w_sFldD, w_gFldD, w_dCallF, w_dMeth, w_dMake, w_sRaise, w_sRaiseT, w_dExFc, w_dBm, w_dIsi, w_dLstF, w_dSliceF, w_dKind, kB_ap, w_bind, w_ok, w_exc, w_stuck, w_dFn, kFn_nx, kFn_ret, w_sTry, w_sFor, z6, z4, w_addI, w_addFI, w_addFL2, w_addFT2, w_frzI, w_frzS, w_frzT, w_frzF, w_frzN, w_frzB, w_subI, w_ltI, w_leI, w_gtI, w_geI, w_eqI, w_neI, w_eqS, w_neS, w_lenT, w_lenF, w_ixT2, w_ixF2, atI_pos, ixN_nat, Int.reduceToNat, Int.reduceLE, Int.reduceLT, Int.reduceNeg, startD, List.map_cons, List.map_nil, List.length_cons, List.length_nil, List.replicate, List.cons_append, List.nil_append, List.getElem?_cons_zero, List.getElem?_cons_succ, List.set_cons_zero, List.set_cons_succ, Nat.reduceAdd, Nat.reduceSub, Nat.reduceEqDiff, if_true, if_false, Bool.false_eq_true, decide_true, decide_false, Int.reduceEq, Int.reduceAdd, Int.reduceSub, Int.reduceMul, Bool.not_true, Bool.not_false, c_0, c_1, c_2, c_3, c_4, c_5, c_6, c_7, c_8, c_9, c_10, c_11, c_12, sz_0, sz_1, sz_2, sz_3, sz_4, sz_5, sz_6, sz_7, sz_8, sz_9, sz_10, sz_11, sz_12, sz_13, sz_14, sz_15, sz_16, Bool.true_eq_false, eq_self, it_tuplelist_int, it_tuplelist_str, it_tuplelist_tuple, it_tuplelist_list, it_tuplelist_bool, it_tuplelist_NoneType, it_list_int, it_list_str, it_list_tuple, it_list_list, it_list_bool, it_list_NoneType, it_tuple_int, it_tuple_str, it_tuple_tuple, it_tuple_list, it_tuple_bool, it_tuple_NoneType, it_bool_int, it_bool_str, it_bool_tuple, it_bool_list, it_bool_bool, it_bool_NoneType, it_int_int, it_int_str, it_int_tuple, it_int_list, it_int_bool, it_int_NoneType, it_str_int, it_str_str, it_str_tuple, it_str_list, it_str_bool, it_str_NoneType, ty_int, ty_str, ty_tuple, ty_list, ty_bool, ty_non, w_eqB, w_neB, w_isN, w_isNotN, nn_int, nn_str, nn_tuple, nn_list, nn_bool, kn_BadMachine_BadText, kn_NotSound_BadMachine, kn_NotSound_BadText, kn_BadBeat_BadMachine, kn_BadBeat_BadText, kn_BadPlain_BadMachine, kn_BadPlain_BadText, kn_TooLarge_BadMachine, kn_TooLarge_BadText, kn_BadMatch_BadMachine, kn_BadMatch_BadText, kn_BadMarks_BadMachine, kn_BadMarks_BadText, kn_BadTree_BadMachine, kn_BadTree_BadText, kn_BadProgram_BadMachine, kn_BadProgram_BadText, kn_Stuck_BadMachine, kn_Stuck_BadText, kn_BadCircuit_BadMachine, kn_BadCircuit_BadText, kn_BadPattern_BadMachine, kn_BadPattern_BadText, kn_BadPairs_BadMachine, kn_BadPairs_BadText, kn_BadNumbers_BadMachine, kn_BadNumbers_BadText, kn_BadRows_BadMachine, kn_BadRows_BadText, kn_BadText_BadMachine, km_BadMachine, km_NotSound, km_BadBeat, km_BadPlain, km_TooLarge, km_BadMatch, km_BadMarks, km_BadTree, km_BadProgram, km_Stuck, km_BadCircuit, km_BadPattern, km_BadPairs, km_BadNumbers, km_BadRows, km_BadText, inD]
      trivial
    · show Wp (match atI kwords ((14 : Nat) : Int) with | some d => Res.ok d S2 | none => Res.stuck) _ _
      have ea : atI kwords ((14 : Nat) : Int) = some (.str "BadRows") := rfl
      rw [ea]
      cases fs with
      | none => cases hk
      | some fs =>
        cases h1 : lookF fs "number" with
        | none => simp [kdata, h1] at hk
        | some u =>
          simp [kdata, h1] at hk
          subst hk
          simp only [w_dVar, w_dC, w_dNil, w_dCons, w_dTup, w_dLst, w_d2, w_d2T, w_d3, w_d3T, w_tstB, w_tAndD, w_tOrD, w_tNotD, w_dAnd, w_dOr, w_dNot, w_dIf, w_dNeg, w_sNext, w_sSeq, w_sIf, w_sRet, w_sExpr, w_sAsg, w_gVar, w_sBrk, w_gsNil, w_gsCons, w_gTupD, w_sPar, w_iVal, w_iEnumD, w_iZipD, w_iRngD1, w_iRngD2, w_tYesD, w_gSubD, w_oNone, w_oSome, w_dSlice, w_dCall, w_dFld, w_sFldD, w_gFldD, w_dCallF, w_dMeth, w_dMake, w_sRaise, w_sRaiseT, w_dExFc, w_dBm, w_dIsi, w_dLstF, w_dSliceF, w_dKind, kB_ap, w_bind, w_ok, w_exc, w_stuck, w_dFn, kFn_nx, kFn_ret, w_sTry, w_sFor, z6, z4, w_addI, w_addFI, w_addFL2, w_addFT2, w_frzI, w_frzS, w_frzT, w_frzF, w_frzN, w_frzB, w_subI, w_ltI, w_leI, w_gtI, w_geI, w_eqI, w_neI, w_eqS, w_neS, w_lenT, w_lenF, w_ixT2, w_ixF2, atI_pos, ixN_nat, Int.reduceToNat, Int.reduceLE, Int.reduceLT, Int.reduceNeg, startD, List.map_cons, List.map_nil, List.length_cons, List.length_nil, List.replicate, List.cons_append, List.nil_append, List.getElem?_cons_zero, List.getElem?_cons_succ, List.set_cons_zero, List.set_cons_succ, Nat.reduceAdd, Nat.reduceSub, Nat.reduceEqDiff, if_true, if_false, Bool.false_eq_true, decide_true, decide_false, Int.reduceEq, Int.reduceAdd, Int.reduceSub, Int.reduceMul, Bool.not_true, Bool.not_false, c_0, c_1, c_2, c_3, c_4, c_5, c_6, c_7, c_8, c_9, c_10, c_11, c_12, sz_0, sz_1, sz_2, sz_3, sz_4, sz_5, sz_6, sz_7, sz_8, sz_9, sz_10, sz_11, sz_12, sz_13, sz_14, sz_15, sz_16, Bool.true_eq_false, eq_self, it_tuplelist_int, it_tuplelist_str, it_tuplelist_tuple, it_tuplelist_list, it_tuplelist_bool, it_tuplelist_NoneType, it_list_int, it_list_str, it_list_tuple, it_list_list, it_list_bool, it_list_NoneType, it_tuple_int, it_tuple_str, it_tuple_tuple, it_tuple_list, it_tuple_bool, it_tuple_NoneType, it_bool_int, it_bool_str, it_bool_tuple, it_bool_list, it_bool_bool, it_bool_NoneType, it_int_int, it_int_str, it_int_tuple, it_int_list, it_int_bool, it_int_NoneType, it_str_int, it_str_str, it_str_tuple, it_str_list, it_str_bool, it_str_NoneType, ty_int, ty_str, ty_tuple, ty_list, ty_bool, ty_non, w_eqB, w_neB, w_isN, w_isNotN, nn_int, nn_str, nn_tuple, nn_list, nn_bool, kn_BadMachine_BadText, kn_NotSound_BadMachine, kn_NotSound_BadText, kn_BadBeat_BadMachine, kn_BadBeat_BadText, kn_BadPlain_BadMachine, kn_BadPlain_BadText, kn_TooLarge_BadMachine, kn_TooLarge_BadText, kn_BadMatch_BadMachine, kn_BadMatch_BadText, kn_BadMarks_BadMachine, kn_BadMarks_BadText, kn_BadTree_BadMachine, kn_BadTree_BadText, kn_BadProgram_BadMachine, kn_BadProgram_BadText, kn_Stuck_BadMachine, kn_Stuck_BadText, kn_BadCircuit_BadMachine, kn_BadCircuit_BadText, kn_BadPattern_BadMachine, kn_BadPattern_BadText, kn_BadPairs_BadMachine, kn_BadPairs_BadText, kn_BadNumbers_BadMachine, kn_BadNumbers_BadText, kn_BadRows_BadMachine, kn_BadRows_BadText, kn_BadText_BadMachine, km_BadMachine, km_NotSound, km_BadBeat, km_BadPlain, km_TooLarge, km_BadMatch, km_BadMarks, km_BadTree, km_BadProgram, km_Stuck, km_BadCircuit, km_BadPattern, km_BadPairs, km_BadNumbers, km_BadRows, km_BadText, inD, dExFc, List.mem_cons, true_or, or_true, Nat.reduceEqDiff, false_or, wF rfl h1]
          trivial
    · show Wp (match atI kwords ((15 : Nat) : Int) with | some d => Res.ok d S2 | none => Res.stuck) _ _
      have ea : atI kwords ((15 : Nat) : Int) = some (.str "BadText") := rfl
      rw [ea]
      cases fs with
      | none => cases hk
      | some fs =>
        cases h1 : lookF fs "row" with
        | none => simp [kdata, h1] at hk
        | some u =>
          simp [kdata, h1] at hk
          subst hk
          simp only [w_dVar, w_dC, w_dNil, w_dCons, w_dTup, w_dLst, w_d2, w_d2T, w_d3, w_d3T, w_tstB, w_tAndD, w_tOrD, w_tNotD, w_dAnd, w_dOr, w_dNot, w_dIf, w_dNeg, w_sNext, w_sSeq, w_sIf, w_sRet, w_sExpr, w_sAsg, w_gVar, w_sBrk, w_gsNil, w_gsCons, w_gTupD, w_sPar, w_iVal, w_iEnumD, w_iZipD, w_iRngD1, w_iRngD2, w_tYesD, w_gSubD, w_oNone, w_oSome, w_dSlice, w_dCall, w_dFld, w_sFldD, w_gFldD, w_dCallF, w_dMeth, w_dMake, w_sRaise, w_sRaiseT, w_dExFc, w_dBm, w_dIsi, w_dLstF, w_dSliceF, w_dKind, kB_ap, w_bind, w_ok, w_exc, w_stuck, w_dFn, kFn_nx, kFn_ret, w_sTry, w_sFor, z6, z4, w_addI, w_addFI, w_addFL2, w_addFT2, w_frzI, w_frzS, w_frzT, w_frzF, w_frzN, w_frzB, w_subI, w_ltI, w_leI, w_gtI, w_geI, w_eqI, w_neI, w_eqS, w_neS, w_lenT, w_lenF, w_ixT2, w_ixF2, atI_pos, ixN_nat, Int.reduceToNat, Int.reduceLE, Int.reduceLT, Int.reduceNeg, startD, List.map_cons, List.map_nil, List.length_cons, List.length_nil, List.replicate, List.cons_append, List.nil_append, List.getElem?_cons_zero, List.getElem?_cons_succ, List.set_cons_zero, List.set_cons_succ, Nat.reduceAdd, Nat.reduceSub, Nat.reduceEqDiff, if_true, if_false, Bool.false_eq_true, decide_true, decide_false, Int.reduceEq, Int.reduceAdd, Int.reduceSub, Int.reduceMul, Bool.not_true, Bool.not_false, c_0, c_1, c_2, c_3, c_4, c_5, c_6, c_7, c_8, c_9, c_10, c_11, c_12, sz_0, sz_1, sz_2, sz_3, sz_4, sz_5, sz_6, sz_7, sz_8, sz_9, sz_10, sz_11, sz_12, sz_13, sz_14, sz_15, sz_16, Bool.true_eq_false, eq_self, it_tuplelist_int, it_tuplelist_str, it_tuplelist_tuple, it_tuplelist_list, it_tuplelist_bool, it_tuplelist_NoneType, it_list_int, it_list_str, it_list_tuple, it_list_list, it_list_bool, it_list_NoneType, it_tuple_int, it_tuple_str, it_tuple_tuple, it_tuple_list, it_tuple_bool, it_tuple_NoneType, it_bool_int, it_bool_str, it_bool_tuple, it_bool_list, it_bool_bool, it_bool_NoneType, it_int_int, it_int_str, it_int_tuple, it_int_list, it_int_bool, it_int_NoneType, it_str_int, it_str_str, it_str_tuple, it_str_list, it_str_bool, it_str_NoneType, ty_int, ty_str, ty_tuple, ty_list, ty_bool, ty_non, w_eqB, w_neB, w_isN, w_isNotN, nn_int, nn_str, nn_tuple, nn_list, nn_bool, kn_BadMachine_BadText, kn_NotSound_BadMachine, kn_NotSound_BadText, kn_BadBeat_BadMachine, kn_BadBeat_BadText, kn_BadPlain_BadMachine, kn_BadPlain_BadText, kn_TooLarge_BadMachine, kn_TooLarge_BadText, kn_BadMatch_BadMachine, kn_BadMatch_BadText, kn_BadMarks_BadMachine, kn_BadMarks_BadText, kn_BadTree_BadMachine, kn_BadTree_BadText, kn_BadProgram_BadMachine, kn_BadProgram_BadText, kn_Stuck_BadMachine, kn_Stuck_BadText, kn_BadCircuit_BadMachine, kn_BadCircuit_BadText, kn_BadPattern_BadMachine, kn_BadPattern_BadText, kn_BadPairs_BadMachine, kn_BadPairs_BadText, kn_BadNumbers_BadMachine, kn_BadNumbers_BadText, kn_BadRows_BadMachine, kn_BadRows_BadText, kn_BadText_BadMachine, km_BadMachine, km_NotSound, km_BadBeat, km_BadPlain, km_TooLarge, km_BadMatch, km_BadMarks, km_BadTree, km_BadProgram, km_Stuck, km_BadCircuit, km_BadPattern, km_BadPairs, km_BadNumbers, km_BadRows, km_BadText, inD, dExFc, List.mem_cons, true_or, or_true, Nat.reduceEqDiff, false_or, wF rfl h1]
          trivial
end DL

namespace DL
open PySem PySem.Spec PyProof.Rows L2
theorem Wp.noExc {α : Type} {r : Res α} {Q : α → Sto → Prop} {X : Exc → Sto → Prop} (h : Wp r Q (fun _ _ => False)) : Wp r.noExc Q X := by
  cases r with
  | ok a S => exact h
  | exc x S => exact h.elim
  | stuck => exact h.elim
def TD : Nat → D → Prop
  | _, .str w => PyData.strOk w = true
  | _, .int _ => True
  | n + 1, .tup ds => ∀ d ∈ ds, TD n d
  | _, _ => False
theorem TD.up : ∀ {n : Nat} {d : D}, TD n d → TD (n + 1) d
  | _, .str w, h => by cases ‹Nat› <;> exact h
  | _, .int _, _ => by cases ‹Nat› <;> trivial
  | n + 1, .tup ds, h => fun d hd => TD.up (h d hd)
  | 0, .tup _, h => h.elim
  | 0, .non, h => h.elim
  | 0, .bl _, h => h.elim
  | 0, .frl _, h => h.elim
  | 0, .ref _, h => h.elim
  | 0, .exn _ _ _ _, h => h.elim
  | _ + 1, .non, h => h.elim
  | _ + 1, .bl _, h => h.elim
  | _ + 1, .frl _, h => h.elim
  | _ + 1, .ref _, h => h.elim
  | _ + 1, .exn _ _ _ _, h => h.elim
theorem mapO_all {f : D → Option PyData} {P : PyData → Prop} : ∀ (ds : List D), (∀ d ∈ ds, ∃ p, f d = some p ∧ P p) → ∃ ps, mapO f ds = some ps ∧ (∀ p ∈ ps, P p) ∧ ps.length = ds.length
  | [], _ => ⟨[], rfl, (fun _ h => nomatch h), rfl⟩
  | d :: ds, h => by
    obtain ⟨p, e, hp⟩ := h d (by simp)
    obtain ⟨ps, e2, h2, h3⟩ := mapO_all ds fun x hx => h x (by simp [hx])
    refine ⟨p :: ps, ?_, ?_, by simp [h3]⟩
    · unfold mapO; rw [e, e2]
    · intro x hx
      rcases List.mem_cons.mp hx with rfl | hx
      · exact hp
      · exact h2 x hx
theorem lay_all : ∀ {ps : List PyData}, (∀ p ∈ ps, p.canLay0 = true) → PyData.canLayAll0 ps = true
  | [], _ => by simp [PyData.canLayAll0]
  | p :: ps, h => by
    simp only [PyData.canLayAll0, Bool.and_eq_true]
    exact ⟨h p (by simp), lay_all fun x hx => h x (by simp [hx])⟩
theorem depth_all {n : Nat} : ∀ {ps : List PyData}, (∀ p ∈ ps, p.depth ≤ n) → PyData.depthAll ps ≤ n
  | [], _ => by simp [PyData.depthAll]
  | p :: ps, h => by
    simp only [PyData.depthAll]
    exact Nat.max_le.mpr ⟨h p (by simp), depth_all fun x hx => h x (by simp [hx])⟩
theorem TD.toP {S : Sto} : ∀ {n m : Nat} {d : D}, TD n d → n ≤ m → ∃ p, DL.toP S m d = some p ∧ (p.canLay0 = true ∧ p.depth ≤ n)
  | n, m, .str w, h, _ => by
    have h' : PyData.strOk w = true := by cases n <;> exact h
    exact ⟨.str w, by cases m <;> rfl, by simp [PyData.canLay0, h'], by simp [PyData.depth]⟩
  | n, m, .int i, _, _ => ⟨.int i, by cases m <;> rfl, by simp [PyData.canLay0], by simp [PyData.depth]⟩
  | n + 1, 0, .tup ds, _, hm => by omega
  | n + 1, m + 1, .tup ds, h, hm => by
    obtain ⟨ps, e, hp, _⟩ := mapO_all (f := DL.toP S m) (P := fun p => p.canLay0 = true ∧ p.depth ≤ n) ds fun d hd => TD.toP (h d hd) (by omega)
    refine ⟨.tuple ps, ?_, ?_, ?_⟩
    · show (mapO (DL.toP S m) ds).map PyData.tuple = _
      rw [e]; rfl
    · simp only [PyData.canLay0]; exact lay_all fun p h => (hp p h).1
    · simp only [PyData.depth]; exact Nat.succ_le_succ (depth_all fun p h => (hp p h).2)
  | 0, _, .tup _, h, _ => h.elim
  | 0, _, .non, h, _ => h.elim
  | 0, _, .bl _, h, _ => h.elim
  | 0, _, .frl _, h, _ => h.elim
  | 0, _, .ref _, h, _ => h.elim
  | 0, _, .exn _ _ _ _, h, _ => h.elim
  | _ + 1, _, .non, h, _ => h.elim
  | _ + 1, _, .bl _, h, _ => h.elim
  | _ + 1, _, .frl _, h, _ => h.elim
  | _ + 1, _, .ref _, h, _ => h.elim
  | _ + 1, _, .exn _ _ _ _, h, _ => h.elim
end DL

namespace DL
open PySem PySem.Spec PyProof.Rows L2
def W (l : List Nat) : Str := ⟨l.toArray⟩
theorem W_cps (l : List Nat) : (W l).cps.toList = l := by simp [W]
theorem W_inj {a b : List Nat} : W a = W b ↔ a = b := ⟨fun h => by have := congrArg (fun s : Str => s.cps.toList) h; simpa [W_cps] using this, fun h => by rw [h]⟩
theorem W_app (a b : List Nat) : W a ++ W b = W (a ++ b) := by
  show (⟨(W a).cps ++ (W b).cps⟩ : Str) = _
  simp [W]
theorem W_len (l : List Nat) : (W l).length = l.length := by simp [W, Str.length]
theorem W_empty : Str.ofString "" = W [] := by decide +kernel
theorem W_01 : Str.ofString "01" = W [48, 49] := by decide +kernel
theorem W_0 : Str.ofString "0" = W [48] := by decide +kernel
theorem W_1 : Str.ofString "1" = W [49] := by decide +kernel
def Wok (l : List Nat) : Prop := ∀ c ∈ l, c < 1114112
theorem strOk_W {l : List Nat} (h : Wok l) : PyData.strOk (W l) = true := by
  unfold PyData.strOk
  rw [Array.all_eq_true_iff_forall_mem]
  intro c hc
  exact decide_eq_true (h c (by simpa [W] using hc))
def GD : Nat → D → Prop
  | _, .str w => PyData.strOk w = true
  | _, .int _ => True
  | _, .non => True
  | n + 1, .tup ds => ∀ d ∈ ds, GD n d
  | n + 1, .frl ds => ∀ d ∈ ds, GD n d
  | _, _ => False
theorem gd_int {n : Nat} {i : Int} : GD n (.int i) := by cases n <;> trivial
theorem gd_non {n : Nat} : GD n .non := by cases n <;> trivial
theorem gd_str {n : Nat} {w : Str} (h : PyData.strOk w = true) : GD n (.str w) := by cases n <;> exact h
theorem gd_W {n : Nat} {l : List Nat} (h : Wok l) : GD n (.str (W l)) := gd_str (strOk_W h)
theorem gd_tup {n : Nat} {ds : List D} (h : ∀ d ∈ ds, GD n d) : GD (n + 1) (.tup ds) := h
theorem gd_frl {n : Nat} {ds : List D} (h : ∀ d ∈ ds, GD n d) : GD (n + 1) (.frl ds) := h
theorem GD.up : ∀ {n : Nat} {d : D}, GD n d → GD (n + 1) d
  | _, .str w, h => by cases ‹Nat› <;> exact h
  | _, .int _, _ => gd_int
  | _, .non, _ => gd_non
  | n + 1, .tup ds, h => fun d hd => GD.up (h d hd)
  | n + 1, .frl ds, h => fun d hd => GD.up (h d hd)
  | 0, .tup _, h => h.elim
  | 0, .frl _, h => h.elim
  | 0, .bl _, h => h.elim
  | 0, .ref _, h => h.elim
  | 0, .exn _ _ _ _, h => h.elim
  | _ + 1, .bl _, h => h.elim
  | _ + 1, .ref _, h => h.elim
  | _ + 1, .exn _ _ _ _, h => h.elim
mutual
def pd : D → PyData
  | .non => .none
  | .bl b => .bool b
  | .int i => .int i
  | .str x => .str x
  | .tup ds => .tuple (pds ds)
  | .frl ds => .list (pds ds)
  | .ref _ => .none
  | .exn _ _ _ _ => .none
def pds : List D → List PyData
  | [] => []
  | d :: ds => pd d :: pds ds
end
theorem mapO_pd {f : D → Option PyData} : ∀ (ds : List D), (∀ d ∈ ds, f d = some (pd d)) → mapO f ds = some (pds ds)
  | [], _ => rfl
  | d :: ds, h => by
    unfold mapO
    rw [h d (by simp), mapO_pd ds fun x hx => h x (by simp [hx])]
    rfl
theorem gd_toP {S : Sto} : ∀ {n k : Nat} {d : D}, GD n d → n ≤ k → toP S k d = some (pd d)
  | n, k, .str w, _, _ => by cases k <;> rfl
  | n, k, .int _, _, _ => by cases k <;> rfl
  | n, k, .non, _, _ => by cases k <;> rfl
  | n + 1, 0, .tup ds, _, hk => by omega
  | n + 1, 0, .frl ds, _, hk => by omega
  | n + 1, k + 1, .tup ds, h, hk => by
    show (mapO (toP S k) ds).map PyData.tuple = _
    rw [mapO_pd ds fun d hd => gd_toP (h d hd) (by omega)]; rfl
  | n + 1, k + 1, .frl ds, h, hk => by
    show (mapO (toP S k) ds).map PyData.list = _
    rw [mapO_pd ds fun d hd => gd_toP (h d hd) (by omega)]; rfl
  | 0, _, .tup _, h, _ => h.elim
  | 0, _, .frl _, h, _ => h.elim
  | 0, _, .bl _, h, _ => h.elim
  | 0, _, .ref _, h, _ => h.elim
  | 0, _, .exn _ _ _ _, h, _ => h.elim
  | _ + 1, _, .bl _, h, _ => h.elim
  | _ + 1, _, .ref _, h, _ => h.elim
  | _ + 1, _, .exn _ _ _ _, h, _ => h.elim
theorem pds_mem : ∀ {ds : List D} {p : PyData}, p ∈ pds ds → ∃ d ∈ ds, p = pd d
  | [], _, h => by cases h
  | d :: ds, p, h => by
    have h' : p ∈ pd d :: pds ds := h
    rcases List.mem_cons.mp h' with rfl | h'
    · exact ⟨d, by simp, rfl⟩
    · obtain ⟨e, he, rfl⟩ := pds_mem h'
      exact ⟨e, by simp [he], rfl⟩
theorem gd_lay : ∀ {n : Nat} {d : D}, GD n d → (pd d).canLay0 = true ∧ (pd d).depth ≤ n
  | n, .str w, h => by
    have h' : PyData.strOk w = true := by cases n <;> exact h
    exact ⟨by simp [pd, PyData.canLay0, h'], by simp [pd, PyData.depth]⟩
  | n, .int _, _ => ⟨by simp [pd, PyData.canLay0], by simp [pd, PyData.depth]⟩
  | n, .non, _ => ⟨by simp [pd, PyData.canLay0], by simp [pd, PyData.depth]⟩
  | n + 1, .tup ds, h => by
    have key : ∀ p ∈ pds ds, p.canLay0 = true ∧ p.depth ≤ n := fun p hp => by
      obtain ⟨d, hd, rfl⟩ := pds_mem hp
      exact gd_lay (h d hd)
    refine ⟨?_, ?_⟩
    · simp only [pd, PyData.canLay0]; exact lay_all fun p h => (key p h).1
    · simp only [pd, PyData.depth]; exact Nat.succ_le_succ (depth_all fun p h => (key p h).2)
  | n + 1, .frl ds, h => by
    have key : ∀ p ∈ pds ds, p.canLay0 = true ∧ p.depth ≤ n := fun p hp => by
      obtain ⟨d, hd, rfl⟩ := pds_mem hp
      exact gd_lay (h d hd)
    refine ⟨?_, ?_⟩
    · simp only [pd, PyData.canLay0]; exact lay_all fun p h => (key p h).1
    · simp only [pd, PyData.depth]; exact Nat.succ_le_succ (depth_all fun p h => (key p h).2)
  | 0, .tup _, h => h.elim
  | 0, .frl _, h => h.elim
  | 0, .bl _, h => h.elim
  | 0, .ref _, h => h.elim
  | 0, .exn _ _ _ _, h => h.elim
  | _ + 1, .bl _, h => h.elim
  | _ + 1, .ref _, h => h.elim
  | _ + 1, .exn _ _ _ _, h => h.elim
theorem gd_shaped {n : Nat} {d : D} (h : GD n d) (hn : n ≤ 64) : SeqAt.shaped (pd d) = true := by
  unfold SeqAt.shaped
  obtain ⟨a, b⟩ := gd_lay h
  rw [a, decide_eq_true (Nat.le_trans b hn)]; rfl
mutual
theorem eqv_pd : ∀ (x y : D) {n m : Nat}, GD n x → GD m y → PyData.eqv (pd x) (pd y) = decide (x = y)
  | .non, .non, _, _, _, _ => by simp [pd, PyData.eqv]
  | .int a, .int b, _, _, _, _ => by by_cases h : a = b <;> simp [pd, PyData.eqv, h]
  | .str a, .str b, _, _, _, _ => by by_cases h : a = b <;> simp [pd, PyData.eqv, h]
  | .tup a, .tup b, 0, _, h, _ => h.elim
  | .tup a, .tup b, _ + 1, 0, _, h => h.elim
  | .tup a, .tup b, n + 1, m + 1, h, h2 => by
    simp only [pd, PyData.eqv]
    rw [eqv_pds a b h h2]
    by_cases e : a = b <;> simp [e]
  | .frl a, .frl b, 0, _, h, _ => h.elim
  | .frl a, .frl b, _ + 1, 0, _, h => h.elim
  | .frl a, .frl b, n + 1, m + 1, h, h2 => by
    simp only [pd, PyData.eqv]
    rw [eqv_pds a b h h2]
    by_cases e : a = b <;> simp [e]
  | .non, .int _, _, _, _, _ => by simp [pd, PyData.eqv]
  | .non, .str _, _, _, _, _ => by simp [pd, PyData.eqv]
  | .non, .tup _, _, _, _, _ => by simp [pd, PyData.eqv]
  | .non, .frl _, _, _, _, _ => by simp [pd, PyData.eqv]
  | .int _, .non, _, _, _, _ => by simp [pd, PyData.eqv]
  | .int _, .str _, _, _, _, _ => by simp [pd, PyData.eqv]
  | .int _, .tup _, _, _, _, _ => by simp [pd, PyData.eqv]
  | .int _, .frl _, _, _, _, _ => by simp [pd, PyData.eqv]
  | .str _, .non, _, _, _, _ => by simp [pd, PyData.eqv]
  | .str _, .int _, _, _, _, _ => by simp [pd, PyData.eqv]
  | .str _, .tup _, _, _, _, _ => by simp [pd, PyData.eqv]
  | .str _, .frl _, _, _, _, _ => by simp [pd, PyData.eqv]
  | .tup _, .non, _, _, _, _ => by simp [pd, PyData.eqv]
  | .tup _, .int _, _, _, _, _ => by simp [pd, PyData.eqv]
  | .tup _, .str _, _, _, _, _ => by simp [pd, PyData.eqv]
  | .tup _, .frl _, _, _, _, _ => by simp [pd, PyData.eqv]
  | .frl _, .non, _, _, _, _ => by simp [pd, PyData.eqv]
  | .frl _, .int _, _, _, _, _ => by simp [pd, PyData.eqv]
  | .frl _, .str _, _, _, _, _ => by simp [pd, PyData.eqv]
  | .frl _, .tup _, _, _, _, _ => by simp [pd, PyData.eqv]
  | .bl _, _, n, _, h, _ => by cases n <;> exact h.elim
  | .ref _, _, n, _, h, _ => by cases n <;> exact h.elim
  | .exn _ _ _ _, _, n, _, h, _ => by cases n <;> exact h.elim
  | _, .bl _, _, n, _, h => by cases n <;> exact h.elim
  | _, .ref _, _, n, _, h => by cases n <;> exact h.elim
  | _, .exn _ _ _ _, _, n, _, h => by cases n <;> exact h.elim
theorem eqv_pds : ∀ (xs ys : List D) {n m : Nat}, (∀ d ∈ xs, GD n d) → (∀ d ∈ ys, GD m d) → PyData.eqvAll (pds xs) (pds ys) = decide (xs = ys)
  | [], [], _, _, _, _ => by simp [pds, PyData.eqvAll]
  | [], _ :: _, _, _, _, _ => by simp [pds, PyData.eqvAll]
  | _ :: _, [], _, _, _, _ => by simp [pds, PyData.eqvAll]
  | x :: xs, y :: ys, n, m, hx, hy => by
    simp only [pds, PyData.eqvAll]
    rw [eqv_pd x y (hx x (by simp)) (hy y (by simp)), eqv_pds xs ys (fun d hd => hx d (by simp [hd])) (fun d hd => hy d (by simp [hd]))]
    by_cases e : x = y <;> by_cases e2 : xs = ys <;> simp [e, e2]
end
theorem same_gd {x y : D} {S : Sto} {n m : Nat} (hx : GD n x) (hy : GD m y) (hn : n ≤ 60 := by decide) (hm : m ≤ 60 := by decide) : sameD x y S = some (decide (x = y)) := by
  have e1 := gd_toP (S := S) hx hn
  have e2 := gd_toP (S := S) hy hm
  have s1 := gd_shaped hx (by omega)
  have s2 := gd_shaped hy (by omega)
  have key : (match toP S 60 x, toP S 60 y with
    | some a, some b => if SeqAt.shaped a && SeqAt.shaped b then some (PyData.eqv a b) else none
    | _, _ => none) = some (decide (x = y)) := by
    rw [e1, e2]
    simp only [s1, s2, Bool.and_self, if_true]
    rw [eqv_pd x y hx hy]
  unfold sameD
  split
  · simp
  · simp
  · simp
  · exact key
theorem w_eqG {x y : D} {S : Sto} {Q : D → Sto → Prop} {X : Exc → Sto → Prop} {n m : Nat} (hx : GD n x) (hy : GD m y) (hn : n ≤ 60 := by decide) (hm : m ≤ 60 := by decide) : Wp (eqD x y S) Q X = Q (.bl (decide (x = y))) S := by
  simp only [eqD, same_gd hx hy hn hm]; rfl
theorem w_neG {x y : D} {S : Sto} {Q : D → Sto → Prop} {X : Exc → Sto → Prop} {n m : Nat} (hx : GD n x) (hy : GD m y) (hn : n ≤ 60 := by decide) (hm : m ≤ 60 := by decide) : Wp (neD x y S) Q X = Q (.bl (!decide (x = y))) S := by
  simp only [neD, same_gd hx hy hn hm]; rfl
mutual
theorem gd_blw {k : Nat} : ∀ {n : Nat} (d : D), GD n d → d.blw k = true
  | _, .str _, _ => rfl
  | _, .int _, _ => rfl
  | _, .non, _ => rfl
  | n + 1, .tup ds, h => gd_blws ds h
  | n + 1, .frl ds, h => gd_blws ds h
  | 0, .tup _, h => h.elim
  | 0, .frl _, h => h.elim
  | 0, .bl _, h => h.elim
  | 0, .ref _, h => h.elim
  | 0, .exn _ _ _ _, h => h.elim
  | _ + 1, .bl _, h => h.elim
  | _ + 1, .ref _, h => h.elim
  | _ + 1, .exn _ _ _ _, h => h.elim
theorem gd_blws {k : Nat} : ∀ {n : Nat} (ds : List D), (∀ d ∈ ds, GD n d) → D.blws k ds = true
  | _, [], _ => rfl
  | n, d :: ds, h => by
    show (D.blw k d && D.blws k ds) = true
    rw [gd_blw d (h d (by simp)), gd_blws ds fun x hx => h x (by simp [hx])]; rfl
end
theorem blws_all {k : Nat} : ∀ {ds : List D}, (∀ d ∈ ds, d.blw k = true) → D.blws k ds = true
  | [], _ => rfl
  | d :: ds, h => by
    show (D.blw k d && D.blws k ds) = true
    rw [h d (by simp), blws_all fun x hx => h x (by simp [hx])]; rfl
theorem has_sign {c : Nat} {l : List Nat} {S : Sto} : hasD (.str (W [c])) (.str (W l)) S = some (decide (c ∈ l)) := by
  simp only [hasD, W_cps]
theorem cutOk_app (S T : Sto) : cutOk S (S ++ T) = true := by
  unfold cutOk
  rw [Bool.and_eq_true]
  refine ⟨decide_eq_true (by simp), List.all_eq_true.mpr fun i hi => ?_⟩
  have hi' := List.mem_range.mp hi
  unfold sameO
  rw [List.getElem?_append_left hi', decide_eq_true rfl, Bool.true_or]
theorem cutOk_set (S T : Sto) (l : Nat) (o : DO) (ho : o.blw S.length = true) : cutOk S (S.set l o ++ T) = true := by
  unfold cutOk
  rw [Bool.and_eq_true]
  refine ⟨decide_eq_true (by simp), List.all_eq_true.mpr fun i hi => ?_⟩
  have hi' := List.mem_range.mp hi
  unfold sameO
  rw [List.getElem?_append_left (by simpa using hi')]
  by_cases e : l = i
  · subst e
    rw [List.getElem?_set_self hi']
    simp [ho]
  · rw [List.getElem?_set_ne e, decide_eq_true rfl, Bool.true_or]
theorem cut_app {d : D} {S T : Sto} (h : d.blw S.length = true) : cutR S (.ok d (S ++ T)) = .ok d S := by
  simp only [cutR]
  rw [if_pos (cutOk_app S T), if_pos h, List.take_left]
theorem cut_set {d : D} {S T : Sto} {l : Nat} {o : DO} (h : d.blw S.length = true) (ho : o.blw S.length = true) : cutR S (.ok d (S.set l o ++ T)) = .ok d (S.set l o) := by
  simp only [cutR]
  rw [if_pos (cutOk_set S T l o ho), if_pos h]
  congr 1
  rw [List.take_append_of_le_length (by simp)]
  exact List.take_of_length_le (by simp)
theorem cut_exc {x : Exc} {S T : Sto} (h : x.blw S.length = true) : cutR S (.exc x (S ++ T)) = .exc x S := by
  simp only [cutR]
  rw [if_pos ⟨cutOk_app S T, h⟩, List.take_left]
def NX : Exc → Sto → Prop := fun _ _ => False
theorem fn_ok {n : Nat} {b : Sl → Sto → Res Fl} {ds : List D} {S : Sto} {v : D} (hv : v.blw S.length = true) (h : Wp (b (startD n ds) S) (kFn fun d S' => d = v ∧ ∃ T, S' = S ++ T) NX) : cutF (dFn n b) ds S = .ok v S := by
  have h' : Wp (dFn n b ds S) (fun d S' => d = v ∧ ∃ T, S' = S ++ T) NX := by rw [w_dFn]; exact h
  obtain ⟨d, S', e, rfl, T, rfl⟩ := Wp.ok h'
  unfold cutF
  rw [e, cut_app hv]
theorem fn_exc {n : Nat} {b : Sl → Sto → Res Fl} {ds : List D} {S : Sto} {x : Exc} (hx : x.blw S.length = true) (h : Wp (b (startD n ds) S) (fun _ _ => False) (fun y S' => y = x ∧ ∃ T, S' = S ++ T)) : cutF (dFn n b) ds S = .exc x S := by
  unfold cutF dFn
  cases hr : b (startD n ds) S with
  | ok fl S1 => rw [hr] at h; exact h.elim
  | stuck => rw [hr] at h; exact h.elim
  | exc y S1 =>
    rw [hr] at h
    obtain ⟨rfl, T, rfl⟩ := h
    exact cut_exc hx
theorem zd (S : Sto) : ∃ T, S = S ++ T := ⟨[], by simp⟩
theorem frz_last {S : Sto} {xs : List D} (h : D.blws S.length xs = true) : frzD S (.ref S.length) (S ++ [.lst xs]) = .ok (.frl xs) S := by
  unfold frzD
  simp only [get_last]
  rw [if_pos ⟨Nat.le_refl _, cutOk_app S _, h⟩, List.take_left]
theorem ok_of_wp {α : Type} {r : Res α} {Q : α → Sto → Prop} (h : Wp r Q NX) : ∃ a S, r = .ok a S ∧ Q a S := Wp.ok h
theorem compF {α : Type} (xs : List α) (en : α → D) (P : α → Bool) (f : α → D) {vs : List Nat} {fi : Sl → Sto → Res ItD} {ga : D → Sl → Sto → Res Sl} {ft : Sl → Sto → Res Bool} {fe : Sl → Sto → Res D} {sd : Sl} {S : Sto}
    (hi : Wp (fi sd S) (fun it S1 => S1 = S ∧ it.items = xs.map en ∧ ∀ S', Grow S S' → it.chk S' = true) NX) (hl : (xs.filter P).length ≤ sizeLine)
    (hx : ∀ a ∈ xs, ∀ S', Grow S S' → Wp (ga (en a) (wipeD sd vs) S') (fun sd1 S1 => S1 = S' ∧ Wp (ft sd1 S') (fun b S2 => S2 = S' ∧ b = P a ∧ (P a = true → Wp (fe sd1 S') (fun y S3 => S3 = S' ∧ y = f a) NX)) NX) NX)
    (hb : ∀ a ∈ xs, P a = true → (f a).blw S.length = true) : dFrz (dComp vs fi ga ft fe) sd S = .ok (.frl ((xs.filter P).map f)) S := by
  obtain ⟨it, S1, e1, rfl, e2, e3⟩ := ok_of_wp hi
  have key : ∀ (ys : List α) (acc : List D), (∀ a ∈ ys, a ∈ xs) → acc.length + (ys.filter P).length ≤ sizeLine → compD it.chk ga ft fe S1.length (wipeD sd vs) (ys.map en) (S1 ++ [.lst acc]) = .ok () (S1 ++ [.lst (acc ++ (ys.filter P).map f)]) := by
    intro ys
    induction ys with
    | nil =>
      intro acc _ _
      show (if it.chk (S1 ++ [.lst acc]) = true then Res.ok () (S1 ++ [.lst acc]) else .stuck) = _
      rw [if_pos (e3 _ (Grow.one _ _))]
      simp
    | cons a ys ih =>
      intro acc hm hlen
      obtain ⟨sd1, S2, g1, rfl, h2⟩ := ok_of_wp (hx a (hm a (by simp)) (S1 ++ [.lst acc]) (Grow.one _ _))
      obtain ⟨b, S3, g2, rfl, rfl, h3⟩ := ok_of_wp h2
      rw [List.map_cons]
      unfold compD
      rw [if_pos (e3 _ (Grow.one _ _)), g1]
      simp only [Res.noExc, Res.bind, g2]
      cases hp : P a with
      | false =>
        rw [List.filter_cons_of_neg (by simp [hp])] at hlen ⊢
        rw [if_neg (by simp), ih acc (fun z hz => hm z (by simp [hz])) hlen]
      | true =>
        rw [List.filter_cons_of_pos hp] at hlen ⊢
        have hlen' : acc.length + 1 + (ys.filter P).length ≤ sizeLine := by simp at hlen; omega
        obtain ⟨y, S4, g3, rfl, rfl⟩ := ok_of_wp (h3 hp)
        rw [if_pos rfl, g3]
        simp only [Res.noExc, Res.bind]
        rw [List.getElem?_append_right (Nat.le_refl _)]
        simp only [Nat.sub_self, List.getElem?_cons_zero]
        rw [if_pos (by omega), set_last, ih (acc ++ [f a]) (fun z hz => hm z (by simp [hz])) (by simp; omega)]
        simp
  unfold dFrz dComp
  rw [e1]
  show ((compD it.chk ga ft fe S1.length (wipeD sd vs) it.items (S1 ++ [.lst []])).bind fun _ S2 => Res.ok (D.ref S1.length) S2).bind _ = _
  rw [e2, key xs [] (fun _ h => h) (by simpa using hl)]
  show frzD S1 (.ref S1.length) (S1 ++ [.lst ([] ++ (xs.filter P).map f)]) = _
  rw [List.nil_append, frz_last]
  refine blws_all fun d hd => ?_
  obtain ⟨a, ha, rfl⟩ := List.mem_map.mp hd
  exact hb a (List.mem_filter.mp ha).1 (List.mem_filter.mp ha).2
theorem filt_true {α : Type} : ∀ l : List α, l.filter (fun _ => true) = l
  | [] => rfl
  | a :: l => by rw [List.filter_cons_of_pos rfl, filt_true l]
theorem compM {α : Type} (xs : List α) (en : α → D) (f : α → D) {vs : List Nat} {fi : Sl → Sto → Res ItD} {ga : D → Sl → Sto → Res Sl} {fe : Sl → Sto → Res D} {sd : Sl} {S : Sto}
    (hi : Wp (fi sd S) (fun it S1 => S1 = S ∧ it.items = xs.map en ∧ ∀ S', Grow S S' → it.chk S' = true) NX) (hl : xs.length ≤ sizeLine)
    (hx : ∀ a ∈ xs, ∀ S', Grow S S' → Wp (ga (en a) (wipeD sd vs) S') (fun sd1 S1 => S1 = S' ∧ Wp (fe sd1 S') (fun y S3 => S3 = S' ∧ y = f a) NX) NX)
    (hb : ∀ a ∈ xs, (f a).blw S.length = true) : dFrz (dComp vs fi ga tYesD fe) sd S = .ok (.frl (xs.map f)) S := by
  have := compF (vs := vs) (ga := ga) (fe := fe) (ft := tYesD) xs en (fun _ => true) f hi (by rw [filt_true]; exact hl) (fun a ha S' g => ?_) (fun a ha _ => hb a ha)
  · rw [this, filt_true]
  · refine Wp.mono (hx a ha S' g) (fun sd1 S1 h => ⟨h.1, ?_⟩) fun _ _ z => z
    exact ⟨rfl, rfl, fun _ => h.2⟩
theorem w_loopP {α : Type} (en : α → D) (I : List α → Sl → Sto → Prop) (xs : List α) {chk : Sto → Bool} {ga : D → Sl → Sto → Res Sl} {fb : Sl → Sto → Res Fl} {Q : Fl → Sto → Prop} {X : Exc → Sto → Prop} {sd : Sl} {S : Sto}
    (hc : ∀ pre post sd S, xs = pre ++ post → I pre sd S → chk S = true) (hs : I [] sd S) (h0 : ∀ sd S, I xs sd S → Q (.nx sd) S)
    (h1 : ∀ pre a post sd S, xs = pre ++ a :: post → I pre sd S → Wp (ga (en a) sd S) (fun sd1 S1 => Wp (fb sd1 S1) (fun fl S2 => match fl with
      | .nx sd2 => I (pre ++ [a]) sd2 S2
      | .cnt sd2 => I (pre ++ [a]) sd2 S2
      | .brk sd2 => Q (.nx sd2) S2
      | .ret d => Q (.ret d) S2) X) X) : Wp (loopD chk ga fb (xs.map en) sd S) Q X := by
  refine w_loop (fun ds sd S => ∃ pre post, xs = pre ++ post ∧ ds = post.map en ∧ I pre sd S) ?_ ?_ ?_ _ _ _ ⟨[], xs, rfl, rfl, hs⟩
  · rintro ds sd S ⟨pre, post, e, _, h⟩
    exact hc pre post sd S e h
  · rintro sd S ⟨pre, post, e, e2, h⟩
    have : post = [] := by simpa using e2.symm
    subst this
    rw [List.append_nil] at e
    subst e
    exact h0 sd S h
  · rintro x ds sd S ⟨pre, post, e, e2, h⟩
    cases post with
    | nil => cases e2
    | cons a post =>
      rw [List.map_cons] at e2
      cases e2
      refine Wp.mono (h1 pre a post sd S e h) (fun sd1 S1 h2 => Wp.mono h2 (fun fl S2 h3 => ?_) fun _ _ z => z) fun _ _ z => z
      have ea : xs = (pre ++ [a]) ++ post := by rw [e]; simp
      cases fl with
      | nx sd2 => exact ⟨_, _, ea, rfl, h3⟩
      | cnt sd2 => exact ⟨_, _, ea, rfl, h3⟩
      | brk sd2 => exact h3
      | ret d => exact h3
inductive All2 {α β : Type} (P : α → β → Prop) : List α → List β → Prop where
  | nil : All2 P [] []
  | cons {a b as bs} : P a b → All2 P as bs → All2 P (a :: as) (b :: bs)
theorem All2.len {α β : Type} {P : α → β → Prop} {as : List α} {bs : List β} (h : All2 P as bs) : bs.length = as.length := by
  induction h with
  | nil => rfl
  | cons _ _ ih => simp [ih]
theorem All2.mem {α β : Type} {P : α → β → Prop} {as : List α} {bs : List β} (h : All2 P as bs) : ∀ b ∈ bs, ∃ a ∈ as, P a b := by
  induction h with
  | nil => intro b hb; cases hb
  | cons h _ ih =>
    intro b hb
    rcases List.mem_cons.mp hb with rfl | hb
    · exact ⟨_, by simp, h⟩
    · obtain ⟨a, ha, hp⟩ := ih b hb
      exact ⟨a, by simp [ha], hp⟩
theorem All2.ex {α β γ : Type} {P : α → β → Prop} {f : γ → β} {as : List α} {bs : List β} (h : All2 P as bs) (hp : ∀ a ∈ as, ∀ b, P a b → ∃ c, b = f c) : ∃ cs : List γ, bs = cs.map f := by
  induction h with
  | nil => exact ⟨[], rfl⟩
  | cons h1 _ ih =>
    obtain ⟨cs, rfl⟩ := ih fun a ha => hp a (by simp [ha])
    obtain ⟨c, rfl⟩ := hp _ (by simp) _ h1
    exact ⟨c :: cs, rfl⟩
theorem none_dec {α β : Type} [DecidableEq β] {p : α → Bool} {f : α → β} : ∀ l : List α, decide ((l.filter p).map f = []) = l.all fun a => !p a
  | [] => by simp
  | a :: l => by
    cases hp : p a with
    | true => rw [List.filter_cons_of_pos hp, List.all_cons, hp]; simp
    | false => rw [List.filter_cons_of_neg (by simp [hp]), none_dec l, List.all_cons, hp]; simp
theorem gd_nil : GD 1 (.frl []) := fun d hd => by cases hd
theorem gd_map {α : Type} {n : Nat} {f : α → D} {l : List α} (h : ∀ a ∈ l, GD n (f a)) : ∀ d ∈ l.map f, GD n d := fun d hd => by
  obtain ⟨a, ha, rfl⟩ := List.mem_map.mp hd
  exact h a ha
theorem w_eqNil {α : Type} {p : α → Bool} {f : α → D} {l : List α} {n : Nat} {S : Sto} {Q : D → Sto → Prop} {X : Exc → Sto → Prop} (h : ∀ a ∈ l, GD n (f a)) (hn : n ≤ 59 := by decide) : Wp (eqD (.frl ((l.filter p).map f)) (.frl []) S) Q X = Q (.bl (l.all fun a => !p a)) S := by
  rw [w_eqG (n := n + 1) (m := 1) (gd_frl (gd_map fun a ha => h a (List.mem_filter.mp ha).1)) gd_nil (by omega)]
  rw [show decide (D.frl ((l.filter p).map f) = D.frl []) = l.all (fun a => !p a) from by
    rw [← none_dec (p := p) (f := f) l]; simp]
theorem w_enumP {α : Type} (en : α → D) (I : List α → Sl → Sto → Prop) (xs : List α) {chk : Sto → Bool} {ga : D → Sl → Sto → Res Sl} {fb : Sl → Sto → Res Fl} {Q : Fl → Sto → Prop} {X : Exc → Sto → Prop} {sd : Sl} {S : Sto}
    (hc : ∀ pre post sd S, xs = pre ++ post → I pre sd S → chk S = true) (hs : I [] sd S) (h0 : ∀ sd S, I xs sd S → Q (.nx sd) S)
    (h1 : ∀ pre a post sd S, xs = pre ++ a :: post → I pre sd S → Wp (ga (.tup [.int (pre.length : Nat), en a]) sd S) (fun sd1 S1 => Wp (fb sd1 S1) (fun fl S2 => match fl with
      | .nx sd2 => I (pre ++ [a]) sd2 S2
      | .cnt sd2 => I (pre ++ [a]) sd2 S2
      | .brk sd2 => Q (.nx sd2) S2
      | .ret d => Q (.ret d) S2) X) X) : Wp (loopD chk ga fb (enumL 0 (xs.map en)) sd S) Q X := by
  refine w_loop (fun ds sd S => ∃ pre post, xs = pre ++ post ∧ ds = enumL pre.length (post.map en) ∧ I pre sd S) ?_ ?_ ?_ _ _ _ ⟨[], xs, rfl, rfl, hs⟩
  · rintro ds sd S ⟨pre, post, e, _, h⟩
    exact hc pre post sd S e h
  · rintro sd S ⟨pre, post, e, e2, h⟩
    have : post = [] := by
      cases post with
      | nil => rfl
      | cons a post => simp [enumL] at e2
    subst this
    rw [List.append_nil] at e
    subst e
    exact h0 sd S h
  · rintro x ds sd S ⟨pre, post, e, e2, h⟩
    cases post with
    | nil => cases e2
    | cons a post =>
      rw [List.map_cons] at e2
      cases e2
      refine Wp.mono (h1 pre a post sd S e h) (fun sd1 S1 h2 => Wp.mono h2 (fun fl S2 h3 => ?_) fun _ _ z => z) fun _ _ z => z
      have ea : xs = (pre ++ [a]) ++ post := by rw [e]; simp
      have el : enumL (pre.length + 1) (post.map en) = enumL (pre ++ [a]).length (post.map en) := by simp
      cases fl with
      | nx sd2 => exact ⟨_, _, ea, el, h3⟩
      | cnt sd2 => exact ⟨_, _, ea, el, h3⟩
      | brk sd2 => exact h3
      | ret d => exact h3
theorem w_rangeP (I : Nat → Sl → Sto → Prop) (lo : Int) (n : Nat) {chk : Sto → Bool} {ga : D → Sl → Sto → Res Sl} {fb : Sl → Sto → Res Fl} {Q : Fl → Sto → Prop} {X : Exc → Sto → Prop} {sd : Sl} {S : Sto}
    (hc : ∀ i sd S, i ≤ n → I i sd S → chk S = true) (hs : I 0 sd S) (h0 : ∀ sd S, I n sd S → Q (.nx sd) S)
    (h1 : ∀ i sd S, i < n → I i sd S → Wp (ga (.int (lo + (i : Nat))) sd S) (fun sd1 S1 => Wp (fb sd1 S1) (fun fl S2 => match fl with
      | .nx sd2 => I (i + 1) sd2 S2
      | .cnt sd2 => I (i + 1) sd2 S2
      | .brk sd2 => Q (.nx sd2) S2
      | .ret d => Q (.ret d) S2) X) X) : Wp (loopD chk ga fb (rangeL lo n) sd S) Q X := by
  unfold rangeL
  refine w_loopP (fun i : Nat => D.int (lo + (i : Nat))) (fun pre sd S => I pre.length sd S) (List.range n) ?_ hs ?_ ?_
  · intro pre post sd S e h
    exact hc pre.length sd S (by have := congrArg List.length e; simp at this; omega) h
  · intro sd S h
    rw [List.length_range] at h
    exact h0 sd S h
  · intro pre a post sd S e h
    have ha : a = pre.length := by
      have h1 : (List.range n)[pre.length]? = some a := by rw [e]; simp
      rw [List.getElem?_range (by have := congrArg List.length e; simp at this; omega)] at h1
      exact (Option.some.inj h1).symm
    have hn : pre.length < n := by have := congrArg List.length e; simp at this; omega
    subst ha
    have el : (pre ++ [pre.length]).length = pre.length + 1 := by simp
    refine Wp.mono (h1 pre.length sd S hn h) (fun sd1 S1 h2 => Wp.mono h2 (fun fl S2 h3 => ?_) fun _ _ z => z) fun _ _ z => z
    cases fl with
    | nx sd2 => show I _ sd2 S2; rw [el]; exact h3
    | cnt sd2 => show I _ sd2 S2; rw [el]; exact h3
    | brk sd2 => exact h3
    | ret d => exact h3
def SD : Nat → D → Prop
  | _, .str w => PyData.strOk w = true
  | _, .int _ => True
  | _, .non => True
  | n + 1, .tup ds => ds.length ≤ 1000000000 ∧ ∀ d ∈ ds, SD n d
  | n + 1, .frl ds => ds.length ≤ 1000000000 ∧ ∀ d ∈ ds, SD n d
  | _, _ => False
theorem sd_int {n : Nat} {i : Int} : SD n (.int i) := by cases n <;> trivial
theorem sd_non {n : Nat} : SD n .non := by cases n <;> trivial
theorem sd_str {n : Nat} {w : Str} (h : PyData.strOk w = true) : SD n (.str w) := by cases n <;> exact h
theorem sd_tup {n : Nat} {ds : List D} (h : ∀ d ∈ ds, SD n d) (hl : ds.length ≤ 1000000000 := by simp) : SD (n + 1) (.tup ds) := ⟨hl, h⟩
theorem SD.up : ∀ {n : Nat} {d : D}, SD n d → SD (n + 1) d
  | _, .str w, h => by cases ‹Nat› <;> exact h
  | _, .int _, _ => sd_int
  | _, .non, _ => sd_non
  | n + 1, .tup ds, h => ⟨h.1, fun d hd => SD.up (h.2 d hd)⟩
  | n + 1, .frl ds, h => ⟨h.1, fun d hd => SD.up (h.2 d hd)⟩
  | 0, .tup _, h => h.elim
  | 0, .frl _, h => h.elim
  | 0, .bl _, h => h.elim
  | 0, .ref _, h => h.elim
  | 0, .exn _ _ _ _, h => h.elim
  | _ + 1, .bl _, h => h.elim
  | _ + 1, .ref _, h => h.elim
  | _ + 1, .exn _ _ _ _, h => h.elim
theorem rng_ok {n : Nat} (h : n ≤ 1000000000) : bnd 62 ((n : Nat) : Int) = true := bnd_of ⟨by omega, by omega⟩
theorem rng_okI {n : Int} (h0 : -1000000000 ≤ n) (h : n ≤ 1000000000) : bnd 62 n = true := bnd_of ⟨by omega, by omega⟩
theorem mul_okI {n : Int} (h0 : -1000000000 ≤ n) (h : n ≤ 1000000000) : bnd 63 n = true := bnd_of ⟨by omega, by omega⟩
theorem mul_r {a b : Int} (h : bnd 63 b = true) : (bnd 63 a || bnd 63 b) = true := by rw [h, Bool.or_true]
theorem mul_l {a b : Int} (h : bnd 63 a = true) : (bnd 63 a || bnd 63 b) = true := by rw [h, Bool.true_or]
theorem fd_ok {b : Int} (h0 : 0 < b) (h : b < 10 ^ 40) : fdOk b = true := by
  refine fdOk_of ⟨h0, ?_⟩
  have h1 : b.natAbs < 2 ^ 200 := by
    have : (10 : Int) ^ 40 < 2 ^ 200 := by decide +kernel
    omega
  have := (Nat.log2_lt (show b.natAbs ≠ 0 by omega)).mpr h1
  omega
theorem rng_map {n : Nat} : rangeL 0 ((n : Nat) : Int).toNat = (List.range n).map fun i => D.int (0 + (i : Nat)) := by simp [rangeL]
end DL

namespace DL
open PySem PySem.Spec PyProof.Rows L2
section
variable {α : Type} {fk fv fo fe ff : Sl → Sto → Res D} {g fp : Sl → Sto → Res (List (D × D))} {kvs : List (Str × D)} {sd : Sl} {S : Sto} {X : Exc → Sto → Prop}
theorem w_pNil {Q : List (D × D) → Sto → Prop} : Wp (pNil sd S) Q X = Q [] S := rfl
theorem w_pCons {Q : List (D × D) → Sto → Prop} : Wp (pCons fk fv g sd S) Q X = Wp ((fk sd S).bind fun k S1 => (fv sd S1).bind fun v S2 => (g sd S2).bind fun ds S3 => .ok ((k, v) :: ds) S3) Q X := rfl
variable {Q : D → Sto → Prop}
theorem w_dDispGet : Wp (dDispGet fp fe ff sd S) Q X = Wp ((fp sd S).bind fun ps S1 => match keysOk ps with
  | false => .stuck
  | true => (fe sd S1).bind fun y S2 => match (key0 y).isSome with
    | false => .stuck
    | true => (ff sd S2).bind fun z S3 => .ok ((dgl y ps none).getD z) S3) Q X := rfl
theorem w_dDisp : Wp (dDisp fp sd S) Q X = Wp ((fp sd S).bind fun ps S1 => match keysOk ps && decide (ps.length ≤ 15) with
  | false => .stuck
  | true => .ok (.ref S1.length) (S1 ++ [.dic 0 (mergeD [] ps)])) Q X := rfl
theorem w_dDisp0 : Wp (dDisp0 sd S) Q X = Q (.ref S.length) (S ++ [.dic 0 []]) := rfl
theorem w_dKget : Wp (dKget kvs fe ff sd S) Q X = Wp ((fe sd S).bind fun y S1 => match kdGet kvs y with
  | some r => (ff sd S1).bind fun x S2 => .ok (r.getD x) S2
  | none => .stuck) Q X := rfl
theorem w_dDget : Wp (dDget fo fe ff sd S) Q X = Wp ((fo sd S).bind fun x S1 => match dicD x (.int 0) S1 with
  | none => .stuck
  | some _ => (fe sd S1).bind fun y S2 => (ff sd S2).bind fun z S3 => match dicD x y S3 with
    | some r => .ok (r.getD z) S3
    | none => .stuck) Q X := rfl
theorem keysOk_nil : keysOk [] = true := rfl
theorem keysOk_s {x : Str} {d : D} {ps : List (D × D)} : keysOk ((.str x, d) :: ps) = keysOk ps := by simp [keysOk, key0]
theorem keysOk_i {x : Int} {d : D} {ps : List (D × D)} : keysOk ((.int x, d) :: ps) = keysOk ps := by simp [keysOk, key0]
theorem key0_s {x : Str} : (key0 (.str x)).isSome = true := rfl
theorem key0_i {x : Int} : (key0 (.int x)).isSome = true := rfl
theorem kdGet_s {x : Str} : kdGet kvs (.str x) = some (kvs.lookup x) := rfl
theorem kdGet_i {x : Int} : kdGet kvs (.int x) = some none := rfl
theorem dgl_nil {y : D} {o : Option D} : dgl y [] o = o := rfl
theorem dgl_cons {y k v : D} {r : List (D × D)} {o : Option D} : dgl y ((k, v) :: r) o = dgl y r (if k = y then some v else o) := rfl
end
theorem cut_take {ds : List D} {k : Nat} : cutL ds none (some ((k : Nat) : Int)) = ds.take k := by
  unfold cutL
  have e : HT.sIx ds.length 0 none = 0 := rfl
  have e2 : HT.sIx ds.length ds.length (some ((k : Nat) : Int)) = min k ds.length := by
    show (if ((k : Nat) : Int) < 0 then (((k : Nat) : Int) + (ds.length : Int)).toNat else min ((k : Nat) : Int).toNat ds.length) = _
    rw [if_neg (by omega)]
    simp
  rw [e, e2, List.drop_zero, Nat.sub_zero]
  by_cases h : k ≤ ds.length
  · rw [Nat.min_eq_left h]
  · rw [Nat.min_eq_right (by omega), List.take_of_length_le (by omega), List.take_of_length_le (by omega)]
theorem cut_drop {ds : List D} {k : Nat} : cutL ds (some ((k : Nat) : Int)) none = ds.drop k := by
  unfold cutL
  have e : HT.sIx ds.length ds.length none = ds.length := rfl
  have e2 : HT.sIx ds.length 0 (some ((k : Nat) : Int)) = min k ds.length := by
    show (if ((k : Nat) : Int) < 0 then (((k : Nat) : Int) + (ds.length : Int)).toNat else min ((k : Nat) : Int).toNat ds.length) = _
    rw [if_neg (by omega)]
    simp
  rw [e, e2]
  by_cases h : k ≤ ds.length
  · rw [Nat.min_eq_left h, List.take_of_length_le (by simp)]
  · rw [Nat.min_eq_right (by omega), List.drop_eq_nil_of_le (by omega), List.drop_eq_nil_of_le (by omega)]; simp
theorem cut_init {ds : List D} : cutL ds none (some (-1)) = ds.dropLast := by
  unfold cutL
  have e : HT.sIx ds.length 0 none = 0 := rfl
  have e2 : HT.sIx ds.length ds.length (some (-1)) = ds.length - 1 := by
    show (if (-1 : Int) < 0 then ((-1 : Int) + (ds.length : Int)).toNat else min (-1 : Int).toNat ds.length) = _
    rw [if_pos (by decide)]
    omega
  rw [e, e2, List.drop_zero, Nat.sub_zero, List.dropLast_eq_take]
theorem cut_last {ds : List D} : cutL ds (some (-1)) none = ds.drop (ds.length - 1) := by
  unfold cutL
  have e : HT.sIx ds.length ds.length none = ds.length := rfl
  have e2 : HT.sIx ds.length 0 (some (-1)) = ds.length - 1 := by
    show (if (-1 : Int) < 0 then ((-1 : Int) + (ds.length : Int)).toNat else min (-1 : Int).toNat ds.length) = _
    rw [if_pos (by decide)]
    omega
  rw [e, e2, List.take_of_length_le (by simp)]
theorem w_sliceT {ds : List D} {lo hi : Option Int} {S : Sto} {Q : D → Sto → Prop} {X : Exc → Sto → Prop} : Wp (sliceD (.tup ds) lo hi S) Q X = Q (.tup (cutL ds lo hi)) S := rfl
theorem w_addT2 {a b : List D} {S : Sto} {Q : D → Sto → Prop} {X : Exc → Sto → Prop} : Wp (addD (.tup a) (.tup b) S) Q X = Wp (if a.length + b.length ≤ sizeLine then .ok (.tup (a ++ b)) S else .stuck) Q X := rfl
theorem cut_drop1 {ds : List D} : cutL ds (some 1) none = ds.drop 1 := cut_drop (k := 1)
theorem w_appL {l : Nat} {xs : List D} {y : D} {S : Sto} {Q : D → Sto → Prop} {X : Exc → Sto → Prop} (hl : S[l]? = some (.lst xs)) (hz : xs.length < sizeLine) : Wp (appendD (.ref l) [y] S) Q X = Q .non (S.set l (.lst (xs ++ [y]))) := by
  simp only [appendD, hl]
  rw [if_pos hz]; rfl
end DL

namespace DL
open PySem PySem.Spec PyProof.Rows L2
theorem fn_new {n : Nat} {b : Sl → Sto → Res Fl} {ds : List D} {S : Sto} {xs : List D} (hb : D.blws S.length xs = true) (h : Wp (b (startD n ds) S) (kFn fun d S' => ∃ l T, d = .ref l ∧ S' = S ++ T ∧ S'[l]? = some (.lst xs) ∧ S.length ≤ l) NX) : cutF (dFn n b) ds S = .ok (.ref S.length) (S ++ [.lst xs]) := by
  have h' : Wp (dFn n b ds S) (fun d S' => ∃ l T, d = .ref l ∧ S' = S ++ T ∧ S'[l]? = some (.lst xs) ∧ S.length ≤ l) NX := by rw [w_dFn]; exact h
  obtain ⟨d, S', e, l, T, rfl, rfl, hl, hle⟩ := Wp.ok h'
  unfold cutF
  rw [e]
  simp only [cutR]
  rw [if_pos (cutOk_app S _), if_neg (by show ¬ decide (l < S.length) = true; simp; omega), hl]
  simp only
  rw [if_pos ⟨hb, hle⟩, List.take_left]
theorem w_sliceFT {ds : List D} {lo hi : Option Int} {S : Sto} {Q : D → Sto → Prop} {X : Exc → Sto → Prop} : Wp (sliceF (.tup ds) lo hi S) Q X = Q (.tup (cutL ds lo hi)) S := rfl
end DL

namespace DL
open PySem PySem.Spec PyProof.Rows L2
section
variable {α : Type} [DecidableEq α]
end
section
variable {α : Type} [DecidableEq α] {f : α → D}
end
end DL

namespace DL
open PySem PySem.Spec PyProof.Rows L2
section
variable {S : Sto} {sd : Sl} {Q : D → Sto → Prop} {X : Exc → Sto → Prop}
end
end DL

namespace DL
open PySem PySem.Spec PyProof.Rows L2
def wq_a := And.intro @w_dVar (And.intro @w_dC (And.intro @w_dNil (And.intro @w_dCons (And.intro @w_dTup (And.intro @w_dLst (And.intro @w_d2 (And.intro @w_d2T (And.intro @w_d3 (And.intro @w_d3T (And.intro @w_tstB (And.intro @w_tAndD (And.intro @w_tOrD (And.intro @w_tNotD (And.intro @w_dAnd (And.intro @w_dOr (And.intro @w_dNot (And.intro @w_dIf (And.intro @w_dNeg (And.intro @w_sNext (And.intro @w_sSeq (And.intro @w_sIf (And.intro @w_sRet (And.intro @w_sExpr (And.intro @w_sAsg (And.intro @w_gVar (And.intro @w_sBrk (And.intro @w_gsNil (And.intro @w_gsCons (@w_gTupD)))))))))))))))))))))))))))))
def wq_b := And.intro @w_sPar (And.intro @w_iVal (And.intro @w_iEnumD (And.intro @w_iZipD (And.intro @w_iRngD1 (And.intro @w_iRngD2 (And.intro @w_tYesD (And.intro @w_gSubD (And.intro @w_oNone (And.intro @w_oSome (And.intro @w_dSlice (And.intro @w_dCall (And.intro @w_dFld (And.intro @w_sFldD (And.intro @w_gFldD (And.intro @w_dCallF (And.intro @w_dMeth (And.intro @w_dMake (And.intro @w_sRaise (And.intro @w_sRaiseT (And.intro @w_dExFc (And.intro @w_dBm (And.intro @w_dIsi (And.intro @w_dLstF (And.intro @w_dSliceF (And.intro @w_dKind (And.intro @kB_ap (And.intro @w_bind (And.intro @w_ok (@w_exc)))))))))))))))))))))))))))))
def wq_c := And.intro @w_stuck (And.intro @w_dFn (And.intro @kFn_nx (And.intro @kFn_ret (And.intro @w_sTry (And.intro @w_sFor (And.intro @w_addI (And.intro @w_addFI (And.intro @w_addFL2 (And.intro @w_addFT2 (And.intro @w_frzI (And.intro @w_frzS (And.intro @w_frzT (And.intro @w_frzF (And.intro @w_frzN (And.intro @w_frzB (And.intro @w_subI (And.intro @w_ltI (And.intro @w_leI (And.intro @w_gtI (And.intro @w_geI (And.intro @w_eqI (And.intro @w_neI (And.intro @w_eqS (And.intro @w_neS (And.intro @w_lenT (And.intro @w_lenF (And.intro @w_ixT2 (And.intro @w_ixF2 (@atI_pos)))))))))))))))))))))))))))))
def wq_d := And.intro @ixN_nat (And.intro @List.map_cons.{0,0} (And.intro @List.map_nil.{0,0} (And.intro @List.length_cons.{0} (And.intro @List.length_nil.{0} (And.intro @List.cons_append.{0} (And.intro @List.nil_append.{0} (And.intro @List.getElem?_cons_zero.{0} (And.intro @List.getElem?_cons_succ.{0} (And.intro @List.set_cons_zero.{0} (And.intro @List.set_cons_succ.{0} (And.intro @Bool.false_eq_true (And.intro @decide_true (And.intro @decide_false (And.intro @Bool.not_true (And.intro @Bool.not_false (And.intro @c_0 (And.intro @c_1 (And.intro @c_2 (And.intro @c_3 (And.intro @c_4 (And.intro @c_5 (And.intro @c_6 (And.intro @c_7 (And.intro @c_8 (And.intro @c_9 (And.intro @c_10 (And.intro @c_11 (And.intro @c_12 (@sz_0)))))))))))))))))))))))))))))
def wq_e := And.intro @sz_1 (And.intro @sz_2 (And.intro @sz_3 (And.intro @sz_4 (And.intro @sz_5 (And.intro @sz_6 (And.intro @sz_7 (And.intro @sz_8 (And.intro @sz_9 (And.intro @sz_10 (And.intro @sz_11 (And.intro @sz_12 (And.intro @sz_13 (And.intro @sz_14 (And.intro @sz_15 (And.intro @sz_16 (And.intro @Bool.true_eq_false (And.intro @it_tuplelist_int (And.intro @it_tuplelist_str (And.intro @it_tuplelist_tuple (And.intro @it_tuplelist_list (And.intro @it_tuplelist_bool (And.intro @it_tuplelist_NoneType (And.intro @it_list_int (And.intro @it_list_str (And.intro @it_list_tuple (And.intro @it_list_list (And.intro @it_list_bool (And.intro @it_list_NoneType (@it_tuple_int)))))))))))))))))))))))))))))
def wq_f := And.intro @it_tuple_str (And.intro @it_tuple_tuple (And.intro @it_tuple_list (And.intro @it_tuple_bool (And.intro @it_tuple_NoneType (And.intro @it_bool_int (And.intro @it_bool_str (And.intro @it_bool_tuple (And.intro @it_bool_list (And.intro @it_bool_bool (And.intro @it_bool_NoneType (And.intro @it_int_int (And.intro @it_int_str (And.intro @it_int_tuple (And.intro @it_int_list (And.intro @it_int_bool (And.intro @it_int_NoneType (And.intro @it_str_int (And.intro @it_str_str (And.intro @it_str_tuple (And.intro @it_str_list (And.intro @it_str_bool (And.intro @it_str_NoneType (And.intro @ty_int (And.intro @ty_str (And.intro @ty_tuple (And.intro @ty_list (And.intro @ty_bool (And.intro @ty_non (@w_eqB)))))))))))))))))))))))))))))
def wq_g := And.intro @w_neB (And.intro @w_isN (And.intro @w_isNotN (And.intro @nn_int (And.intro @nn_str (And.intro @nn_tuple (And.intro @nn_list (And.intro @nn_bool (And.intro @w_pNil (And.intro @w_pCons (And.intro @w_dDispGet (And.intro @w_dDisp (And.intro @w_dDisp0 (And.intro @w_dKget (And.intro @w_dDget (And.intro @keysOk_nil (And.intro @keysOk_s (And.intro @keysOk_i (And.intro @key0_s (And.intro @key0_i (And.intro @kdGet_s (And.intro @kdGet_i (And.intro @dgl_nil (And.intro @dgl_cons (And.intro @w_sliceT (And.intro @w_addT2 (And.intro @cut_drop1 (And.intro @cut_init (@cut_last))))))))))))))))))))))))))))
end DL

namespace DL
open PySem PySem.Spec PyProof.Rows L2 PySem.W
section
variable {cl : Cl} {X : Cx} {E : XK}
open Classical in
open Classical in
open Classical in
end
end DL

namespace DL
open PySem PySem.Spec PyProof.Rows L2
section
variable {cl : Cl} {X : Cx} {E : XK}
end
end DL

namespace DL
open PySem PySem.Spec PyProof.Rows L2
section
variable {cl : Cl} {X : Cx} {E : XK}
end
end DL

namespace DL
open PySem PySem.Spec PyProof.Rows L2
structure LamD (N : List Str) (sc scope : Scope) : Prop where
  kd : scope.kind = .function
  nco : scope.isCoroutine = false
  nge : scope.isGenerator = false
  nc : ∀ y ∈ scope.names, y.2 ≠ .cell
  nl : ∀ y ∈ scope.names, y.2 = .local → y.1 ∉ N
  tk : ∀ y ∈ scope.names, y.2 = .free → sc.names.lookup y.1 = some .cell ∨ sc.names.lookup y.1 = some .free
def lamDB (N : List Str) (sc scope : Scope) : Bool :=
  (decide (scope.kind = .function) && (!scope.isCoroutine && !scope.isGenerator)) && scope.names.all fun y => (!decide (y.2 = .cell) && (!decide (y.2 = .local) || !decide (y.1 ∈ N))) && (!decide (y.2 = .free) || (decide (sc.names.lookup y.1 = some .cell) || decide (sc.names.lookup y.1 = some .free)))
theorem zc {N : List Str} {sc scope : Scope} (e : lamDB N sc scope = true) : LamD N sc scope := by
  unfold lamDB at e
  simp only [Bool.and_eq_true, Bool.or_eq_true, Bool.not_eq_true', decide_eq_true_eq, List.all_eq_true, decide_eq_false_iff_not] at e
  obtain ⟨⟨e1, e2, e3⟩, e4⟩ := e
  refine ⟨e1, e2, e3, fun y hy => (e4 y hy).1.1, fun y hy hl => ((e4 y hy).1.2).resolve_left fun z => z hl, fun y hy hf => ((e4 y hy).2).resolve_left fun z => z hf⟩
section
variable {X : Cx} {pins : List (Addr × Obj)} {σ : L2.St} {H : Hp} {s : Shared}
theorem LamD.has {scope : Scope} (D : LamD X.N X.env.scope scope) (ok : X.Ok) : ∀ y ∈ scope.names, y.2 = .free → ∃ b, X.env.cells.lookup y.1 = some b :=
  fun y hy hf => (D.tk y hy hf).elim (fun z => ok.has _ (.inl z)) fun z => ok.has _ (.inr z)
structure LamO (X : Cx) (H1 : Hp) (s1 : Shared) (params : Arguments) (body : Expr) (scope : Scope) (f t b : Addr) (u doc pm ctv : Value) : Prop where
  fo : s1.heap.get? f = some (PySem.W.kdv_obj "<lambda>" (X.env.qual ++ "<lambda>") params (.expr body) scope (cloFrom X.env.cells scope.names []) (.ref t) doc pm b ctv)
  fn : H1 f = none
  ff : f ∉ frs X.stack
  to : s1.heap.get? t = some (PySem.W.kdv_tup [u])
  tn : H1 t = none
  tf : t ∉ frs X.stack
  co : H1 b = some (LamX.CodeO b (X.env.qual ++ "<lambda>"))
variable {HZ : Hp} {sE : Shared}
end
section
variable {cl : Cl} {X : Cx}
open Classical in
end
end DL

namespace DL
open PySem PySem.Spec PyProof.Rows L2
section
variable {cl : Cl} {X : Cx} {E : XK}
variable {o e : Expr} {es : List Expr} {to : TE} {t : TA} {name : Str} {apos cpos : Pos} {id : String} {r : V → List V → Hp → VK → Prop}
end
end DL

namespace DL
open PySem PySem.Spec PyProof.Rows L2
structure LamI where
  params : Arguments
  body : Expr
  scope : Scope
  qual : Str
  own : Option Str
def PinO (a : Addr) (o : Obj) : HO := .frz o (.ext fun h => h.get? a = some o)
theorem pin_ok {P : Program} {w : World} {H : Hp} {h : Heap} {a : Addr} {o : Obj} (e : h.get? a = some o) : ObjOk P w H h a (PinO a o) :=
  ⟨e, e, ⟨o, e⟩, fun _ _ g k => k _ g⟩
def LamIs (I : LamI) (clo : List (Str × Addr)) (H : Hp) (o : Obj) : Prop :=
  ∃ (dV doc pm ctv : Value) (b : Addr), o = PySem.W.kdv_obj "<lambda>" I.qual I.params (.expr I.body) I.scope clo dV doc pm b ctv ∧ H b = some (LamX.CodeO b I.qual) ∧
    match I.own with
    | none => dV = .none
    | some _ => ∃ t u g, dV = .ref t ∧ H t = some (.frz (PySem.W.kdv_tup [u]) g)
theorem LamIs.keep {I : LamI} {clo : List (Str × Addr)} {H H' : Hp} {o : Obj} (k : Keep H H') (h : LamIs I clo H o) : LamIs I clo H' o := by
  obtain ⟨dV, doc, pm, ctv, b, e, hb, hd⟩ := h
  refine ⟨dV, doc, pm, ctv, b, e, k _ _ hb imm_code, ?_⟩
  split at hd
  · exact hd
  · obtain ⟨t, u, g, e1, e2⟩ := hd
    exact ⟨t, u, g, e1, k _ _ e2 trivial⟩
section
variable {X : Cx} {pins : List (Addr × Obj)} {σ : L2.St} {H : Hp} {s : Shared}
theorem lamv_fn {T : List (Addr × Str)} {c P : Addr} {dV : Value} {own : Option Str} {params : Arguments} {body : Expr} {scope : Scope} {pos : Pos} {E : Value → Shared → Prop} {R : Value → Shared → Prop} (J : Inv X pins σ H s) (B : LamX.TabB X.base X.mg c P) (hcd : X.env.code = .ref c)
    (mT : (P, X.env.qual ++ "<lambda>") ∈ T) (uT : ∀ p ∈ T, p.1 = P → p.2 = X.env.qual ++ "<lambda>") (tT : LamX.Tabs T H) (cells : ∀ y ∈ scope.names, y.2 = .free → ∃ b, X.env.cells.lookup y.1 = some b)
    (dv : match own with | none => dV = .none | some _ => ∃ t u g, dV = .ref t ∧ H t = some (.frz (PySem.W.kdv_tup [u]) g))
    (h : ∀ (f : Addr) (o : Obj) (H1 : Hp) (s1 : Shared), Inv X pins σ (upd H1 f (PinO f o)) s1 → LamX.ExtN H H1 → LamX.Tabs T H1 → H1 f = none → LamIs ⟨params, body, scope, X.env.qual ++ "<lambda>", own⟩ (cloFrom X.env.cells scope.names []) H1 o → R (.ref f) s1) :
    wpAny (model X.prog X.w) X.A (makeTail "<lambda>" (X.env.qual ++ "<lambda>") params (.expr body) scope X.env dV .none none pos pos.line) R E s := by
  obtain ⟨ps, tb, tr, tc⟩ := tT _ mT
  have tb : H P = some (.tbl ps) := tb
  have tP : s.heap.get? P = some { cls := .none, data := .fields ps } := J.hok P _ tb
  have bP := B.bm.keeps J.bk
  have gl : s.heap.Ns mainGlobals X.mg := J.mod.glob.keeps J.bk
  cases hc : codeAmong pos ps.toList with
  | none =>
    refine PySem.W.kdv_makeTail (c := c) (P := P) (ps := ps) (mg := X.mg) (closure_ok cells) J.ok.glob gl hcd (B.code.keeps J.bk) tP tr hc B.gP bP fun b ctv doc h' tk hx hge hlt hrec htb => ?_
    obtain ⟨b2, oc, vs, tt, eb, hoc, hd, hv⟩ := hrec
    cases eb
    have nb : H b = none := J.hok.fresh hge
    have nPb : P ≠ b := ne_of_none tb nb
    have K1 := LamX.inv_table (t' := tk) (more := #[rawInt pos.line, rawInt pos.col, .ref b]) (h' := h') (c := b) (q := X.env.qual ++ "<lambda>") J tb (fun a o ha e => hx a o ha e) htb hge ⟨oc, vs, tt, hoc, hd, hv⟩
    have eN : LamX.ExtN H (upd (upd H P (.tbl (ps ++ #[rawInt pos.line, rawInt pos.col, .ref b]))) b (LamX.CodeO b (X.env.qual ++ "<lambda>"))) := fun a o e n => by
      rw [upd_ne (ne_of_none e nb), upd_ne (fun z => n ps (Option.some.inj (e.symm.trans (by rw [z]; exact tb))))]
      exact e
    have ap : (ps ++ #[rawInt pos.line, rawInt pos.col, .ref b]).toList = ps.toList ++ [rawInt pos.line, rawInt pos.col, .ref b] := by simp
    have T1 : LamX.Tabs T (upd (upd H P (.tbl (ps ++ #[rawInt pos.line, rawInt pos.col, .ref b]))) b (LamX.CodeO b (X.env.qual ++ "<lambda>"))) := fun p hp => by
      by_cases hq : p.1 = P
      · rw [uT p hp hq, hq]
        refine ⟨_, by rw [upd_ne nPb, upd_same], by rw [ap]; exact PySem.TriplesOk_snoc _ _ _ _ tr, fun p' cv hcv => ?_⟩
        rw [ap] at hcv
        rcases LamX.among_app _ tr hcv with z | z
        · obtain ⟨c0, e1, e2⟩ := tc p' cv z
          exact ⟨c0, e1, eN _ _ e2 LamX.codeO_ne⟩
        · exact ⟨b, z, upd_same⟩
      · obtain ⟨ps', a1, a2, a3⟩ := tT p hp
        refine ⟨ps', by rw [upd_ne (ne_of_none a1 nb), upd_ne hq]; exact a1, a2, fun p' cv hcv => ?_⟩
        obtain ⟨c0, e1, e2⟩ := a3 p' cv hcv
        exact ⟨c0, e1, eN _ _ e2 LamX.codeO_ne⟩
    have hg : ({ s with heap := h', toks := tk } : Shared).heap.objs.size ≤ h'.objs.size := Nat.le_refl _
    have K2 := K1.laid (t' := tk) (a := h'.objs.size) (h' := h'.push (PySem.W.kdv_obj "<lambda>" (X.env.qual ++ "<lambda>") params (.expr body) scope (cloFrom X.env.cells scope.names []) dV doc ((X.mg "__name__").getD .none) b ctv))
      (o := PinO h'.objs.size (PySem.W.kdv_obj "<lambda>" (X.env.qual ++ "<lambda>") params (.expr body) scope (cloFrom X.env.cells scope.names []) dV doc ((X.mg "__name__").getD .none) b ctv)) (fun a o e => Heap.get?_push_of_some _ e) hg (pin_ok (Heap.get?_push_size _ rfl))
    refine h h'.objs.size _ _ _ K2 eN T1 (K1.hok.fresh hg) ⟨dV, doc, _, ctv, b, rfl, upd_same, ?_⟩
    split at dv
    · exact dv
    · obtain ⟨t, u, g, e1, e2⟩ := dv
      exact ⟨t, u, g, e1, eN _ _ e2 fun _ z => by cases z⟩
  | some cv =>
    obtain ⟨b, rfl, hb⟩ := tc pos cv hc
    refine PySem.W.kdv_makeTailHit (c := c) (P := P) (ps := ps) (mg := X.mg) (closure_ok cells) J.ok.glob gl hcd (B.code.keeps J.bk) tP tr hc bP fun ctv doc h' tk hx hsz => ?_
    have K1 : Inv X pins σ H { s with heap := h', toks := tk } := J.kept fun a o e => hx a o e
    have K2 := K1.laid (t' := tk) (a := h'.objs.size) (h' := h'.push (PySem.W.kdv_obj "<lambda>" (X.env.qual ++ "<lambda>") params (.expr body) scope (cloFrom X.env.cells scope.names []) dV doc ((X.mg "__name__").getD .none) b ctv))
      (o := PinO h'.objs.size (PySem.W.kdv_obj "<lambda>" (X.env.qual ++ "<lambda>") params (.expr body) scope (cloFrom X.env.cells scope.names []) dV doc ((X.mg "__name__").getD .none) b ctv)) (fun a o e => Heap.get?_push_of_some _ e) (Nat.le_refl _) (pin_ok (Heap.get?_push_size _ rfl))
    exact h h'.objs.size _ _ _ K2 (LamX.ExtN.refl H) tT (K1.hok.fresh (Nat.le_refl _)) ⟨dV, doc, _, ctv, b, rfl, hb, dv⟩
theorem lamv_make0 {T : List (Addr × Str)} {c P : Addr} {params : Arguments} {body : Expr} {scope : Scope} {pos : Pos} {E : Value → Shared → Prop} {R : Value → Shared → Prop} (J : Inv X pins σ H s) (B : LamX.TabB X.base X.mg c P) (hcd : X.env.code = .ref c)
    (mT : (P, X.env.qual ++ "<lambda>") ∈ T) (uT : ∀ p ∈ T, p.1 = P → p.2 = X.env.qual ++ "<lambda>") (tT : LamX.Tabs T H) (none0 : defaultsOf params X.env = ([], [])) (cells : ∀ y ∈ scope.names, y.2 = .free → ∃ b, X.env.cells.lookup y.1 = some b)
    (h : ∀ (f : Addr) (o : Obj) (H1 : Hp) (s1 : Shared), Inv X pins σ (upd H1 f (PinO f o)) s1 → LamX.ExtN H H1 → LamX.Tabs T H1 → H1 f = none → LamIs ⟨params, body, scope, X.env.qual ++ "<lambda>", none⟩ (cloFrom X.env.cells scope.names []) H1 o → R (.ref f) s1) :
    wpAny (model X.prog X.w) X.A (eval (.Lambda params body scope pos) X.env) R E s := by
  refine PySem.W.kla_eval none0 ?_
  rw [makeFunction_eq]
  simp only [List.zip_nil_right, List.filterMap_nil, List.isEmpty_nil, if_true, pure_bind]
  exact lamv_fn J B hcd mT uT tT cells rfl h
theorem lamv_make1 {T : List (Addr × Str)} {c P : Addr} {params : Arguments} {body : Expr} {scope : Scope} {pos dp : Pos} {n : Int} {j : Nat} {z : Str} {E : Value → Shared → Prop} {R : Value → Shared → Prop} (J : Inv X pins σ H s) (B : LamX.TabB X.base X.mg c P) (hcd : X.env.code = .ref c)
    (mT : (P, X.env.qual ++ "<lambda>") ∈ T) (uT : ∀ p ∈ T, p.1 = P → p.2 = X.env.qual ++ "<lambda>") (tT : LamX.Tabs T H) (one : params.defaults = [.Constant (.int n) j dp]) (kw : params.kw_defaults = []) (cells : ∀ y ∈ scope.names, y.2 = .free → ∃ b, X.env.cells.lookup y.1 = some b)
    (h : ∀ (f : Addr) (o : Obj) (H1 : Hp) (s1 : Shared), Inv X pins σ (upd H1 f (PinO f o)) s1 → LamX.ExtN H H1 → LamX.Tabs T H1 → H1 f = none → LamIs ⟨params, body, scope, X.env.qual ++ "<lambda>", some z⟩ (cloFrom X.env.cells scope.names []) H1 o → R (.ref f) s1) :
    wpAny (model X.prog X.w) X.A (eval (.Lambda params body scope pos) X.env) R E s := by
  refine PySem.W.kdv_lam (by rw [one]; rfl) kw ?_
  rw [one]
  refine PySem.W.kdv_all1 (wpAny_Constant_int (PySem.W.kdv_all0 ?_))
  rw [makeFunction_eq]
  simp only [List.zip_nil_right, List.filterMap_nil, List.isEmpty_nil, if_true, pure_bind, List.isEmpty_cons, Bool.false_eq_true, if_false]
  refine wpAny_bind (wpAny_newTextTuple ?_)
  generalize hu : Value.int n s.toks = u
  have J2 : Inv X pins σ (upd H s.heap.objs.size (PinO s.heap.objs.size (PySem.W.kdv_tup [u]))) { s with heap := s.heap.push (PySem.W.kdv_tup [u]), toks := s.toks + 1 } :=
    J.laid (t' := s.toks + 1) (fun b o e => Heap.get?_push_of_some _ e) (Nat.le_refl _) (pin_ok (Heap.get?_push_size _ rfl))
  have ht : H s.heap.objs.size = none := J.hok.fresh (Nat.le_refl _)
  have e0 : ∀ b o, H b = some o → upd H s.heap.objs.size (PinO s.heap.objs.size (PySem.W.kdv_tup [u])) b = some o := fun b o e => by rw [upd_ne (ne_of_none e ht)]; exact e
  refine lamv_fn J2 B hcd mT uT (tT.ext e0) cells (own := some z) ⟨_, u, _, rfl, upd_same⟩ fun f o H1 s1 k1 k2 k3 k4 k5 => h f o H1 s1 k1 ((LamX.ExtN.of e0).trans k2) k3 k4 k5
end
def tLamV (T : List (Addr × Str)) (I : LamI) (clo : List (Str × Addr)) : TE := fun _ H Q => LamX.Tabs T H ∧ ∀ (f : Addr) (o : Obj) (H1 : Hp), LamX.ExtN H H1 → LamX.Tabs T H1 → H1 f = none → LamIs I clo H1 o → Q (.ref f) (upd H1 f (PinO f o))
section
variable {cl : Cl} {X : Cx} {E : XK}
def dLam (i : Nat) : Sl → Sto → Res D := fun _ S => .ok (.ref S.length) (S ++ [.dic 5 [(.int i, .non)]])
theorem lamv_de {e : Expr} {I : LamI} {i : Nat} {clo : List (Str × Addr)} (p : PE X e (tLamV cl.T I clo)) (hl : ∀ H o, LamIs I clo H o → cl.lam i H o) : DE cl X E e (dLam i) := by
  refine ⟨_, p, fun m S H sd σ Q rs rl h => ⟨rs.tb, fun f o H1 e1 t1 n1 li => ?_⟩⟩
  obtain ⟨rs1, kp⟩ := rs_extN rs e1 t1
  have k2 : Keep H1 (upd H1 f (PinO f o)) := Keep.new n1
  refine h (m ++ [f]) _ _ (Ext.snoc m f) (kp.trans k2) (rs1.new n1 ⟨(i : Int), o, _, rfl, upd_same, fun H' k3 => ?_⟩) ⟨f, by rw [← rs.len]; simp, rfl⟩
  exact hl _ _ (li.keep (k2.trans k3))
theorem de_lam0 {c P : Addr} {params : Arguments} {body : Expr} {scope : Scope} {pos : Pos} {i : Nat} (B : LamX.TabB X.base X.mg c P) (hcd : X.env.code = .ref c) (mT : (P, X.env.qual ++ "<lambda>") ∈ cl.T) (uT : ∀ p ∈ cl.T, p.1 = P → p.2 = X.env.qual ++ "<lambda>")
    (D : LamD X.N X.env.scope scope) (none0 : defaultsOf params X.env = ([], [])) (hl : ∀ H o, LamIs ⟨params, body, scope, X.env.qual ++ "<lambda>", none⟩ (cloFrom X.env.cells scope.names []) H o → cl.lam i H o) :
    DE cl X E (.Lambda params body scope pos) (dLam i) :=
  lamv_de ⟨fun pins s σ H Q J ⟨t0, h⟩ => lamv_make0 J B hcd mT uT t0 none0 (D.has J.ok) fun f o H1 s1 k1 k2 k3 k4 k5 => ⟨.ref f, _, k1, rfl, h f o H1 k2 k3 k4 k5⟩⟩ hl
theorem de_lam1 {c P : Addr} {params : Arguments} {body : Expr} {scope : Scope} {pos dp : Pos} {n : Int} {j : Nat} {z : Str} {i : Nat} (B : LamX.TabB X.base X.mg c P) (hcd : X.env.code = .ref c) (mT : (P, X.env.qual ++ "<lambda>") ∈ cl.T) (uT : ∀ p ∈ cl.T, p.1 = P → p.2 = X.env.qual ++ "<lambda>")
    (D : LamD X.N X.env.scope scope) (one : params.defaults = [.Constant (.int n) j dp]) (kw : params.kw_defaults = []) (hl : ∀ H o, LamIs ⟨params, body, scope, X.env.qual ++ "<lambda>", some z⟩ (cloFrom X.env.cells scope.names []) H o → cl.lam i H o) :
    DE cl X E (.Lambda params body scope pos) (dLam i) :=
  lamv_de ⟨fun pins s σ H Q J ⟨t0, h⟩ => lamv_make1 J B hcd mT uT t0 one kw (D.has J.ok) fun f o H1 s1 k1 k2 k3 k4 k5 => ⟨.ref f, _, k1, rfl, h f o H1 k2 k3 k4 k5⟩⟩ hl
end
structure LamOk (N : List Str) (sc : Scope) (I : LamI) : Prop where
  D : LamD N sc I.scope
  loc : ∀ z, I.own = some z → I.scope.names.lookup z = some .local
  bd0 : I.own = none → ∀ (sb : Shared) (cs : List (Str × Addr)) (doc pm cv ctv : Value), BindsTo sb (PySem.W.kdv_fn "<lambda>" I.qual I.params (.expr I.body) I.scope cs .none doc pm cv ctv) ⟨[], []⟩ []
  bd1 : ∀ z, I.own = some z → ∀ (sb : Shared) (cs : List (Str × Addr)) (t : Addr) (doc pm cv ctv u : Value), sb.heap.get? t = some (PySem.W.kdv_tup [u]) → BindsTo sb (PySem.W.kdv_fn "<lambda>" I.qual I.params (.expr I.body) I.scope cs (.ref t) doc pm cv ctv) ⟨[], []⟩ [(z, u)]
section
variable {X : Cx} {pins : List (Addr × Obj)} {σ : L2.St} {H : Hp} {s : Shared}
end
section
variable {cl : Cl} {X : Cx} {E : XK}
structure LamSet (cl : Cl) (X : Cx) (k : Nat) (fs : Nat → Option (Sl → Sto → Res D)) : Prop where
  all : ∀ (i : Nat) (fb : Sl → Sto → Res D), fs i = some fb → ∃ I : LamI, (∀ H o, cl.lam i H o → LamIs I (cloFrom X.env.cells I.scope.names []) H o) ∧ LamOk X.N X.env.scope I ∧ I.qual = X.env.qual ++ "<lambda>" ∧
    ∀ (A : Around) (outer : List Env) (s : Shared) (H : Hp) (E : XK) (f c' : Addr), Cok (LamX.lamCx X A outer s H E I.scope f c') E k → DE cl (LamX.lamCx X A outer s H E I.scope f c') E I.body fb
end
end DL

namespace DL
open PySem PySem.Spec PyProof.Rows L2
abbrev Cl.wl (cl : Cl) (lm : Nat → Hp → Obj → Prop) : Cl := ⟨cl.f, cl.T, cl.hh, lm, cl.lmb⟩
section
variable {cl : Cl} {K : PySem.W.Frag} {m : List Addr} {H : Hp} {S : Sto} {lm : Nat → Hp → Obj → Prop}
theorem RO.lam (h : ∀ i H o, cl.lam i H o → lm i H o) {a : Addr} : ∀ {o : DO}, RO cl K m H o a → RO (cl.wl lm) K m H o a
  | .lst _, r => r
  | .dic 0 _, r => r
  | .dic 1 _, r => r
  | .dic 2 _, r => r
  | .dic 3 _, r => r
  | .dic 4 _, r => r
  | .dic 5 _, ⟨i, o, u, e0, e, r⟩ => ⟨i, o, u, e0, e, fun H' k => h _ _ _ (r H' k)⟩
  | .dic 6 _, r => r
  | .dic 7 _, r => r
  | .dic (_ + 8) _, r => r.elim
  | .ins _ _, r => r
  | .dead, r => r
theorem RS.lam (rs : RS cl K m S H) (h : ∀ i H o, cl.lam i H o → lm i H o) : RS (cl.wl lm) K m S H := ⟨rs.len, rs.nd, fun l o a h1 h2 => (rs.obj l o a h1 h2).lam h, rs.tb⟩
end
def spL (cl : Cl) (K : PySem.W.Frag) (n : Nat) (F : List D → Sto → Res D) : Sp := fun vs H Q E => ∃ m S ds, ds.length = n ∧ RS cl K m S H ∧ RVs K m H ds vs ∧ ∃ b S', F ds S = .ok (.bl b) S' ∧ ∀ H', Q (.bl b) H'
def lamT (tab : List LamI) (names : List (Str × NameKind)) (L : Nat) : Nat → Hp → Obj → Prop := fun i H o => ∃ I, tab[i]? = some I ∧ LamIs I (cloFrom (cellsFrom (L + 1) names []) I.scope.names []) H o
theorem fnD_lawL {P : Program} {w : World} {cl : Cl} {K : PySem.W.Frag} {mg : Str → Option Value} {fd : FuncData} {k : Nat} {x qual p : Str} {params : Arguments} {body : List Stmt} {scope : Scope} {N : List Str} {Fb : Sl → Sto → Res Fl} {pd : He.Defn} {TB : Heap → Prop} {lm : Nat → Nat → Hp → Obj → Prop}
    (Fu : FunD K x qual params body scope [] [] (He.fAd K pd) fd) (S : FnScope N [p] scope)
    (hb : ∀ (kV doc pm : Value) (an : Option Addr) (cdv ct : Value) (us : List Value), us.length = [p].length → bindArgs (PySem.W.fnOf x qual params body scope .none kV doc pm an cdv ct) ⟨us, []⟩ = pure ([p].zip us)) (h0 : ∀ i H o, ¬ cl.lam i H o)
    (hbody : ∀ (base : Heap), TB base → ∀ (A : Around) (outer : List Env) (s : Shared) (H : Hp) (E : XK), Cok (cxOf (L2.CX P w) P w K mg base N qual scope (He.fAd K pd) (.ref (He.cT K pd).1) A outer s H E) E k →
      DSs (cl.wl (lm s.heap.objs.size)) (cxOf (L2.CX P w) P w K mg base N qual scope (He.fAd K pd) (.ref (He.cT K pd).1) A outer s H E) E body Fb) :
    (∀ (s : Shared) (u : Value), BindsTo s fd ⟨[u], []⟩ [(p, u)]) ∧ ∀ base : Heap, TB base → FnOk P w K mg base (L2.CX P w) (k + 1) (He.fAd K pd) fd [p] (spL cl K 1 (dFn N.length Fb)) := by
  refine ⟨fun s u => Fu.bindsA hb s [u] rfl, fun base tb => ?_⟩
  refine FunD.okC Fu S (fun vs H Q E h => ?_) (fun A outer s H vs Q E hr h => body_run (cl := cl.wl (lm s.heap.objs.size)) (n := 1) (hbody base tb A outer s H E (cok_of S hr)) ?_)
  · obtain ⟨m, St, ds, hl, rs, rv, _⟩ := h
    rw [← rv.length, hl]
    rfl
  · obtain ⟨m, St, ds, hl, rs, rv, b, S', e, hq⟩ := h
    refine ⟨m, St, ds, hl, rs.lam fun i H o z => absurd z (h0 i H o), rv, ?_⟩
    rw [e]
    intro m' v H' _ _ _ rv'
    obtain rfl : v = .bl b := rv'
    exact hq H'
theorem walk_DL {l : PySem.W.OpenLaw} {k : Nat} {q : Program} {loose : List Str} {XP : (Str → Option Value) → Heap → Prop} {YP : World → Heap → Prop} {d : DefRec} {x : Str} {Fl : List D → Sto → Res D}
    (hn : l.most = some 63) (hdf : d.params.defaults = []) (hr : Room k callerA) (plain : ∀ ns : List Int, ns.length ≤ 63 → ∃ S', Fl [.frl (ns.map .int)] [] = .ok (.bl true) S') (plain2 : ∀ ns : List Int, ns.length ≤ 63 → ∃ S', Fl [.ref 0] [.lst (ns.map .int)] = .ok (.bl true) S')
    (F : ∀ (w : World) (mg : Str → Option Value) (fa : Addr) (h : Heap), YP w h → h.Ns mainGlobals mg → mg d.name = some (.ref fa) →
      ∃ (K : PySem.W.Frag) (cl : Cl) (fd : FuncData) (tf : List He.Defn), (∀ p ∈ cl.T, ∃ t ∈ tf, p.1 = (He.cT K t).2) ∧ K.In h ∧ TabF K h tf ∧ (∀ (s : Shared) (u : Value), BindsTo s fd ⟨[u], []⟩ [(x, u)]) ∧
        ∀ base : Heap, K.In base → base.Ns mainGlobals mg → (∀ t ∈ tf, LamX.TabB base mg (He.cT K t).1 (He.cT K t).2) → FnOk l.prog w K mg base (L2.CX l.prog w) k fa fd [x] (spL cl K 1 Fl)) :
    PySem.W.WalkO q loose XP YP l.row.toRowW d [] (fun f vs => PySem.call f vs) := by
  refine Att.attach_call hn hdf fun w s₀ s₁ mg mb fa o pm cd doc a vs ns G Y ho hd hcd hmg hobj hints hlen hg => ?_
  obtain ⟨K, cl, fd, tf, hcT, KX, TF, hb, hF⟩ := F w mg fa _ Y G.T.g hmg
  have h63 : ns.length ≤ 63 := hlen
  have pm : ∀ {Pr : Addr × Addr → Prop}, (∀ t ∈ tf, Pr (He.cT K t)) → ∀ p ∈ tf.map (He.cT K), Pr p := fun {Pr} hh p hp => by
    obtain ⟨t, ht, rfl⟩ := List.mem_map.mp hp
    exact hh t ht
  refine LamX.law_callTs (cs := tf.map (He.cT K)) KX G.T.g G.T.b G.T.builtins G.T.nolimit hg (pm fun t ht => TF.empty t ht) (pm fun t ht => TF.out t ht) (pm fun t ht => PySem.W.codeHd_of_K KX (TF.hd t ht)) G.T.bmain hobj hints (Nat.le_trans hlen (by decide)) hr
    (fun base kb nb tb => hF base kb nb fun t ht => tb _ (List.mem_map.mpr ⟨t, ht, rfl⟩)) hb (fun H hH hS => ?_) fun H e s' z => ?_
  · have htb : LamX.Tabs cl.T H := fun p hp => by
      obtain ⟨t, ht, e⟩ := hcT p hp
      refine LamX.TabS.nil ?_
      rw [e]
      exact hH _ (List.mem_map.mpr ⟨t, ht, rfl⟩)
    have frz : Fz K H a (ns.map V.int) → spL cl K 1 Fl [.ref a] H (fun v _ => v = .bl true) fun _ _ _ => False := fun hf => by
      obtain ⟨S', e⟩ := plain ns h63
      exact ⟨[], [], [.frl (ns.map .int)], rfl, ⟨rfl, fun i j b hi => by simp at hi, fun l o b hl => by simp at hl, htb⟩, ⟨_, _, rfl, ⟨a, _, rfl, hf, ints_rv ns⟩, rfl⟩, true, S', e, fun _ => rfl⟩
    rcases hS with (hS | hS) | hS
    · obtain ⟨S', e⟩ := plain2 ns h63
      refine ⟨[a], [.lst (ns.map .int)], [.ref 0], rfl, ⟨rfl, fun i j b hi hj => ?_, fun l o b hl hm => ?_, htb⟩, ⟨_, _, rfl, ⟨a, rfl, rfl⟩, rfl⟩, true, S', e, fun _ => rfl⟩
      · cases i <;> cases j <;> simp at hi hj <;> rfl
      · cases l with
        | zero => simp at hl hm; subst hl hm; exact ⟨_, hS, ints_rv ns⟩
        | succ l => simp at hl
    · exact frz (.inl hS)
    · exact frz (.inr hS)
  · obtain ⟨_, _, _, _, _, _, _, _, _, _, _, _, z⟩ := z
    exact z
def pBody : Stmt → List Stmt
  | .FunctionDef _ _ b _ _ _ _ _ _ _ => b
  | .For _ _ b _ _ => b
  | .While _ b _ _ => b
  | .If _ b _ _ => b
  | _ => []
def pS (l : List Stmt) (i : Nat) : Stmt := l.getD i (.Pass ⟨0, 0, 0, 0⟩)
def eNil : Expr := .List [] ⟨0, 0, 0, 0⟩
def pVal : Stmt → Expr
  | .Assign _ v _ => v
  | _ => eNil
def pExp : Stmt → Expr
  | .Expr v _ => v
  | _ => eNil
def pElts : Expr → List Expr
  | .List l _ => l
  | _ => []
def pArgs : Expr → List Expr
  | .Call _ a _ _ => a
  | _ => []
def pRight : Expr → Expr
  | .BinOp _ _ r _ => r
  | _ => eNil
def pE (l : List Expr) (i : Nat) : Expr := l.getD i eNil
def lamOf (q : Str) (own : Option Str) : Expr → LamI
  | .Lambda p b s _ => ⟨p, b, s, q, own⟩
  | e => ⟨defArgs (.Pass ⟨0, 0, 0, 0⟩), e, defScope (.Pass ⟨0, 0, 0, 0⟩), q, own⟩
theorem lamT_at {tab : List LamI} {names : List (Str × NameKind)} {L i : Nat} {H : Hp} {o : Obj} {I : LamI} (e : tab[i]? = some I) (h : lamT tab names L i H o) : LamIs I (cloFrom (cellsFrom (L + 1) names []) I.scope.names []) H o := by
  obtain ⟨I', e', h⟩ := h
  rw [e] at e'
  cases e'
  exact h
theorem lamOk0 {N : List Str} {sc : Scope} {I : LamI} (ow : I.own = none) (D : LamD N sc I.scope) (bd : ∀ (cs : List (Str × Addr)) (doc pm cv ctv : Value), bindArgs (PySem.W.kdv_fn "<lambda>" I.qual I.params (.expr I.body) I.scope cs .none doc pm cv ctv) ⟨[], []⟩ = pure []) : LamOk N sc I :=
  ⟨D, (fun z e => by rw [ow] at e; cases e), (fun _ sb cs doc pm cv ctv => BindsTo.of_eq (bd cs doc pm cv ctv)), (fun z e => by rw [ow] at e; cases e)⟩
theorem lamOk1 {N : List Str} {sc : Scope} {I : LamI} {z : Str} (ow : I.own = some z) (D : LamD N sc I.scope) (hz : I.scope.names.lookup z = some .local)
    (bd : ∀ (sb : Shared) (cs : List (Str × Addr)) (t : Addr) (doc pm cv ctv u : Value), sb.heap.get? t = some (PySem.W.kdv_tup [u]) → BindsTo sb (PySem.W.kdv_fn "<lambda>" I.qual I.params (.expr I.body) I.scope cs (.ref t) doc pm cv ctv) ⟨[], []⟩ [(z, u)]) : LamOk N sc I :=
  ⟨D, (fun y e => by rw [ow] at e; cases e; exact hz), (fun e => by rw [ow] at e; cases e), (fun y e => by rw [ow] at e; cases e; exact bd)⟩
section
variable {cl : Cl} {X : Cx} {k : Nat}
def LamP (cl : Cl) (X : Cx) (k : Nat) (i : Nat) (fb : Sl → Sto → Res D) : Prop := ∃ I : LamI, (∀ H o, cl.lam i H o → LamIs I (cloFrom X.env.cells I.scope.names []) H o) ∧ LamOk X.N X.env.scope I ∧ I.qual = X.env.qual ++ "<lambda>" ∧
    ∀ (A : Around) (outer : List Env) (s : Shared) (H : Hp) (E : XK) (f c' : Addr), Cok (LamX.lamCx X A outer s H E I.scope f c') E k → DE cl (LamX.lamCx X A outer s H E I.scope f c') E I.body fb
def LamL (cl : Cl) (X : Cx) (k n : Nat) (fs : List (Sl → Sto → Res D)) : Prop := ∀ j fb, fs[j]? = some fb → LamP cl X k (n + j) fb
theorem lamL_nil {n : Nat} : LamL cl X k n [] := fun j fb h => by simp at h
theorem lamL_cons {n : Nat} {fb : Sl → Sto → Res D} {fs : List (Sl → Sto → Res D)} (I : LamI) (hl : ∀ H o, cl.lam n H o → LamIs I (cloFrom X.env.cells I.scope.names []) H o) (ok : LamOk X.N X.env.scope I) (eq : I.qual = X.env.qual ++ "<lambda>")
    (hb : ∀ (A : Around) (outer : List Env) (s : Shared) (H : Hp) (E : XK) (f c' : Addr), Cok (LamX.lamCx X A outer s H E I.scope f c') E k → DE cl (LamX.lamCx X A outer s H E I.scope f c') E I.body fb) (rest : LamL cl X k (n + 1) fs) : LamL cl X k n (fb :: fs) := fun j f h => by
  cases j with
  | zero =>
    simp at h
    subst h
    exact ⟨I, hl, ok, eq, hb⟩
  | succ j =>
    have := rest j f (by simpa using h)
    rw [Nat.add_assoc, Nat.add_comm 1 j] at this
    exact this
theorem lamL_set {fs : List (Sl → Sto → Res D)} (h : LamL cl X k 0 fs) : LamSet cl X k (fun i => fs[i]?) := ⟨fun i fb e => by
  have := h i fb e
  rw [Nat.zero_add] at this
  exact this⟩
end
end DL

namespace DL
open PySem PySem.Spec PyProof.Rows L2
section
variable {prog : Program} {w : World} {A : Around} {E : Value → Shared → Prop} {s : Shared} {K : PySem.W.Frag} {x C dx : Addr} {od : Option Obj} {z : Str} {t : Tok}
end
structure NoEq (K : PySem.W.Frag) (C : Addr) : Prop where
  mro : PySem.W.mroIn K C (.type "object") = some true
  eq : PySem.W.findIn K (.ref C) "__eq__" = some (some (.builtin "object.__eq__"))
section
variable {cl : Cl} {X : Cx}
theorem de_opL {E : XK} {a b : Expr} {fa fb : Sl → Sto → Res D} {op : Operator} {g : D → D → Sto → Res D} {pos : Pos} (ho : OpD cl X (binaryOp op) g) (ha : DE cl X E a fa) (hb : DE cl X E b fb) : DE cl X E (.BinOp a op b pos) (d2 g fa fb) := zf ho ha hb
end
end DL

namespace DL
open PySem PySem.Spec PyProof.Rows L2
section
variable {cl : Cl} {X : Cx}
end
end DL

namespace DL
open PySem PySem.Spec PyProof.Rows L2
structure NoTup (K : PySem.W.Frag) (C : Addr) : Prop where
  ha : PySem.W.findIn K (.ref C) "__class__" = some (some (.builtin "object.__class__"))
  hn : PySem.W.specialIn K (.builtin "object.__class__") "__get__" = some (some (.builtin "getset_descriptor.__get__"))
  htk : PySem.W.takesIn K (.builtin "object.__class__") = some true
  hm : PySem.W.mroIn K C (.type "object") = some true
  tu : PySem.W.kitOne K (.ref C) (.type "tuple") = some false
section
variable {cl : Cl} {X : Cx} {E : XK} {e : Expr} {f : Sl → Sto → Res D} {p p1 p2 p3 p4 pos : Pos}
end
end DL

namespace DL
open PySem PySem.Spec PyProof.Rows L2
section
variable {cl : Cl} {X : Cx} {E : XK}
end
end DL

namespace DL
open PySem PySem.Spec PyProof.Rows L2
section
variable {P : Program} {w : World} {A : Around} {E : Value → Shared → Prop} {s : Shared} {a : Addr} {K : Type} [DecidableEq K] {knd : KeyKind P w K}
def SetL (w : World) (knd : KeyKind P w K) (h : Heap) (a : Addr) (L : List K) : Prop :=
  ∃ o es ep t, h.get? a = some o ∧ o.ExactSet ∧ o.data = .set es ep t ∧ ElemsOf knd es.toList ∧ (∀ k, k ∈ L ↔ ∃ e ∈ es.toList, knd.is k e.2 = true) ∧ es.size = L.length ∧ es.size < scanBound ∧ t.fits es.size = true ∧
    Ris t.place.toList ∧ (w.params.followText "set-order" = true ∨ t.led = true)
theorem SetL.at {h h' : Heap} {L : List K} (R : SetL w knd h a L) (k : ∀ o, h.get? a = some o → h'.get? a = some o) : SetL w knd h' a L := by
  obtain ⟨o, es, ep, t, ho, r⟩ := R
  exact ⟨o, es, ep, t, k o ho, r⟩
theorem SetL.put {h : Heap} {o : Obj} {es es1 : Array (Int × Value)} {ep : Nat} {t t1 : SetTable} {L : List K} (ho : h.get? a = some o) (hex : o.ExactSet) (hd : o.data = .set es ep t) (he : ElemsOf knd es1.toList) (hm : ∀ k, k ∈ L ↔ ∃ e ∈ es1.toList, knd.is k e.2 = true)
    (hz : es1.size = L.length) (hb : es1.size < scanBound) (hf : t1.fits es1.size = true) (hr : Ris t1.place.toList) (hl : w.params.followText "set-order" = true ∨ t1.led = true) : SetL w knd (h.update a (Obj.putSet es1 t1)) a L :=
  ⟨_, es1, ep + 1, t1, store_at ho hd, hex, rfl, he, hm, hz, hb, hf, hr, hl⟩
set_option maxHeartbeats 8000000 in
end
end DL

namespace DL
open PySem PySem.Spec PyProof.Rows L2 PySem.W
section
variable {cl : Cl} {X : Cx} {E : XK}
end
end DL

namespace DL
open PySem PySem.Spec PyProof.Rows L2 PySem.W
section
variable {cl : Cl} {X : Cx} {E : XK}
end
end DL

namespace DL
open PySem PySem.Spec PyProof.Rows L2 PySem.W
section
variable {cl : Cl} {X : Cx} {E : XK}
end
end DL

namespace DL
open PySem PySem.Spec PyProof.Rows L2 PySem.W
section
variable {cl : Cl} {X : Cx} {E : XK} {pins : List (Addr × Obj)} {σ : L2.St} {H : Hp} {s : Shared}
def NAtF (X : Cx) (H : Hp) (a : Addr) (xs : List (NestedKey × Addr × Value)) : Prop :=
  ∃ es ep o, H a = some (.frz o (RawO a es ep)) ∧ es.toList = xs.map (entN X) ∧ (xs.map (·.1)).Nodup ∧ (a == sysModules) = false ∧ ∀ x ∈ xs, NKey X.K H x.1 (.ref x.2.1) ∧ x.1.depth ≤ 8
theorem NAtF.dict {a : Addr} {xs : List (NestedKey × Addr × Value)} (I : Inv X pins σ H s) (h : NAtF X H a xs) : s.heap.DictOfH (nestedKind X.prog X.w) a xs := by
  obtain ⟨es, ep, od, e, he, hn, _, hk⟩ := h
  obtain ⟨_, ⟨o, ho, hc, hd⟩, _, _⟩ := (show ObjOk X.prog X.w H s.heap a (.frz od (RawO a es ep)) from I.hok a _ e)
  exact ⟨o, es, ep, ho, hc, hd, he, fun x hx => ⟨NKey.is I _ (hk x hx).1 rfl, (hk x hx).2⟩, hn⟩
end
end DL

namespace DL
open PySem PySem.Spec PyProof.Rows L2 PySem.W
def frN {α : Type} (n : Nat) (k : Nat → α) : α := match n with
  | 0 => k 0
  | m + 1 => k (m + 1)
theorem frN_eq {α : Type} (n : Nat) (k : Nat → α) : frN n k = k n := by cases n <;> rfl
def pickM {α : Type} : List Addr → Nat → List Addr → (List Addr → Nat → α) → α
  | [], m, out, k => k out m
  | a :: r, m, out, k => frN a fun a => match Nat.beq (Nat.land (Nat.shiftRight m a) 1) 0 with
    | true => frN (Nat.lor m (Nat.shiftLeft 1 a)) fun m' => pickM r m' (a :: out) k
    | false => pickM r m out k
def moreM {α : Type} (g : Addr → Option Obj) : List Addr → Nat → List Addr → (List Addr → Nat → α) → α
  | [], m, out, k => k out m
  | a :: r, m, out, k => match g a with
    | some o => pickM (He.refsD o) m out fun out' m' => moreM g r m' out' k
    | none => moreM g r m out k
def metM {α : Type} (g : Addr → Option Obj) : Nat → List Addr → Nat → List Addr → (List Addr → α) → α
  | 0, f, _, acc, k => k (f ++ acc)
  | n + 1, f, m, acc, k => moreM g f m [] fun f' m' => metM g n f' m' (f ++ acc) k
def layM {α : Type} (g : Addr → Option Obj) : List Addr → PySem.W.Frag → (PySem.W.Frag → α) → α
  | [], out, k => k out
  | a :: r, out, k => match g a with
    | some ⟨c, d, dt, sl⟩ => (match He.emptyTab ⟨c, d, dt, sl⟩ with
      | true => layM g r out k
      | false => layM g r ((a, ⟨c, d, dt, sl⟩) :: out) k)
    | none => layM g r out k
def inB (g : Addr → Option Obj) (K : PySem.W.Frag) : Prop := ∀ a o, K.lookup a = some o → g a = some o ∧ He.emptyTab o = false
theorem layM_in {α : Type} {g : Addr → Option Obj} {P : α → Prop} {k : PySem.W.Frag → α} (hk : ∀ K, inB g K → P (k K)) : ∀ (l : List Addr) (out : PySem.W.Frag), inB g out → P (layM g l out k)
  | [], out, h => hk out h
  | a :: r, out, h => by
    unfold layM
    cases e : g a with
    | none => exact layM_in hk r out h
    | some o =>
      obtain ⟨c, d, dt, sl⟩ := o
      show P (match He.emptyTab ⟨c, d, dt, sl⟩ with | true => layM g r out k | false => layM g r ((a, ⟨c, d, dt, sl⟩) :: out) k)
      cases et : He.emptyTab ⟨c, d, dt, sl⟩ with
      | true => exact layM_in hk r out h
      | false =>
        refine layM_in hk r _ fun b o q => ?_
        rw [List.lookup_cons] at q
        by_cases hb : b = a
        · rw [hb] at q ⊢
          simp only [beq_self_eq_true] at q
          rw [e]
          cases q
          exact ⟨rfl, et⟩
        · rw [beq_false_of_ne hb] at q
          exact h b o q
def obG0 (fa : List He.Fa) (fn : List He.DefD) (tf : List He.Defn) (ts : List (Str × List Str)) (ex : PySem.W.Frag → Bool) (g : Addr → Option Obj) (K : PySem.W.Frag) : AlV :=
  ((He.obsD fa fn K, ex K && He.tabsB g tf K), ts.map fun t => He.dicW K (He.ga K t.1))
def obG (n : Nat) (fa : List He.Fa) (fn : List He.DefD) (tf : List He.Defn) (ts : List (Str × List Str)) (ex : PySem.W.Frag → Bool) (g : Addr → Option Obj) : AlV :=
  metM g n [mainGlobals, cStatics] (Nat.lor (Nat.shiftLeft 1 mainGlobals) (Nat.shiftLeft 1 cStatics)) [] fun as => layM g as [] fun K => obG0 fa fn tf ts ex g K
theorem metM_in {α : Type} {g : Addr → Option Obj} {P : α → Prop} {k : List Addr → α} (hk : ∀ as, P (k as)) : ∀ (n : Nat) (f : List Addr) (m : Nat) (acc : List Addr), P (metM g n f m acc k)
  | 0, f, _, acc => hk _
  | n + 1, f, m, acc => by
    have pk : ∀ (l : List Addr) (m : Nat) (out : List Addr) (k2 : List Addr → Nat → α), (∀ x y, P (k2 x y)) → P (pickM l m out k2) := by
      intro l
      induction l with
      | nil => intro m out k2 h; exact h _ _
      | cons a r ih =>
        intro m out k2 h
        unfold pickM
        rw [frN_eq]
        cases Nat.beq (Nat.land (Nat.shiftRight m a) 1) 0 with
        | true => show P (frN _ _); rw [frN_eq]; exact ih _ _ _ h
        | false => exact ih _ _ _ h
    have mr : ∀ (l : List Addr) (m : Nat) (out : List Addr) (k2 : List Addr → Nat → α), (∀ x y, P (k2 x y)) → P (moreM g l m out k2) := by
      intro l
      induction l with
      | nil => intro m out k2 h; exact h _ _
      | cons a r ih =>
        intro m out k2 h
        unfold moreM
        cases g a with
        | some o => exact pk _ _ _ _ fun x y => ih _ _ _ h
        | none => exact ih _ _ _ h
    exact mr _ _ _ _ fun x y => metM_in hk n _ _ _
def hookG (n : Nat) (fa : List He.Fa) (fn : List He.DefD) (tf : List He.Defn) (ts : List (Str × List Str)) (ex : PySem.W.Frag → Bool) : PySem.W.Hook where
  α := AlV
  obs := fun s => obG n fa fn tf ts ex s.heap.get?
  val := fun w => ((He.valD fn, true), ts.map fun t => some (He.keysIn w.params t.2))
  says := fun w h => ∃ K : PySem.W.Frag, K.In h ∧ He.SaysD fa fn K ∧ ex K = true ∧ TabF K h tf ∧ ∀ (i : Nat) (t : Str × List Str), ts[i]? = some t → He.dicW K (He.ga K t.1) = some (He.keysIn w.params t.2)
  of := fun w s => by
    refine metM_in (P := fun z : AlV => z = ((He.valD fn, true), ts.map fun t => some (He.keysIn w.params t.2)) → ∃ K : PySem.W.Frag, K.In s.heap ∧ He.SaysD fa fn K ∧ ex K = true ∧ TabF K s.heap tf ∧ ∀ (i : Nat) (t : Str × List Str), ts[i]? = some t → He.dicW K (He.ga K t.1) = some (He.keysIn w.params t.2)) (fun as => ?_) n _ _ _
    refine layM_in (P := fun z : AlV => z = ((He.valD fn, true), ts.map fun t => some (He.keysIn w.params t.2)) → ∃ K : PySem.W.Frag, K.In s.heap ∧ He.SaysD fa fn K ∧ ex K = true ∧ TabF K s.heap tf ∧ ∀ (i : Nat) (t : Str × List Str), ts[i]? = some t → He.dicW K (He.ga K t.1) = some (He.keysIn w.params t.2)) (fun K hK e => ?_) as _ (fun a o q => by cases q)
    have e0 : (He.obsD fa fn K, ex K && He.tabsB s.heap.get? tf K) = (He.valD fn, true) := congrArg (fun z : AlV => z.1) e
    have e2 : (ex K && He.tabsB s.heap.get? tf K) = true := congrArg (fun z : He.AlD × Bool => z.2) e0
    rw [Bool.and_eq_true] at e2
    refine ⟨K, fun a o q => (hK a o q).1, congrArg (fun z : He.AlD × Bool => z.1) e0, e2.1, ?_, fun i t ht => ?_⟩
    · have key : ∀ p ∈ tf, PySem.W.codeHdIn K (He.cT K p).1 (He.cT K p).2 = true ∧ ∃ o, s.heap.get? (He.cT K p).2 = some o ∧ He.emptyTab o = true := fun p hp => by
        have z := List.all_eq_true.mp e2.2 p hp
        rw [Bool.and_eq_true] at z
        refine ⟨z.1, ?_⟩
        have z2 := z.2
        split at z2
        · rename_i o q
          exact ⟨o, q, z2⟩
        · cases z2
      refine ⟨fun p hp => (key p hp).1, fun p hp => ?_, fun p hp => ?_⟩
      · obtain ⟨_, o, q, z⟩ := key p hp
        cases eK : K.lookup (He.cT K p).2 with
        | none => rfl
        | some u =>
          have h2 := hK _ _ eK
          rw [q] at h2
          have h3 := h2.2
          rw [← Option.some.inj h2.1, z] at h3
          cases h3
      · obtain ⟨_, o, q, z⟩ := key p hp
        rw [q, He.emptyTab_eq z]
    · have e3 : (ts.map fun t => He.dicW K (He.ga K t.1)) = ts.map fun t => some (He.keysIn w.params t.2) := congrArg (fun z : AlV => z.2) e
      have e4 := congrArg (fun l => l[i]?) e3
      simp only [List.getElem?_map, ht, Option.map_some] at e4
      exact Option.some.inj e4
  keeps := fun _ _ _ ⟨K, hK, c1, c2, c3, c4⟩ k => ⟨K, PySem.W.Frag.In.keeps hK k, c1, c2, ⟨c3.hd, c3.out, fun p hp => k _ _ (c3.empty p hp)⟩, c4⟩
theorem obG_eq {n : Nat} {fa : List He.Fa} {fn : List He.DefD} {tf : List He.Defn} {ts : List (Str × List Str)} {ex : PySem.W.Frag → Bool} {g : Addr → Option Obj} {s : Shared} (h : ∀ a, g a = s.heap.get? a) : obG n fa fn tf ts ex g = (hookG n fa fn tf ts ex).obs s := by
  have e : g = s.heap.get? := funext h
  subst e
  rfl
theorem pickM_k {α : Type} {k : List Addr → Nat → α} : ∀ (l : List Addr) (m : Nat) (out : List Addr), pickM l m out k = k (pickM l m out Prod.mk).1 (pickM l m out Prod.mk).2
  | [], _, _ => rfl
  | a :: r, m, out => by
    simp only [pickM, frN_eq]
    cases Nat.beq (Nat.land (Nat.shiftRight m a) 1) 0 with
    | true => exact pickM_k r _ _
    | false => exact pickM_k r _ _
theorem moreM_k {α : Type} {g : Addr → Option Obj} {k : List Addr → Nat → α} : ∀ (l : List Addr) (m : Nat) (out : List Addr), moreM g l m out k = k (moreM g l m out Prod.mk).1 (moreM g l m out Prod.mk).2
  | [], _, _ => rfl
  | a :: r, m, out => by
    unfold moreM
    cases g a with
    | none => exact moreM_k r _ _
    | some o =>
      show pickM (He.refsD o) m out (fun out' m' => moreM g r m' out' k) = k (pickM (He.refsD o) m out (fun out' m' => moreM g r m' out' Prod.mk)).1 (pickM (He.refsD o) m out (fun out' m' => moreM g r m' out' Prod.mk)).2
      rw [pickM_k, pickM_k (k := fun out' m' => moreM g r m' out' Prod.mk)]
      exact moreM_k r _ _
theorem metM_k {α : Type} {g : Addr → Option Obj} {k : List Addr → α} : ∀ (n : Nat) (f : List Addr) (m : Nat) (acc : List Addr), metM g n f m acc k = k (metM g n f m acc id)
  | 0, _, _, _ => rfl
  | n + 1, f, m, acc => by
    unfold metM
    rw [moreM_k, moreM_k (k := fun f' m' => metM g n f' m' (f ++ acc) id)]
    exact metM_k n _ _ _
theorem layM_k {α : Type} {g : Addr → Option Obj} {k : PySem.W.Frag → α} : ∀ (l : List Addr) (out : PySem.W.Frag), layM g l out k = k (layM g l out id)
  | [], _ => rfl
  | a :: r, out => by
    unfold layM
    cases g a with
    | none => exact layM_k r _
    | some o =>
      obtain ⟨c, d, dt, sl⟩ := o
      show (match He.emptyTab ⟨c, d, dt, sl⟩ with | true => layM g r out k | false => layM g r ((a, ⟨c, d, dt, sl⟩) :: out) k) = k (match He.emptyTab ⟨c, d, dt, sl⟩ with | true => layM g r out id | false => layM g r ((a, ⟨c, d, dt, sl⟩) :: out) id)
      cases He.emptyTab ⟨c, d, dt, sl⟩ with
      | true => exact layM_k r _
      | false => exact layM_k r _
def layG {α : Type} (n : Nat) (g : Addr → Option Obj) (k : PySem.W.Frag → α) : α :=
  metM g n [mainGlobals, cStatics] (Nat.lor (Nat.shiftLeft 1 mainGlobals) (Nat.shiftLeft 1 cStatics)) [] fun as => layM g as [] k
theorem layG_k {α : Type} {n : Nat} {g : Addr → Option Obj} {k : PySem.W.Frag → α} : layG n g k = k (layG n g id) := by
  unfold layG
  rw [metM_k, metM_k (k := fun as => layM g as [] id)]
  exact layM_k _ _
def oneB (n : Nat) (fa : List He.Fa) (fn : List He.DefD) (g : Addr → Option Obj) : Bool := layG n g fun K => (fa.all fun f => f.ok K) && fn.all fun d => d.ok K
def oneC (n : Nat) (fn : List He.DefD) (tf : List He.Defn) (ts : List (Str × List Str)) (ex : PySem.W.Frag → Bool) (g : Addr → Option Obj) : List He.FnW × Bool × List (Option (List (Option (Str × Int)))) :=
  layG n g fun K => (fn.map fun d => He.fnW K d.at_, ex K && He.tabsB g tf K, ts.map fun t => He.dicW K (He.ga K t.1))
theorem obG_parts {n : Nat} {fa : List He.Fa} {fn : List He.DefD} {tf : List He.Defn} {ts : List (Str × List Str)} {ex : PySem.W.Frag → Bool} {g : Addr → Option Obj} :
    obG n fa fn tf ts ex g = (((oneB n fa fn g, (oneC n fn tf ts ex g).1), (oneC n fn tf ts ex g).2.1), (oneC n fn tf ts ex g).2.2) := by
  show layG n g (fun K => obG0 fa fn tf ts ex g K) = _
  unfold oneB oneC
  rw [layG_k, layG_k (k := fun K => (fa.all fun f => f.ok K) && fn.all fun d => d.ok K), layG_k (k := fun K => (fn.map fun d => He.fnW K d.at_, ex K && He.tabsB g tf K, ts.map fun t => He.dicW K (He.ga K t.1)))]
  rfl
def TopIs {α : Type} (r : PySem.W.OpenRow) (M : Nat) (f : PySem.W.SharedT → α) (v : α) (w : World) : Prop :=
  ∀ os : OsState, (HandSHeadRun.endF (HandSHeadRun.stepQ (HandSHeadRun.denQ HandSHeadRun.tabQ) r.prog w) M r.prog w os).map f = some v
theorem run_parts {r : PySem.W.OpenRow} {q : Program} {n M : Nat} {fa : List He.Fa} {fn : List He.DefD} {tf : List He.Defn} {ts : List (Str × List Str)} {ex : PySem.W.Frag → Bool} {loose : List Str} {w : World}
    (a : TopIs r M (fun s => (HandSHeadRun.looksF r.prog (boot_heap w.params) s.abs, HandSHeadRun.seenQ q loose (importedModules r.prog.main.body) (fun s => PySem.W.xlAt q [] s && PySem.W.recOk r.toRowW.records s) s.abs)) (true, PySem.W.openGood q loose) w)
    (b : TopIs r M (fun s => oneB n fa fn (HandSHeadRun.getT s)) true w)
    (c : TopIs r M (fun s => oneC n fn tf ts ex (HandSHeadRun.getT s)) (fn.map He.DefD.val, true, ts.map fun t => some (He.keysIn w.params t.2)) w) :
    HandSHeadRun.RunEq r q (hookG n fa fn tf ts ex) (fun s => obG n fa fn tf ts ex (HandSHeadRun.getT s)) M loose w := fun os => by
  have a1 := a os
  have b1 := b os
  have c1 := c os
  cases e : HandSHeadRun.endF (HandSHeadRun.stepQ (HandSHeadRun.denQ HandSHeadRun.tabQ) r.prog w) M r.prog w os with
  | none => rw [e] at a1; cases a1
  | some s =>
    rw [e] at a1 b1 c1
    have a2 := Option.some.inj a1
    have b2 := Option.some.inj b1
    have c2 := Option.some.inj c1
    refine congrArg some ?_
    show (HandSHeadRun.looksF r.prog (boot_heap w.params) s.abs, HandSHeadRun.seenQ q loose (importedModules r.prog.main.body) (fun s => PySem.W.xlAt q [] s && PySem.W.recOk r.toRowW.records s) s.abs, obG n fa fn tf ts ex (HandSHeadRun.getT s)) = _
    rw [obG_parts]
    have a3 := congrArg Prod.fst a2
    have a4 := congrArg Prod.snd a2
    dsimp only at a3 a4 b2 c2
    rw [a3, a4, b2, c2]
    rfl
end DL

namespace DL
open PySem PySem.Spec PyProof.Rows L2 PySem.W
section
variable {cl : Cl} {X : Cx} {E : XK}
end
end DL

namespace DL
open PySem PySem.Spec PyProof.Rows L2
def gg : Nat → Nat
  | 0 => 0
  | k + 1 => gg k * 5 + 1
theorem gg_mod (m : Nat) : ∀ k, lcgN m k = gg k % (m + 1)
  | 0 => by rw [gg, Nat.zero_mod]; rfl
  | k + 1 => by
    show (lcgN m k * 5 + 1) % (m + 1) = (gg k * 5 + 1) % (m + 1)
    rw [gg_mod m k, Nat.add_mod, Nat.mul_mod, Nat.mod_mod, ← Nat.mul_mod, ← Nat.add_mod]
theorem gg_pow : ∀ k, 4 * gg k + 1 = 5 ^ k
  | 0 => rfl
  | k + 1 => by
    have := gg_pow k
    rw [Nat.pow_succ, gg]
    omega
theorem gg_add (a b : Nat) : gg (a + b) = gg a + (4 * gg a + 1) * gg b := by
  have h1 := gg_pow (a + b)
  have h2 := gg_pow a
  have h3 := gg_pow b
  rw [Nat.pow_add, ← h2, ← h3] at h1
  have e : (4 * gg a + 1) * (4 * gg b + 1) = 4 * ((4 * gg a + 1) * gg b) + (4 * gg a + 1) := by rw [Nat.mul_add, Nat.mul_one, Nat.mul_left_comm]
  rw [e] at h1
  omega
theorem gg_two : ∀ e, ∃ q, gg (2 ^ e) = 2 ^ e * (2 * q + 1)
  | 0 => ⟨0, rfl⟩
  | e + 1 => by
    obtain ⟨q, h⟩ := gg_two e
    have h1 : gg (2 ^ (e + 1)) = gg (2 ^ e) * (4 * gg (2 ^ e) + 2) := by
      rw [Nat.pow_succ, Nat.mul_two, gg_add]
      generalize gg (2 ^ e) = x
      rw [Nat.mul_add, Nat.add_mul, Nat.mul_comm x (4 * x)]
      omega
    refine ⟨q + 2 ^ e * (2 * q + 1) * (2 * q + 1), ?_⟩
    rw [h1, h, Nat.pow_succ]
    generalize 2 ^ e = p
    grind
theorem gg_all : ∀ e j, j < 2 ^ e → ∃ b, b < 2 ^ e ∧ gg b % 2 ^ e = j
  | 0, j, h => ⟨0, Nat.one_pos, by
    have : j = 0 := by rw [Nat.pow_zero] at h; omega
    rw [this, Nat.pow_zero, Nat.mod_one]⟩
  | e + 1, j, h => by
    have hp : 0 < 2 ^ e := Nat.pow_pos (by decide)
    obtain ⟨b, hb, eb⟩ := gg_all e (j % 2 ^ e) (Nat.mod_lt _ hp)
    obtain ⟨q, hq⟩ := gg_two e
    have hs : (2 : Nat) ^ (e + 1) = 2 ^ e + 2 ^ e := by rw [Nat.pow_succ, Nat.mul_two]
    -- gg b and j are alike up to 2 ^ e
    have d1 := Nat.div_add_mod (gg b) (2 ^ e)
    have d2 := Nat.div_add_mod j (2 ^ e)
    rw [eb] at d1
    have hj : j / 2 ^ e < 2 := (Nat.div_lt_iff_lt_mul hp).mpr (by omega)
    have key : gg (2 ^ e + b) = gg b + 2 ^ e + 2 ^ (e + 1) * (q + 2 * (2 * q + 1) * gg b) := by
      rw [gg_add, hq, hs]
      generalize 2 ^ e = p
      generalize gg b = x
      grind
    have m1 : gg b % 2 ^ (e + 1) = (2 ^ e * (gg b / 2 ^ e % 2) + j % 2 ^ e) := by
      rw [Nat.pow_succ, Nat.mod_mul, eb, Nat.add_comm]
    have m2 : gg (2 ^ e + b) % 2 ^ (e + 1) = (2 ^ e * ((gg b / 2 ^ e + 1) % 2) + j % 2 ^ e) := by
      rw [key, Nat.add_mul_mod_self_left, Nat.pow_succ, Nat.mod_mul, Nat.add_mod_right, eb, Nat.add_div_right _ hp, Nat.add_comm]
    rcases (by omega : j / 2 ^ e % 2 = gg b / 2 ^ e % 2 ∨ j / 2 ^ e % 2 = (gg b / 2 ^ e + 1) % 2) with z | z
    · refine ⟨b, by omega, ?_⟩
      rw [m1, ← z, Nat.mod_eq_of_lt hj]
      exact d2
    · refine ⟨2 ^ e + b, by omega, ?_⟩
      rw [m2, ← z, Nat.mod_eq_of_lt hj]
      exact d2
def NMask (m : Nat) : Prop := ∃ e, m + 1 = 2 ^ e ∧ 3 ≤ e ∧ e ≤ 17
theorem NMask.odd {m : Nat} (h : NMask m) : m % 2 = 1 := by
  obtain ⟨e, h, he, _⟩ := h
  obtain ⟨k, rfl⟩ : ∃ k, e = k + 1 := ⟨e - 1, by omega⟩
  rw [Nat.pow_succ] at h
  omega
theorem n_all {m : Nat} (hm : NMask m) {j : Nat} (hj : j ≤ m) : ∃ b, b ≤ m ∧ lcgN m b = j := by
  obtain ⟨e, h, _, _⟩ := hm
  obtain ⟨b, h1, h2⟩ := gg_all e j (by omega)
  exact ⟨b, by omega, by rw [gg_mod, h]; exact h2⟩
theorem n_round {m : Nat} (hm : NMask m) : lcgN m (m + 1) = 0 := by
  obtain ⟨e, h, _, _⟩ := hm
  obtain ⟨q, hq⟩ := gg_two e
  rw [gg_mod, h, hq, Nat.mul_mod_right]
theorem n_mod {m : Nat} (hm : NMask m) : ∀ k, lcgN m (m + 1 + k) = lcgN m k
  | 0 => n_round hm
  | k + 1 => congrArg (fun x => (x * 5 + 1) % (m + 1)) (n_mod hm k)
theorem n_from {m : Nat} (hm : NMask m) {i j : Nat} (hi : i ≤ m) (hj : j ≤ m) : ∃ k, k ≤ m ∧ lcgI m i k = j := by
  obtain ⟨a, ha, rfl⟩ := n_all hm hi
  obtain ⟨b, hb, rfl⟩ := n_all hm hj
  by_cases c : a ≤ b
  · exact ⟨b - a, by omega, by rw [lcgN_add, show a + (b - a) = b by omega]⟩
  · exact ⟨m + 1 + b - a, by omega, by rw [lcgN_add, show a + (m + 1 + b - a) = m + 1 + b by omega, n_mod hm]⟩
theorem nodup_all : ∀ (n : Nat) (l : List Nat), l.length ≤ n → (∀ j, j < n → j ∈ l) → l.Nodup := fun n l hl h => by
  have p : l.length = n := by
    have := nat_nodup_len (List.range n) l List.nodup_range fun x hx => h x (List.mem_range.mp hx)
    rw [List.length_range] at this
    omega
  exact (perm_range n l p h).nodup_iff.mpr List.nodup_range
theorem n_inj {m : Nat} (hm : NMask m) {i : Nat} (hi : i ≤ m) : ((List.range (m + 1)).map (lcgI m i)).Nodup := by
  refine nodup_all (m + 1) _ (by rw [List.length_map, List.length_range]; exact Nat.le_refl _) fun j hj => ?_
  obtain ⟨k, hk, e⟩ := n_from hm hi (Nat.le_of_lt_succ hj)
  exact List.mem_map.mpr ⟨k, List.mem_range.mpr (by omega), e⟩
theorem n_free {m : Nat} (hm : NMask m) (h : Int) (l : List Nat) (hl : l.length ≤ m) : ∃ n, n ≤ 12 + l.length ∧ runI m (SetTable.bits h) n ∉ l := by
  rcases Classical.em (∃ n, n ≤ 12 + l.length ∧ runI m (SetTable.bits h) n ∉ l) with c | c
  · exact c
  · exfalso
    have nd : ((List.range (l.length + 1)).map (lcgI m (runI m (SetTable.bits h) 12))).Nodup := by
      have := n_inj hm (runI_le m (SetTable.bits h) 12)
      refine List.Nodup.sublist (List.Sublist.map _ ?_) this
      exact List.range_sublist.mpr (by omega)
    have := nat_nodup_len _ l nd fun x hx => by
      obtain ⟨k, hk, rfl⟩ := List.mem_map.mp hx
      have hk := List.mem_range.mp hk
      rcases Classical.em (lcgI m (runI m (SetTable.bits h) 12) k ∈ l) with d | d
      · exact d
      · exact absurd ⟨12 + k, by omega, by rw [runI_tail (bits_lt h)]; exact d⟩ c
    rw [List.length_map, List.length_range] at this
    omega
theorem n_first {m : Nat} (hm : NMask m) (h : Int) (l : List Nat) (hl : l.length ≤ m) : ∃ K, K ≤ 10 * (12 + l.length) ∧ way m h K ∉ l ∧ ∀ k, k < K → way m h k ∈ l := by
  obtain ⟨n, hn, e⟩ := n_free hm h l hl
  obtain ⟨k, hk, e2⟩ := run_nth m (SetTable.bits h) n
  have hw : way m h k ∉ l := by
    show (nth m (runAt m (SetTable.bits h % (m + 1)) (SetTable.bits h)) k).j ∉ l
    rw [e2]
    exact e
  obtain ⟨K, h1, h2, h3⟩ := st_least (p := fun k => way m h k ∉ l) k hw
  exact ⟨K, by omega, h2, fun k' hk' => Classical.not_not.mp (h3 k' hk')⟩
theorem n_way {m : Nat} {h : Int} {k : Nat} : way m h k ≤ m := by
  have r := runEnd_bd (m := m) (i := SetTable.bits h % (m + 1)) (Nat.le_of_lt_succ (Nat.mod_lt _ (Nat.succ_pos _)))
  have q := nth_in (m := m) k (runAt m (SetTable.bits h % (m + 1)) (SetTable.bits h)) (by unfold runAt; dsimp only; omega)
  unfold way
  omega
end DL

namespace DL
open PySem PySem.Spec PyProof.Rows L2
structure NTab (t : SetTable) (hs : List Int) : Prop where
  ris : Ris t.place.toList
  dm : t.dummies = #[]
  sz : t.place.toList.length = hs.length
  mok : NMask t.mask
  bd : ∀ x ∈ t.place.toList, x ≤ t.mask
  reach : ∀ (i : Nat) (h : Int) (j : Nat), hs[i]? = some h → t.place.toList[i]? = some j → ∃ k, way t.mask h k = j ∧ ∀ k', k' < k → way t.mask h k' ∈ t.place.toList
theorem NTab.first {t : SetTable} {hs : List Int} (T : NTab t hs) (hl : hs.length ≤ t.mask) (h : Int) : ∃ K, K ≤ 10 * (12 + hs.length) ∧ way t.mask h K ∉ t.place.toList ∧ ∀ k, k < K → way t.mask h k ∈ t.place.toList := by
  have := n_first T.mok h t.place.toList (by rw [T.sz]; exact hl)
  rwa [T.sz] at this
theorem NTab.put {t : SetTable} {hs : List Int} (T : NTab t hs) {h : Int} {K p : Nat} (hp : SetTable.below t.place (way t.mask h K) = p) (hK : way t.mask h K ∉ t.place.toList) (hb : ∀ k, k < K → way t.mask h k ∈ t.place.toList) :
    p ≤ hs.length ∧ NTab (t.put (way t.mask h K)).1 (hs.take p ++ h :: hs.drop p) := by
  subst hp
  have hjm : way t.mask h K ≤ t.mask := n_way
  obtain ⟨j, hj⟩ : ∃ j, j = way t.mask h K := ⟨_, rfl⟩
  rw [← hj] at hK hjm ⊢
  have c1 := (below_cut T.ris j).1
  have hpl : SetTable.below t.place j ≤ t.place.toList.length := by rw [Array.length_toList]; exact c1
  have hph : SetTable.below t.place j ≤ hs.length := by rw [← T.sz]; exact hpl
  have hnp : t.place[SetTable.below t.place j]? ≠ some j := fun e => hK (List.mem_of_getElem? (by rw [Array.getElem?_toList]; exact e))
  have hpp := put_place t j
  have up : ∀ {x : Nat}, x ∈ t.place.toList → x ∈ (t.put j).1.place.toList := fun {x} hx => by rw [hpp]; exact mem_ins.2 (.inr hx)
  refine ⟨hph, ris_insert T.ris hnp, put_dm T.dm j, ?_, T.mok, fun x hx => ?_, fun i h' j' h1 h2 => ?_⟩
  · rw [hpp, len_ins _ hpl, len_ins _ hph, T.sz]
  · rw [hpp] at hx
    rcases mem_ins.1 hx with rfl | z
    · exact hjm
    · exact T.bd x z
  · rw [tins_get hs hph] at h1
    rw [hpp, tins_get _ hpl] at h2
    show ∃ k, way t.mask h' k = j' ∧ ∀ k', k' < k → way t.mask h' k' ∈ (t.put j).1.place.toList
    have old : ∀ i', hs[i']? = some h' → t.place.toList[i']? = some j' → ∃ k, way t.mask h' k = j' ∧ ∀ k', k' < k → way t.mask h' k' ∈ (t.put j).1.place.toList := fun i' a b => by
      obtain ⟨k, e, z⟩ := T.reach i' h' j' a b
      exact ⟨k, e, fun k' hk' => up (z k' hk')⟩
    split at h1
    · rename_i c
      rw [if_pos c] at h2
      exact old i h1 h2
    · rename_i c
      rw [if_neg c] at h2
      split at h1
      · rename_i d
        rw [if_pos d] at h2
        injection h1 with h1
        injection h2 with h2
        subst h1; subst h2
        exact ⟨K, hj.symm, fun k' hk' => up (hb k' hk')⟩
      · rename_i d
        rw [if_neg d] at h2
        exact old (i - 1) h1 h2
theorem n_find {m : Nat} (hm : NMask m) (owner : Array (Option Nat)) (h : Int) {j : Nat} (hj : j ≤ m) (hf : oAt owner j = none) :
    ∃ K, SetTable.layClean.free m owner (SetTable.turns m) (SetTable.bits h % (m + 1)) (SetTable.bits h) = some (way m h K) ∧ oAt owner (way m h K) = none ∧ ∀ k, k < K → oAt owner (way m h k) ≠ none := by
  obtain ⟨k0, hk0, e0⟩ := n_from hm (runI_le m (SetTable.bits h) 12) hj
  have e : runI m (SetTable.bits h) (12 + k0) = j := by rw [runI_tail (bits_lt h)]; exact e0
  generalize hN : 12 + k0 = N at e
  have hw : way m h (L2.off m (SetTable.bits h % (m + 1)) (SetTable.bits h) N) = j := by
    unfold way
    rw [nth_off, itL_run]
    exact e
  obtain ⟨K, k1, k2, k3⟩ := st_least (p := fun k => oAt owner (way m h k) = none) (L2.off m (SetTable.bits h % (m + 1)) (SetTable.bits h) N) (by rw [hw]; exact hf)
  refine ⟨K, free_spec m owner (SetTable.turns m) N _ _ K (by unfold SetTable.turns; omega) k1 (fun k hk => ?_) ?_, k2, k3⟩
  · have q := k3 k hk
    cases z : oAt owner (nth m (runAt m (SetTable.bits h % (m + 1)) (SetTable.bits h)) k).j with
    | none => exact absurd z q
    | some _ => rfl
  · exact Option.isNone_iff_eq_none.mpr k2
theorem NOwn.step {m : Nat} (hm : NMask m) {done : List Int} {owner : Array (Option Nat)} (W : L2.Own m done owner) (hl : done.length ≤ m) (h : Int) :
    ∃ j, SetTable.layClean.free m owner (SetTable.turns m) (SetTable.bits h % (m + 1)) (SetTable.bits h) = some j ∧ L2.Own m (done ++ [h]) (owner.setIfInBounds j (some done.length)) := by
  obtain ⟨ps, hps, hin⟩ := W.ps
  obtain ⟨j0, h0, hn0⟩ := st_missing ps (m + 1) (by omega)
  have hj0 : oAt owner j0 = none := Classical.byContradiction fun z => hn0 (hin j0 (Nat.le_of_lt_succ h0) z)
  obtain ⟨K, e1, e2, e3⟩ := n_find hm owner h (Nat.le_of_lt_succ h0) hj0
  have hjm : way m h K ≤ m := n_way
  generalize hJ : way m h K = J at e1 e2 hjm
  have hjs : J < owner.size := by rw [W.sz]; exact Nat.lt_succ_of_le hjm
  have hself := oAt_set_self (some done.length) hjs
  have mono : ∀ {i : Nat}, oAt owner i ≠ none → oAt (owner.setIfInBounds J (some done.length)) i ≠ none := fun {i} hi => by
    by_cases c : i = J
    · rw [c, hself]
      nofun
    · rw [oAt_set_ne _ c]
      exact hi
  refine ⟨J, e1, by rw [Array.size_setIfInBounds]; exact W.sz, fun j k hj e => ?_, fun k hk => ?_, J :: ps, by simp [hps], fun j hj e => ?_⟩
  · by_cases c : j = J
    · subst c
      rw [hself] at e
      obtain rfl : done.length = k := Option.some.inj e
      exact ⟨h, K, by simp, hJ, fun k' hk' => mono (e3 k' hk')⟩
    · rw [oAt_set_ne _ c] at e
      obtain ⟨h', K', a1, a2, a3⟩ := W.at_ j k hj e
      exact ⟨h', K', by rw [List.getElem?_append_left (List.getElem?_eq_some_iff.mp a1).1]; exact a1, a2, fun k' hk' => mono (a3 k' hk')⟩
  · rw [List.length_append, List.length_singleton] at hk
    by_cases c : k < done.length
    · obtain ⟨j, hj, e⟩ := W.all k c
      refine ⟨j, hj, ?_⟩
      rw [oAt_set_ne _ (fun z => by rw [z, e2] at e; cases e)]
      exact e
    · obtain rfl : k = done.length := by omega
      exact ⟨J, hjm, hself⟩
  · by_cases c : j = J
    · rw [c]
      exact List.mem_cons_self
    · rw [oAt_set_ne _ c] at e
      exact List.mem_cons_of_mem _ (hin j hj e)
end DL

namespace DL
open PySem PySem.Spec PyProof.Rows L2
def NIs (h : Heap) (k : NestedKey) (a : Addr) : Prop := NestedIs h k (.ref a) ∧ k.depth ≤ 8
section
variable {P : Program} {w : World} {A : Around} {E : Value → Shared → Prop} {s : Shared}
mutual
theorem ofA_key : ∀ (k : NestedKey) (v : Value) (n : Nat) (A : Around) (Q : Bool → Shared → Prop), NestedIs s.heap k v → k.depth ≤ n → Q false s → wpAny (model P w) A (ofAClassStatement n v) Q E s
  | .none, _, n, A, Q, x, _, h => by cases x; cases n <;> exact wpAny_pure h
  | .num i, _, n, A, Q, x, _, h => by cases x <;> cases n <;> exact wpAny_pure h
  | .text y, _, n, A, Q, x, _, h => by cases x; cases n <;> exact wpAny_pure h
  | .tup ks, _, 0, A, Q, x, hn, h => by simp [NestedKey.depth] at hn
  | .tup ks, _, n + 1, A, Q, x, hn, h => by
    cases x with
    | @tup a o vs m _ ho hc hd hk =>
      simp only [NestedKey.depth] at hn
      unfold ofAClassStatement
      refine wpAny_bind (wpAny_typeOf (T := "tuple") ⟨o, ho, hc⟩ ?_)
      dsimp only
      have e : (("tuple" : String) == "tuple") = true := by decide
      simp only [e, if_true, Bool.not_true, Bool.false_eq_true, if_false]
      refine wpAny_bind (wpAny_pure ?_)
      simp only [Bool.not_true, Bool.false_eq_true, if_false]
      show wpAny _ _ (seqItems? (.ref a) >>= _) _ _ s
      refine wpAny_bind (wpAny_seqItems ho hd ?_)
      dsimp only
      refine wpAny_bind ?_
      show wpAny _ _ (forIn vs _ _) _ _ s
      rw [← Array.forIn_toList]
      refine wpAny_forIn_list _ (fun rest r s' => r.1 = none ∧ s' = s ∧ ∀ v ∈ rest, ∀ (A : Around) (Q : Bool → Shared → Prop), Q false s → wpAny (model P w) A (ofAClassStatement n v) Q E s) _ ?_ ?_ _ _ ⟨rfl, rfl, fun v hv A Q hq => ofA_keys ks vs.toList n A Q v hv hk (by omega) hq⟩
      · rintro v rest r s' ⟨hr, rfl, hall⟩
        refine wpAny_bind (hall v List.mem_cons_self _ _ ?_)
        simp only [Bool.false_eq_true, if_false]
        exact wpAny_pure ⟨rfl, rfl, fun u hu => hall u (List.mem_cons_of_mem _ hu)⟩
      · rintro ⟨r1, r2⟩ s' ⟨hr, rfl, _⟩
        simp only at hr
        subst hr
        exact wpAny_pure h
theorem ofA_keys : ∀ (ks : List NestedKey) (vs : List Value) (n : Nat) (A : Around) (Q : Bool → Shared → Prop), ∀ v ∈ vs, NestedAll s.heap ks vs → NestedKey.depthAll ks ≤ n → Q false s → wpAny (model P w) A (ofAClassStatement n v) Q E s
  | [], _, n, A, Q, v, hv, x, _, _ => by cases x; cases hv
  | k :: ks, _, n, A, Q, v, hv, x, hn, h => by
    cases x with
    | cons x1 x2 =>
      simp only [NestedKey.depthAll] at hn
      rcases List.mem_cons.mp hv with e | hv
      · rw [e]; exact ofA_key k _ n A Q x1 (by omega) h
      · exact ofA_keys ks _ n A Q v hv x2 (by omega) h
end
mutual
theorem hashBy_key : ∀ (k : NestedKey) (v : Value) (n : Nat) (A : Around) (Q : Bool → Shared → Prop), NestedIs s.heap k v → k.depth ≤ n → (∀ b, Q b s) → wpAny (model P w) A (hashByValue n v) Q E s
  | .none, _, n, A, Q, x, _, h => by cases x; cases n <;> exact wpAny_pure (h _)
  | .num i, _, n, A, Q, x, _, h => by cases x <;> cases n <;> exact wpAny_pure (h _)
  | .text y, _, n, A, Q, x, _, h => by cases x; cases n <;> exact wpAny_pure (h _)
  | .tup ks, _, 0, A, Q, x, hn, h => by simp [NestedKey.depth] at hn
  | .tup ks, _, n + 1, A, Q, x, hn, h => by
    cases x with
    | @tup a o vs m _ ho hc hd hk =>
      simp only [NestedKey.depth] at hn
      unfold hashByValue
      refine wpAny_bind (wpAny_specialOf (T := "tuple") ⟨o, ho, hc⟩ F.slot_tuple_hash.lookup ?_)
      show wpAny _ _ (seqItems? (.ref a) >>= _) _ _ s
      refine wpAny_bind (wpAny_seqItems ho hd ?_)
      refine wpAny_bind ?_
      show wpAny _ _ (forIn vs _ _) _ _ s
      rw [← Array.forIn_toList]
      refine wpAny_forIn_list _ (fun rest r s' => s' = s ∧ ∀ v ∈ rest, ∀ (A : Around) (Q : Bool → Shared → Prop), (∀ b, Q b s) → wpAny (model P w) A (hashByValue n v) Q E s) _ ?_ ?_ _ _ ⟨rfl, fun v hv A Q hq => hashBy_keys ks vs.toList n A Q v hv hk (by omega) hq⟩
      · rintro v rest r s' ⟨rfl, hall⟩
        refine wpAny_bind (hall v List.mem_cons_self _ _ fun b => ?_)
        cases b
        · exact wpAny_pure (wpAny_pure (h _))
        · exact wpAny_pure ⟨rfl, fun u hu => hall u (List.mem_cons_of_mem _ hu)⟩
      · rintro ⟨r1, r2⟩ s' ⟨rfl, _⟩
        cases r1 <;> exact wpAny_pure (h _)
theorem hashBy_keys : ∀ (ks : List NestedKey) (vs : List Value) (n : Nat) (A : Around) (Q : Bool → Shared → Prop), ∀ v ∈ vs, NestedAll s.heap ks vs → NestedKey.depthAll ks ≤ n → (∀ b, Q b s) → wpAny (model P w) A (hashByValue n v) Q E s
  | [], _, n, A, Q, v, hv, x, _, _ => by cases x; cases hv
  | k :: ks, _, n, A, Q, v, hv, x, hn, h => by
    cases x with
    | cons x1 x2 =>
      simp only [NestedKey.depthAll] at hn
      rcases List.mem_cons.mp hv with e | hv
      · rw [e]; exact hashBy_key k _ n A Q x1 (by omega) h
      · exact hashBy_keys ks _ n A Q v hv x2 (by omega) h
end
abbrev AK := Addr × NestedKey
def nrow (w : World) (p : AK) : Int × Value := (p.2.hash w, Value.ref p.1)
abbrev nhash (w : World) (p : AK) : Int := p.2.hash w
structure NSet (w : World) (h : Heap) (a : Addr) (L : List AK) (es : Array (Int × Value)) (ep : Nat) (t : SetTable) : Prop where
  ob : ∃ o, h.get? a = some o ∧ o.ExactSet ∧ o.data = .set es ep t
  rows : es.toList = L.map (nrow w)
  tab : NTab t (L.map (nhash w))
  nd : (L.map (·.2)).Nodup
  tup : ∀ p ∈ L, NIs h p.2 p.1
  led : w.params.followText "set-order" = true ∨ t.led = true
  room : L.length * 5 < t.mask * 3
variable {a : Addr} {L : List AK} {es : Array (Int × Value)} {ep : Nat} {t : SetTable}
theorem NSet.size (R : NSet w s.heap a L es ep t) : es.size = L.length := by
  rw [← Array.length_toList, R.rows, List.length_map]
theorem NSet.psz (R : NSet w s.heap a L es ep t) : t.place.size = L.length := by
  have := R.tab.sz
  rwa [List.length_map, Array.length_toList] at this
theorem NSet.fits (R : NSet w s.heap a L es ep t) : t.fits es.size = true := by
  have h1 := R.psz
  have h2 := R.size
  have h3 := R.room
  unfold SetTable.fits SetTable.fill
  rw [R.tab.dm, Bool.and_eq_true, beq_iff_eq, decide_eq_true_eq]
  show t.place.size = es.size ∧ t.place.size + 0 ≤ t.mask
  omega
theorem NIs.same {h h' : Heap} {k : NestedKey} {a b : Addr} {o : Obj} {es : Array (Int × Value)} {ep : Nat} {t : SetTable} (hb : NIs h k b) (ho : h.get? a = some o) (hd : o.data = .set es ep t) (hs : Heap.SameBut a h h') : NIs h' k b :=
  ⟨NestedIs.at (fun c oc vs n hc hdc => by
    refine (hs.2 c fun e => ?_).trans hc
    subst e
    rw [ho] at hc
    cases hc
    rw [hd] at hdc
    cases hdc) k _ hb.1, hb.2⟩
end
end DL

namespace DL
open PySem PySem.Spec PyProof.Rows L2
structure NGot (ks : List AK) (i : Nat) (L : List AK) : Prop where
  sub : ∀ p ∈ L, p ∈ ks.take i
  all : ∀ p ∈ ks.take i, p.2 ∈ L.map (·.2)
  len : L.length ≤ i
theorem NGot.same {ks L : List AK} {i : Nat} {x : AK} (g : NGot ks i L) (h : ks[i]? = some x) (hm : x.2 ∈ L.map (·.2)) : NGot ks (i + 1) L := by
  have e := take_next h
  refine ⟨fun p hp => by rw [e]; exact List.mem_append_left _ (g.sub p hp), fun p hp => ?_, Nat.le_succ_of_le g.len⟩
  rw [e] at hp
  rcases List.mem_append.mp hp with z | z
  · exact g.all p z
  · rw [List.mem_singleton.mp z]; exact hm
theorem NGot.more {ks L L' : List AK} {i : Nat} {x : AK} (g : NGot ks i L) (h : ks[i]? = some x) (pm : L'.Perm (x :: L)) : NGot ks (i + 1) L' := by
  have e := take_next h
  refine ⟨fun p hp => ?_, fun p hp => ?_, by rw [pm.length_eq, List.length_cons]; exact Nat.succ_le_succ g.len⟩
  · rw [e]
    rcases List.mem_cons.mp (pm.mem_iff.mp hp) with rfl | z
    · exact List.mem_append_right _ (List.mem_singleton.mpr rfl)
    · exact List.mem_append_left _ (g.sub p z)
  · rw [(pm.map (·.2)).mem_iff, List.map_cons]
    rw [e] at hp
    rcases List.mem_append.mp hp with z | z
    · exact List.mem_cons_of_mem _ (g.all p z)
    · rw [List.mem_singleton.mp z]; exact List.mem_cons_self
section
variable {P : Program} {w : World} {A : Around} {E : Value → Shared → Prop} {s : Shared}
theorem NIs.keep {h h' : Heap} {k : NestedKey} {b : Addr} (x : NIs h k b) (hk : ∀ c o, h.get? c = some o → h'.get? c = some o) : NIs h' k b :=
  ⟨NestedIs.at (fun c o _ _ hc _ => hk c o hc) k _ x.1, x.2⟩
theorem NSet.keep {h h' : Heap} {a : Addr} {L : List AK} {es : Array (Int × Value)} {ep : Nat} {t : SetTable} (R : NSet w h a L es ep t) (ha : ∀ o, h.get? a = some o → h'.get? a = some o) (ht : ∀ p ∈ L, NIs h' p.2 p.1) : NSet w h' a L es ep t := by
  obtain ⟨o, ho, r⟩ := R.ob
  exact ⟨⟨o, ha o ho, r⟩, R.rows, R.tab, R.nd, ht, R.led, R.room⟩
set_option maxHeartbeats 8000000 in
set_option maxHeartbeats 8000000 in
end
end DL

namespace DL
open PySem PySem.Spec PyProof.Rows L2 PySem.W
section
variable {cl : Cl} {X : Cx} {E : XK}
abbrev Tn := AK × D
structure TnOk (K : PySem.W.Frag) (m : List Addr) (H : Hp) (x : Tn) : Prop where
  rv : RV K m H x.2 (.ref x.1.1)
  nk : nkey x.2 = some x.1.2
  dp : x.1.2.depth ≤ 8
open Classical in
end
end DL

namespace DL
open PySem PySem.Spec PyProof.Rows L2
section
variable {cl : Cl} {X : Cx} {E : XK}
end
end DL

namespace DL
open PySem PySem.Spec PyProof.Rows L2
section
variable {cl : Cl} {X : Cx} {E : XK}
end
end DL

namespace DL
open PySem PySem.Spec PyProof.Rows L2
def sDead : Sl → Sto → Res Fl := fun _ _ => .stuck
theorem dss_dead {cl : Cl} {X : Cx} {E : XK} {sts : List Stmt} : DSs cl X E sts sDead := ⟨_, pss_never, fun m S H sd σ D rs rl h => h.elim⟩
section
variable {cl : Cl} {X : Cx} {E : XK}
end
end DL

namespace DL
open PySem PySem.Spec PyProof.Rows L2 PySem.W
section
variable {cl : Cl} {X : Cx} {E : XK}
open Classical in
end
end DL

namespace DL
open PySem PySem.Spec PyProof.Rows L2
def PinsAt (C : List Addr) (H : Hp) : Prop := ∀ c ∈ C, ∃ (o : Obj) (w : Option Value), H c = some (PinO c o) ∧ o.data = .cell w
def dropC (C : List Addr) (H : Hp) : Hp := fun a => if a ∈ C then none else H a
def backC (C : List Addr) (H0 H : Hp) : Hp := fun a => if a ∈ C then H0 a else H a
section
variable {C : List Addr} {H H0 : Hp} {a : Addr} {u : HO}
theorem dropC_in (h : a ∈ C) : dropC C H a = none := if_pos h
theorem dropC_out (h : a ∉ C) : dropC C H a = H a := if_neg h
theorem backC_in (h : a ∈ C) : backC C H0 H a = H0 a := if_pos h
theorem backC_out (h : a ∉ C) : backC C H0 H a = H a := if_neg h
theorem dropC_none (h : H a = none) : dropC C H a = none := by
  unfold dropC
  split
  · rfl
  · exact h
theorem dropC_some (h : dropC C H a = some u) : a ∉ C ∧ H a = some u := by
  unfold dropC at h
  split at h
  · cases h
  · rename_i n; exact ⟨n, h⟩
theorem PinsAt.no (p : PinsAt C H) (e : H a = some u) (n : ∀ o φ, u ≠ .frz o (.ext φ)) : a ∉ C := fun z => by
  obtain ⟨o, w, e1, _⟩ := p a z
  rw [e] at e1
  cases e1
  exact n _ _ rfl
theorem PinsAt.noF {o : Obj} {v : HO} (p : PinsAt C H) (e : H a = some (.frz o v)) (n : ∀ w, o.data ≠ .cell w) : a ∉ C := fun z => by
  obtain ⟨o', w, e1, e2⟩ := p a z
  rw [e] at e1
  cases e1
  exact n _ e2
theorem PinsAt.noN (p : PinsAt C H) (e : H a = none) : a ∉ C := fun z => by
  obtain ⟨o', w, e1, e2⟩ := p a z
  rw [e] at e1
  cases e1
theorem drop_at (p : PinsAt C H) (e : H a = some u) (n : ∀ o φ, u ≠ .frz o (.ext φ)) : dropC C H a = some u := by
  rw [dropC_out (p.no e n)]; exact e
theorem drop_fn {o : Obj} {v : HO} (p : PinsAt C H) (e : H a = some (.frz o v)) (n : ∀ w, o.data ≠ .cell w) : dropC C H a = some (.frz o v) := by
  rw [dropC_out (p.noF e n)]; exact e
theorem code_nx {c : Addr} {q : Str} : ∀ (o : Obj) (φ : Heap → Prop), LamX.CodeO c q ≠ .frz o (.ext φ) := fun _ _ z => by
  unfold LamX.CodeO at z; cases z
end
section
variable {cl : Cl} {K : PySem.W.Frag} {m : List Addr} {H : Hp} {C : List Addr} {S : Sto}
theorem sqT_drop {a : Addr} {xs : List V} (p : PinsAt C H) (h : SqT K H a xs) : SqT K (dropC C H) a xs := by
  rcases h with (h | ⟨o, h⟩) | h
  · exact .inl (.inl (drop_at p h fun _ _ z => by cases z))
  · exact .inl (.inr ⟨o, drop_at p h fun _ _ z => by cases z⟩)
  · exact .inr h
theorem Fz.drop {a : Addr} {xs : List V} (p : PinsAt C H) (h : Fz K H a xs) : Fz K (dropC C H) a xs := by
  rcases h with ⟨o, h⟩ | h
  · exact .inl ⟨o, drop_at p h fun _ _ z => by cases z⟩
  · exact .inr h
mutual
theorem RV.drp (p : PinsAt C H) : ∀ (d : D) {v : V}, RV K m H d v → RV K m (dropC C H) d v
  | .non, _, h => h
  | .bl _, _, h => h
  | .int _, _, h => h
  | .str _, _, h => h
  | .tup ds, _, ⟨a, vs, e, s, r⟩ => ⟨a, vs, e, sqT_drop p s, RVs.drp p ds r⟩
  | .frl ds, _, ⟨a, vs, e, s, r⟩ => ⟨a, vs, e, s.drop p, RVs.drp p ds r⟩
  | .ref l, _, h => h
  | .exn a dd ns ds, _, ⟨e, vs, r, h⟩ => ⟨e, vs, RVs.drp p ds r, fun n => drop_at p (h n) fun _ _ z => by cases z⟩
theorem RVs.drp (p : PinsAt C H) : ∀ (ds : List D) {vs : List V}, RVs K m H ds vs → RVs K m (dropC C H) ds vs
  | [], _, h => h
  | d :: ds, _, ⟨v, vs', e, r, t⟩ => ⟨v, vs', e, RV.drp p d r, RVs.drp p ds t⟩
end
theorem RF.drop (p : PinsAt C H) : ∀ {fs : List (Str × D)} {gs : List (Str × V)}, RF K m H fs gs → RF K m (dropC C H) fs gs
  | [], _, h => h
  | _ :: _, _, ⟨v, gs', e, r, t⟩ => ⟨v, gs', e, RV.drp p _ r, RF.drop p t⟩
theorem RD0.drop (p : PinsAt C H) : ∀ {fs : List (D × D)} {gs : List (Key × V)}, RD0 K m H fs gs → RD0 K m (dropC C H) fs gs
  | [], _, h => h
  | _ :: _, _, ⟨q, v, gs', e, hk, r, t⟩ => ⟨q, v, gs', e, hk, RV.drp p _ r, RD0.drop p t⟩
theorem RD1.drop (p : PinsAt C H) : ∀ {fs : List (D × D)} {gs : List (List Key × V)}, RD1 K m H fs gs → RD1 K m (dropC C H) fs gs
  | [], _, h => h
  | _ :: _, _, ⟨q, v, gs', e, hk, r, t⟩ => ⟨q, v, gs', e, hk, RV.drp p _ r, RD1.drop p t⟩
theorem RD2.drop (p : PinsAt C H) : ∀ {fs : List (D × D)} {xs : List (NestedKey × Addr × Value)}, RD2 K m H fs xs → RD2 K m (dropC C H) fs xs
  | [], _, h => h
  | _ :: _, _, ⟨q, b, v, u, xs', e, hk, hd, r1, r2, r3, t⟩ => ⟨q, b, v, u, xs', e, hk, hd, RV.drp p _ r1, RV.drp p _ r2, r3, RD2.drop p t⟩
abbrev Cl.at_ (cl : Cl) (H : Hp) : Cl := ⟨cl.f, cl.T, cl.hh, fun i _ o => ∀ H', Keep H H' → cl.lam i H' o, fun i vs _ o => ∀ H', Keep H H' → cl.lmb i vs H' o⟩
structure NoC (cl : Cl) : Prop where
  lam : ∀ i H o, cl.lam i H o → ∀ w, o.data ≠ .cell w
  lmb : ∀ i vs H o, cl.lmb i vs H o → ∀ w, o.data ≠ .cell w
theorem RO.drop {P : Program} {w : World} {h : Heap} (p : PinsAt C H) (nc : NoC cl) (hok : HOk P w H h) {a : Addr} : ∀ {o : DO}, RO cl K m H o a → RO (cl.at_ H) K m (dropC C H) o a
  | .lst ds, ⟨vs, e, r⟩ => ⟨vs, drop_at p e (fun _ _ z => by cases z), RVs.drp p _ r⟩
  | .dic 0 kvs, ⟨gs, e, r⟩ => ⟨gs, drop_at p e (fun _ _ z => by cases z), r.drop p⟩
  | .dic 1 kvs, ⟨gs, e, r⟩ => ⟨gs, drop_at p e (fun _ _ z => by cases z), r.drop p⟩
  | .dic 2 kvs, ⟨xs, es, ep, e, e1, e2, e3, r⟩ => ⟨xs, es, ep, drop_at p e (fun _ _ z => by unfold RawO at z; cases z), e1, e2, e3, r.drop p⟩
  | .dic 3 kvs, ⟨gs, o, e, r⟩ => ⟨gs, o, drop_at p e (fun _ _ z => by cases z), r.drop p⟩
  | .dic 4 kvs, ⟨ds, o, vs, e0, e, e1, e2, r⟩ => ⟨ds, o, vs, e0, drop_at p e (fun _ _ z => by cases z), e1, e2, RVs.drp p _ r⟩
  | .dic 5 kvs, ⟨i, o, u, e0, e, r⟩ => ⟨i, o, u, e0, drop_fn p e (nc.lam _ _ _ (r H (Keep.refl H))), fun H' _ => r⟩
  | .dic 6 kvs, ⟨xs, es, ep, o, e, e1, e2, e3, r⟩ => ⟨xs, es, ep, o, drop_fn p e (fun w z => by
      obtain ⟨g1, ⟨o2, g2, _, g3⟩, _⟩ := hok a _ e
      rw [g1] at g2
      cases g2
      rw [g3] at z
      cases z), e1, e2, e3, r.drop p⟩
  | .dic 7 kvs, ⟨i, ds, vs, o, u, e0, e, r, q⟩ => ⟨i, ds, vs, o, u, e0, drop_fn p e (nc.lmb _ _ _ _ (q H (Keep.refl H))), RVs.drp p _ r, fun H' _ => q⟩
  | .dic (_ + 8) kvs, h => h.elim
  | .ins c fs, ⟨dx, gs, e, r⟩ => ⟨dx, gs, drop_at p e (fun _ _ z => by cases z), r.drop p⟩
  | .dead, ⟨o, u, e⟩ => ⟨o, u, drop_at p e (fun _ _ z => by cases z)⟩
theorem RS.drop {P : Program} {w : World} {h : Heap} (p : PinsAt C H) (nc : NoC cl) (hok : HOk P w H h) (rs : RS cl K m S H) : RS (cl.at_ H) K m S (dropC C H) :=
  ⟨rs.len, rs.nd, fun l o a h1 h2 => (rs.obj l o a h1 h2).drop p nc hok, fun q hq => by
    obtain ⟨ps, h1, h2, h3⟩ := rs.tb q hq
    refine ⟨ps, drop_at p h1 (fun _ _ z => by cases z), h2, fun pos cv hc => ?_⟩
    obtain ⟨c, e1, e2⟩ := h3 pos cv hc
    exact ⟨c, e1, drop_at p e2 code_nx⟩⟩
theorem RO.wk {lm : Nat → Hp → Obj → Prop} {lb : Nat → List V → Hp → Obj → Prop} (h5 : ∀ i H' o, Keep H H' → cl.lam i H' o → lm i H' o) (h7 : ∀ i vs H' o, Keep H H' → cl.lmb i vs H' o → lb i vs H' o) {a : Addr} :
    ∀ {o : DO}, RO cl K m H o a → RO ⟨cl.f, cl.T, cl.hh, lm, lb⟩ K m H o a
  | .lst _, r => r
  | .dic 0 _, r => r
  | .dic 1 _, r => r
  | .dic 2 _, r => r
  | .dic 3 _, r => r
  | .dic 4 _, r => r
  | .dic 5 _, ⟨i, o, u, e0, e, r⟩ => ⟨i, o, u, e0, e, fun H' k => h5 _ _ _ k (r H' k)⟩
  | .dic 6 _, r => r
  | .dic 7 _, ⟨i, ds, vs, o, u, e0, e, r, q⟩ => ⟨i, ds, vs, o, u, e0, e, r, fun H' k => h7 _ _ _ _ k (q H' k)⟩
  | .dic (_ + 8) _, r => r.elim
  | .ins _ _, r => r
  | .dead, r => r
theorem keep_back {H2 : Hp} (z : ∀ c ∈ C, H2 c = none) : Keep H2 (backC C H H2) := fun a o e _ => by
  rw [backC_out fun h => by rw [z a h] at e; cases e]; exact e
theorem keep_back0 {H2 : Hp} (p : PinsAt C H) (k : Keep (dropC C H) H2) : Keep H (backC C H H2) := fun a o e i => by
  by_cases h : a ∈ C
  · rw [backC_in h]; exact e
  · rw [backC_out h]; exact k a o (by rw [dropC_out h]; exact e) i
theorem RS.back_ {H2 : Hp} (p : PinsAt C H) (k : Keep (dropC C H) H2) (z : ∀ c ∈ C, H2 c = none) (rs : RS (cl.at_ H) K m S H2) : RS cl K m S (backC C H H2) := by
  have same : ∀ b o, H2 b = some o → backC C H H2 b = some o := fun b o e => by
    rw [backC_out fun h => by rw [z b h] at e; cases e]; exact e
  refine ⟨rs.len, rs.nd, fun l o a h1 h2 => ?_, rs.tb.ext same⟩
  have ro := rs.obj l o a h1 h2
  obtain ⟨u, hu, _⟩ := ro.any
  have r2 := RO.mono (Ext.refl m) (keep_back (H := H) z) (by rw [hu]; exact same a u hu) ro
  exact RO.wk (cl := cl.at_ H) (fun i H' o k2 q => q H' ((keep_back0 p k).trans k2)) (fun i vs H' o k2 q => q H' ((keep_back0 p k).trans k2)) r2
theorem RX.keep {H2 : Hp} {x : Exc} {dd : Option Addr} (k : Keep H H2) (h : RX K m H x dd) : RX K m H2 x dd := by
  unfold RX at h ⊢
  split at h
  · exact h
  · obtain ⟨d, gs, e, e1, r⟩ := h
    exact ⟨d, gs, e, k _ _ e1 trivial, r.mono (Ext.refl m) k⟩
end
end DL

namespace DL
open PySem PySem.Spec PyProof.Rows L2
section
variable {P : Program} {w : World} {C : List Addr} {H H2 : Hp} {h h2 : Heap} {fs : List Addr}
theorem PinsAt.get (p : PinsAt C H) (ok : HOk P w H h) {c : Addr} (hc : c ∈ C) : ∃ (o : Obj) (v : Option Value), H c = some (PinO c o) ∧ h.get? c = some o ∧ o.data = .cell v := by
  obtain ⟨o, v, e, d⟩ := p c hc
  exact ⟨o, v, e, (ok c _ e).1, d⟩
theorem hok_drop (p : PinsAt C H) (ok : HOk P w H h) : HOk P w (dropC C H) h := fun a o e => by
  obtain ⟨n, e⟩ := dropC_some e
  exact (ok a o e).stay (fun _ _ _ q => q) (fun b q => drop_at p q fun _ _ z => by cases z) fun b xs q => drop_at p q fun _ _ z => by cases z
theorem hok_back (p : PinsAt C H) (z : ∀ c ∈ C, H2 c = none) (g : ∀ c ∈ C, ∀ o, H c = some (PinO c o) → h2.get? c = some o) (ok : HOk P w H2 h2) : HOk P w (backC C H H2) h2 := fun a o e => by
  have same : ∀ b u, H2 b = some u → backC C H H2 b = some u := fun b u q => by
    rw [backC_out fun hb => by rw [z b hb] at q; cases q]; exact q
  by_cases ha : a ∈ C
  · rw [backC_in ha] at e
    obtain ⟨o', w', e1, _⟩ := p a ha
    rw [e1] at e
    cases e
    exact pin_ok (g a ha o' e1)
  · rw [backC_out ha] at e
    exact (ok a o e).stay (fun _ _ _ q => q) (fun b q => same _ _ q) fun b xs q => same _ _ q
theorem un_zero (p : PinsAt C H) (ok : HOk P w H h) (un : Un fs [] (dropC C H) H2 h h2) : ∀ c ∈ C, H2 c = none := fun c hc => by
  obtain ⟨o, v, _, g, _⟩ := p.get ok hc
  exact un.free c o g (dropC_in hc) (by simp)
theorem un_back (p : PinsAt C H) (ok : HOk P w H h) (un : Un fs [] (dropC C H) H2 h h2) : Un fs [] H (backC C H H2) h h2 := by
  refine ⟨fun b o e n hb hx => un.keep b o e (dropC_none n) hb hx, fun b o e n hb hx => un.slot b o e (dropC_none n) hb hx, fun b o e n hx => ?_, un.there, fun b xs e => ?_, fun b o u e => ?_, fun b ps e => ?_⟩
  · rw [backC_out (p.noN n)]
    exact un.free b o e (dropC_none n) hx
  · rw [backC_out (p.no e fun _ _ z => by cases z)]
    exact un.tups b xs (drop_at p e fun _ _ z => by cases z)
  · by_cases hb : b ∈ C
    · rw [backC_in hb]; exact e
    · rw [backC_out hb]; exact un.frzs b o u (by rw [dropC_out hb]; exact e)
  · obtain ⟨more, q⟩ := un.tbls b ps (drop_at p e fun _ _ z => by cases z)
    exact ⟨more, by rw [backC_out (p.no e fun _ _ z => by cases z)]; exact q⟩
def backX (C : List Addr) (H : Hp) (E : XK) : XK := fun cls d H' => (∀ c ∈ C, H' c = none) → E cls d (backC C H H')
theorem cx_back {outer : List Env} {s : Shared} {E : XK} {u : Value} {s' : Shared} (p : PinsAt C H) (ok : HOk P w H s.heap) (nf : ∀ b ∈ frs outer, H b = none) (c : L2.CX P w outer (dropC C H) s (backX C H E) u s') : L2.CX P w outer H s E u s' := by
  obtain ⟨a, B, H', cls, d, rfl, fl, hok, ub, na, os, ag, hE⟩ := c
  have z : ∀ c ∈ C, H' c = none := fun c hc => by
    obtain ⟨o, v, _, g, _⟩ := p.get ok hc
    exact ub.free c o g (dropC_in hc)
  have kB : ∀ c ∈ C, ∀ o, H c = some (PinO c o) → B.get? c = some o := fun c hc o e => by
    refine ub.keep c o (ok c _ e).1 (dropC_in hc) fun hb => ?_
    rw [nf c hb] at e; cases e
  refine ⟨a, B, backC C H H', cls, d, rfl, fl, hok_back p z kB hok, ?_, ?_, os, ag, hE z⟩
  · refine ⟨fun b o e n hb => ub.keep b o e (dropC_none n) hb, ub.slot, fun b o e n => ?_, ub.there, fun b xs e => ?_, fun b o u e => ?_, fun b ps e => ?_⟩
    · rw [backC_out (p.noN n)]
      exact ub.free b o e (dropC_none n)
    · rw [backC_out (p.no e fun _ _ z => by cases z)]
      exact ub.tups b xs (drop_at p e fun _ _ z => by cases z)
    · by_cases hb : b ∈ C
      · rw [backC_in hb]; exact e
      · rw [backC_out hb]; exact ub.frzs b o u (by rw [dropC_out hb]; exact e)
    · obtain ⟨more, q⟩ := ub.tbls b ps (drop_at p e fun _ _ z => by cases z)
      exact ⟨more, by rw [backC_out (p.no e fun _ _ z => by cases z)]; exact q⟩
  · by_cases ha : a ∈ C
    · obtain ⟨o, v, e, g, _⟩ := p.get ok ha
      have := kB a ha o e
      rw [fl.2.1] at this
      cases this
    · rw [backC_out ha]; exact na
end
structure CloV (scope : Scope) (caps : List Str) (vs : List V) (H : Hp) (clo : List (Str × Addr)) : Prop where
  pin : PinsAt (clo.map Prod.snd) H
  val : ∀ (j : Nat) (x : Str) (v : V) (c : Addr), caps[j]? = some x → vs[j]? = some v → clo.lookup x = some c → ∃ (o : Obj) (u : Value), H c = some (PinO c o) ∧ o.data = .cell (some u) ∧ RelV v u
  inj : ∀ x y c, clo.lookup x = some c → clo.lookup y = some c → x = y
  has : ∀ y ∈ scope.names, y.2 = .free → ∃ c, clo.lookup y.1 = some c
  len : vs.length = caps.length
theorem CloV.keep {scope : Scope} {caps : List Str} {vs : List V} {H H' : Hp} {clo : List (Str × Addr)} (k : Keep H H') (V : CloV scope caps vs H clo) : CloV scope caps vs H' clo :=
  ⟨fun c hc => let ⟨o, w, e, d⟩ := V.pin c hc; ⟨o, w, k _ _ e trivial, d⟩, fun j x v c h1 h2 h3 => let ⟨o, u, e, d, r⟩ := V.val j x v c h1 h2 h3; ⟨o, u, k _ _ e trivial, d, r⟩, V.inj, V.has, V.len⟩
def LamB (tab : List LamI) (caps : List Str) : Nat → List V → Hp → Obj → Prop := fun i vs H o => ∃ I clo, tab[i]? = some I ∧ LamIs I clo H o ∧ CloV I.scope caps vs H clo
abbrev lbEnv (q : Str) (clo : List (Str × Addr)) (scope : Scope) (L f c' : Addr) : Env := PySem.W.envX q scope L f (.ref c') clo
def lbCx (X : Cx) (N : List Str) (q : Str) (clo : List (Str × Addr)) (A : Around) (outer : List Env) (s : Shared) (H : Hp) (E : XK) (scope : Scope) (f c' : Addr) : Cx where
  prog := X.prog
  w := X.w
  K := X.K
  mg := X.mg
  base := X.base
  A := A.deeper (lbEnv q clo scope s.heap.objs.size f c')
  N := N
  s_0 := s
  H_0 := H
  env := lbEnv q clo scope s.heap.objs.size f c'
  outer := outer
  stack := lbEnv q clo scope s.heap.objs.size f c' :: outer
  ex := []
  fn := fun _ => false
  calm := true
  pn := []
  xe := fun e s' => wpAny (model X.prog X.w) (A.deeper (lbEnv q clo scope s.heap.objs.size f c')) (leaving (lbEnv q clo scope s.heap.objs.size f c') e) (fun _ s'' => L2.CX X.prog X.w outer H s E e s'') (fun e' s'' => L2.CX X.prog X.w outer H s E e' s'') s'
section
variable {X : Cx}
theorem lb_start {A : Around} {outer : List Env} {E : XK} {N : List Str} {sc scope : Scope} {q : Str} {clo : List (Str × Addr)} {vs : List V} {f b : Addr} {hN : Heap} {tk : Nat} {bs : List (Str × Value)} {HZ : Hp} {sE : Shared} (D : LamD N sc scope) (V : CloV scope N vs HZ clo) (e0 : Env0 X.prog X.w X.K X.mg X.base A outer sE HZ) (nh : A.handled = none)
    (ns : hN.Ns sE.heap.objs.size fun y => bs.reverse.lookup y) (kp : ∀ a o, sE.heap.get? a = some o → hN.get? a = some o) :
    Inv (lbCx X N q clo A outer sE (dropC (clo.map Prod.snd) HZ) E scope f b) [] (vs.map some) (dropC (clo.map Prod.snd) HZ) { sE with heap := hN, toks := tk } := by
  have none0 : ∀ a : Addr, a ∉ (lbCx X N q clo A outer sE (dropC (clo.map Prod.snd) HZ) E scope f b).ex := fun a z => absurd (show a ∈ ([] : List Addr) from z) (by simp)
  have mC : ∀ {y : Str} {a : Addr}, clo.lookup y = some a → a ∈ clo.map Prod.snd := fun {y a} e => List.mem_map.mpr ⟨(y, a), PySem.mem_of_lookup e, rfl⟩
  have fwd : ∀ {y}, scope.names.lookup y = some .free → ∃ a, clo.lookup y = some a := fun {y} e => V.has _ (PySem.mem_of_lookup e) rfl
  have ok : (lbCx X N q clo A outer sE (dropC (clo.map Prod.snd) HZ) E scope f b).Ok := by
    refine ⟨e0.mod, D.kd, rfl, rfl, Nat.le_refl _, fun y z a e1 e2 => V.inj y z a e1 e2, fun y hy => ?_, fun y a z _ => ?_, fun _ => nh, Around.frames_deeper e0.frames, .inr ⟨rfl, rfl⟩, fun a z => absurd z (none0 a), fun b o e => ⟨(e0.bs b o e).1, dropC_none (e0.bs b o e).2⟩, e0.bsz, fun a _ _ => none0 a, fun a z => absurd z (none0 a), e0.funs, fun b hb => dropC_none (e0.frf b hb)⟩
    · have hy : scope.names.lookup y = some .cell ∨ scope.names.lookup y = some .free := hy
      exact hy.elim (fun z => absurd rfl (D.nc _ (PySem.mem_of_lookup z))) fwd
    · exact absurd (show false = true from z) (by decide)
  refine ⟨ok, rfl, e0.bare, Un.kept kp, ⟨_, ns, fun i y v e1 e2 e3 => ?_⟩, fun y a e => ?_, (hok_drop V.pin e0.hok).fresh (Nat.le_refl _), fun y a e => dropC_in (mC e), fun q hq => absurd (show q ∈ ([] : List (Addr × Obj)) ++ [] from hq) (by simp), (hok_drop V.pin e0.hok).kept kp, ?_⟩
  · have e3 : Vis scope y := e3
    have e1 : N[i]? = some y := e1
    have e2 : vs[i]? = some v := by
      rw [List.getElem?_map] at e2
      cases hv : vs[i]? with
      | none => rw [hv] at e2; cases e2
      | some v' => rw [hv] at e2; cases e2; rfl
    rcases e3 with k | k | k
    · exact absurd (List.mem_of_getElem? e1) (D.nl _ (PySem.mem_of_lookup k) rfl)
    · exact absurd rfl (D.nc _ (PySem.mem_of_lookup k))
    · obtain ⟨a, ha⟩ := fwd k
      obtain ⟨o, u, g, d, r⟩ := V.val i y v a e1 e2 ha
      exact ⟨u, r, .inr ⟨.inr k, a, ha, o, kp _ _ (e0.hok a _ g).1, d⟩⟩
  · obtain ⟨o, v, g1, g2, d⟩ := V.pin.get e0.hok (mC e)
    exact ⟨v, o, kp _ _ g2, d⟩
  · show (vs.map some).length = N.length
    rw [List.length_map]
    exact V.len
variable {pins : List (Addr × Obj)} {σ : L2.St} {H : Hp} {s : Shared}
theorem lb_act {CXg : CXT} {Eg : XK} {N Ng : List Str} {sc : Scope} {qg : Str} {sg : Scope} {g f b : Addr} {cdg : Value} {I : LamI} {clo : List (Str × Addr)} {vs : List V} {o : Obj} {w : HO} {k i : Nat} {a : Str} {pn : List (Addr × Obj)} {xe : Value → Shared → Prop} {W : WX} {E : XK} {tb : XK → TE} {p1 p2 : Pos} {dV doc pm ctv : Value}
    (J : Inv X pins σ H s) (D : LamOk N sc I) (V : CloV I.scope N vs H clo) (fo : H f = some (.frz o w)) (eo : o = PySem.W.kdv_obj "<lambda>" I.qual I.params (.expr I.body) I.scope clo dV doc pm b ctv)
    (dv : match I.own with | none => dV = .none | some _ => ∃ t u g, dV = .ref t ∧ H t = some (.frz (PySem.W.kdv_tup [u]) g)) (hco : H b = some (LamX.CodeO b I.qual))
    (tk : Takes ((cxOf CXg X.prog X.w X.K X.mg X.base Ng qg sg g cdg X.A X.stack s H Eg).tr pn xe) W) (hW : ∀ cls d σ' H', E cls d H' → W cls d σ' H') (rm : Room (k + 1) (X.A.deeper (envOfC qg sg s.heap.objs.size g cdg)))
    (bd : ∀ (A : Around) (outer : List Env) (s : Shared) (H : Hp) (E : XK), Room k (A.deeper (lbEnv I.qual clo I.scope s.heap.objs.size f b)) → PE (lbCx X N I.qual clo A outer s H E I.scope f b) I.body (tb E))
    (nN : Ng[i]? = some a) (va : Vis sg a) (da : (a == ("__debug__" : Str)) = false := by decide) (ca : (a == ("__classdict__" : Str)) = false := by decide) :
    PE ((cxOf CXg X.prog X.w X.K X.mg X.base Ng qg sg g cdg X.A X.stack s H Eg).tr pn xe) (.Call (.Name a p1) [] [] p2)
      (fun σ2 H2 R => σ2[i]? = some (some (.ref f)) ∧ H2 b = some (LamX.CodeO b I.qual) ∧ (CloV I.scope N vs H2 clo → tb (backX (clo.map Prod.snd) H2 E) (vs.map some) (dropC (clo.map Prod.snd) H2) fun v H' => (∀ c ∈ clo.map Prod.snd, H' c = none) → R v (backC (clo.map Prod.snd) H2 H'))) := by
  refine ⟨fun pins2 s2 σ2 H2 R J2 hyp => ?_⟩
  obtain ⟨hs, hc, ht⟩ := hyp
  have rd := (pe_var (X := (cxOf CXg X.prog X.w X.K X.mg X.base Ng qg sg g cdg X.A X.stack s H Eg).tr pn xe) (pos := p1) (i := i) nN va da ca).run pins2 s2 σ2 H2 (fun v H1 => v = .ref f ∧ H1 = H2) J2 ⟨.ref f, hs, rfl, rfl⟩
  refine wpAny_Call_Name_kw (thn rd fun w' s3 ⟨v, H3, J3, rw3, eq3⟩ => ?_)
  obtain ⟨rfl, rfl⟩ := eq3
  obtain rfl : w' = Value.ref f := rw3
  have un3 : Un (frs X.stack) [] H H3 s.heap s3.heap := J3.base
  have fo3 : s3.heap.get? f = some o := (J3.hok f _ (un3.frzs _ _ _ fo)).1
  have V3 : CloV I.scope N vs H3 clo := ⟨fun c hc => let ⟨o, w, e, d⟩ := V.pin c hc; ⟨o, w, un3.frzs _ _ _ e, d⟩, fun j x v c h1 h2 h3 => let ⟨o, u, e, d, r⟩ := V.val j x v c h1 h2 h3; ⟨o, u, un3.frzs _ _ _ e, d, r⟩, V.inj, V.has, V.len⟩
  have dv3 : match I.own with | none => dV = .none | some _ => ∃ t u, dV = .ref t ∧ s3.heap.get? t = some (PySem.W.kdv_tup [u]) := by
    split
    · rename_i e0
      rw [e0] at dv
      exact dv
    · rename_i e0
      rw [e0] at dv
      obtain ⟨t, u, g, e1, e2⟩ := dv
      exact ⟨t, u, e1, (J3.hok t _ (un3.frzs _ _ _ e2)).1⟩
  have hbd : ∃ bs : List (Str × Value), (∀ y ∈ bs, I.scope.names.lookup y.1 = some .local) ∧ BindsTo s3 (PySem.W.kdv_fn "<lambda>" I.qual I.params (.expr I.body) I.scope clo dV doc pm (.ref b) ctv) ⟨[], []⟩ bs := by
    cases e0 : I.own with
    | none =>
      rw [e0] at dv3
      subst dv3
      exact ⟨[], fun y hy => (nomatch hy), D.bd0 e0 _ _ _ _ _ _⟩
    | some z =>
      rw [e0] at dv3
      obtain ⟨t, u, e1, e2⟩ := dv3
      subst e1
      exact ⟨[(z, u)], fun y hy => by rw [List.mem_singleton.mp hy]; exact D.loc z e0, D.bd1 z e0 _ _ _ _ _ _ _ _ e2⟩
  obtain ⟨bs, hbl, hbd⟩ := hbd
  rw [eo] at fo3
  refine PySem.W.callWith_F0 ⟨_, _, _, _, fo3⟩ ?_
  obtain ⟨⟨oc, vs', tt, hoc, hdc, hvc⟩, _, _⟩ := J3.hok b _ hc
  have nf : ∀ c ∈ frs (envOfC qg sg s.heap.objs.size g cdg :: X.stack), H3 c = none := J3.env0.frf
  have run : codeAny (model X.prog X.w) (X.A.deeper (envOfC qg sg s.heap.objs.size g cdg)) (.call (.ref f) ⟨[], []⟩) (CR (L2.CX X.prog X.w) (envOfC qg sg s.heap.objs.size g cdg :: X.stack) X.prog X.w H3 s3 R E) s3 := by
    refine PySem.W.kla_callFunE rm.depth fo3 rfl D.D.nco D.D.nge rfl ⟨b, oc, vs', tt, rfl, hoc, hdc, hvc⟩ (hbd _ _ _ _ ?_)
    refine wpAny_newFunctionEnv D.D.nc hbl (fun hN ns sb => ⟨J3.nolimit.fresh _ sb, ?_⟩) D.D.kd
    show codeAny _ _ (.expr I.body (lbEnv I.qual clo I.scope s3.heap.objs.size f b)) _ _
    have kp : ∀ d o, s3.heap.get? d = some o → hN.get? d = some o := fun d o e => sb.extBut d o (Nat.ne_of_lt (Heap.lt_size e)) (Heap.get?_push_of_some _ e)
    have JL := lb_start (X := X) (A := X.A.deeper (envOfC qg sg s.heap.objs.size g cdg)) (outer := envOfC qg sg s.heap.objs.size g cdg :: X.stack) (E := backX (clo.map Prod.snd) H3 E) (q := I.qual) (f := f) (b := b) (tk := s3.toks + bs.length) D.D V3 J3.env0 rm.hd ns kp
    refine PySem.W.kla_codeExpr (wpAny_mono ((bd _ _ s3 _ _ (rm.deeper _)).run [] _ _ _ _ JL (ht V3)) (fun v s4 hq => ?_) fun e s4 hq => wpAny_mono hq (fun _ s5 c => cx_back V3.pin J3.hok nf c) fun e' s5 c => cx_back V3.pin J3.hok nf c)
    obtain ⟨v', H4, J4, rv, q⟩ := hq
    have un4 : Un (frs (envOfC qg sg s.heap.objs.size g cdg :: X.stack)) [] (dropC (clo.map Prod.snd) H3) H4 s3.heap s4.heap := J4.base
    have z := un_zero V3.pin J3.hok un4
    refine ⟨v', backC (clo.map Prod.snd) H3 H4, J4.os, J4.bare, un_back V3.pin J3.hok un4, hok_back V3.pin z (fun c hc o e => ?_) J4.hok, rv, q z⟩
    exact un4.keep c o (J3.hok c _ e).1 (dropC_in hc) (fun hb => by rw [nf c hb] at e; cases e) (by simp)
  have hx : Passes (L2.CX X.prog X.w) ((cxOf CXg X.prog X.w X.K X.mg X.base Ng qg sg g cdg X.A X.stack s H Eg).tr pn xe) E := passes_call tk hW
  refine wpAny_call (codeAny_mono run fun r s4 hq => ?_)
  rcases r with e | fl
  · exact hx pins2 σ2 H3 s3 e s4 J3 hq
  · cases fl with
    | ret v => exact J3.after hq
    | _ => exact hq.elim
end
end DL

namespace DL
open PySem PySem.Spec PyProof.Rows L2
section
variable {cl : Cl} {X : Cx} {E : XK}
structure LamSetB (cl : Cl) (X : Cx) (N : List Str) (sc : Scope) (k : Nat) (fs : Nat → Option (Sl → Sto → Res D)) : Prop where
  nc : NoC cl
  all : ∀ (i : Nat) (fb : Sl → Sto → Res D), fs i = some fb → ∃ I : LamI, (∀ vs H o, cl.lmb i vs H o → ∃ clo, LamIs I clo H o ∧ CloV I.scope N vs H clo) ∧ LamOk N sc I ∧
    ∀ (H0 : Hp) (clo : List (Str × Addr)) (A : Around) (outer : List Env) (s : Shared) (H : Hp) (E : XK) (f c' : Addr), Cok (lbCx X N I.qual clo A outer s H E I.scope f c') E k → DE (cl.at_ H0) (lbCx X N I.qual clo A outer s H E I.scope f c') E I.body fb
theorem rsl_map {K : PySem.W.Frag} {m : List Addr} {H : Hp} {ds : List D} {vs : List V} (r : RVs K m H ds vs) : RSl K m H (ds.map some) (vs.map some) :=
  ⟨by rw [List.length_map, List.length_map, r.length], fun i d e => by
    rw [List.getElem?_map] at e
    cases hd : ds[i]? with
    | none => rw [hd] at e; cases e
    | some d' =>
      rw [hd] at e
      cases e
      obtain ⟨v, e1, e2⟩ := r.get hd
      exact ⟨v, by rw [List.getElem?_map, e1]; rfl, e2⟩⟩
end
structure PSsB (X : Cx) (sts : List Stmt) (t : (V → L2.St → Hp → Prop) → L2.St → Hp → Prop) : Prop where
  run : ∀ (pins : List (Addr × Obj)) (s : Shared) (σ : L2.St) (H : Hp) (R : V → L2.St → Hp → Prop), Inv X pins σ H s → t R σ H →
    wpAny (model X.prog X.w) X.A (execs sts X.env) (fun fl s' => ∃ u, fl = .ret u ∧ ∃ v σ' H', Inv X pins σ' H' s' ∧ RelV v u ∧ R v σ' H') X.xe s
section
variable {X : Cx} {E : XK} {cl : Cl}
theorem psb_cons {st : Stmt} {rest : List Stmt} {t1 : TS} {t2 : (V → L2.St → Hp → Prop) → L2.St → Hp → Prop} (h1 : PS X st t1) (h2 : PSsB X rest t2) : PSsB X (st :: rest) (fun R σ H => t1 { nx := fun σ' H' => t2 R σ' H', rt := fun _ _ => False } σ H) := by
  refine ⟨fun pins s σ H R J h => ?_⟩
  refine wpAny_execs_cons (thn (h1.run pins s σ H _ J h) fun f s1 q => ?_)
  cases f with
  | next =>
    obtain ⟨σ', H', J', q⟩ := q
    exact h2.run pins s1 σ' H' R J' q
  | ret v => obtain ⟨_, _, _, _, _, q⟩ := q; exact q.elim
  | brk => obtain ⟨_, _, _, q⟩ := q; exact q.elim
  | cont => obtain ⟨_, _, _, q⟩ := q; exact q.elim
theorem psb_ret {e : Expr} {te : TE} {pos : Pos} (he : PE X e te) : PSsB X [.Return (some e) pos] (fun R σ H => te σ H fun v H1 => R v σ H1) := by
  refine ⟨fun pins s σ H R J h => ?_⟩
  refine wpAny_execs_cons (wpAny_Return_some (thn (he.run pins s σ H _ J h) fun v s1 ⟨x, H1, J1, r1, q1⟩ => ?_))
  exact ⟨v, rfl, x, σ, H1, J1, r1, q1⟩
def RB (K : PySem.W.Frag) (m : List Addr) (H : Hp) (a : D × Sl) (b : V × L2.St) : Prop := RV K m H a.1 b.1 ∧ RSl K m H a.2 b.2
def DSsB (cl : Cl) (X : Cx) (E : XK) (sts : List Stmt) (f : Sl → Sto → Res (D × Sl)) : Prop :=
  ∃ t, PSsB X sts t ∧ ∀ m S H sd σ (R : V → L2.St → Hp → Prop), RS cl X.K m S H → RSl X.K m H sd σ → Post cl X.K (RB X.K) m H E (fun b => R b.1 b.2) (f sd S) → t R σ H
def sSeqB (f : Sl → Sto → Res Fl) (g : Sl → Sto → Res (D × Sl)) : Sl → Sto → Res (D × Sl) := fun sd S => (f sd S).bind fun fl S1 => match fl with
  | .nx sd1 => g sd1 S1
  | _ => .stuck
def sRetB (f : Sl → Sto → Res D) : Sl → Sto → Res (D × Sl) := fun sd S => (f sd S).bind fun d S1 => .ok (d, sd) S1
theorem dsb_ret {e : Expr} {f : Sl → Sto → Res D} {pos : Pos} (he : DE cl X E e f) : DSsB cl X E [.Return (some e) pos] (sRetB f) := by
  obtain ⟨t, p, hh⟩ := he
  refine ⟨_, psb_ret p, fun m S H sd σ R rs rl h => ?_⟩
  refine hh m S H sd σ _ rs rl (Post.bind h fun d S1 m1 v H1 x1 k1 rs1 rv1 h1 => ?_)
  exact h1 m1 (v, σ) H1 (Ext.refl _) (Keep.refl _) rs1 ⟨rv1, rl.mono x1 k1⟩
theorem dsb_cons {st : Stmt} {rest : List Stmt} {f : Sl → Sto → Res Fl} {g : Sl → Sto → Res (D × Sl)} (h1 : DS cl X E st f) (h2 : DSsB cl X E rest g) : DSsB cl X E (st :: rest) (sSeqB f g) := by
  obtain ⟨t, p, hh⟩ := h1
  obtain ⟨t2, p2, hh2⟩ := h2
  refine ⟨_, psb_cons p p2, fun m S H sd σ R rs rl h => ?_⟩
  refine hh m S H sd σ _ rs rl (Post.bind h fun fl S1 m1 v H1 x1 k1 rs1 rv1 h' => ?_)
  cases fl with
  | nx sd1 =>
    cases v with
    | nx σ1 => exact hh2 m1 S1 H1 sd1 σ1 R rs1 rv1 h'
    | _ => exact rv1.elim
  | ret d => exact h'.elim
  | brk d => exact h'.elim
  | cnt d => exact h'.elim
end
end DL

namespace DL
open PySem PySem.Spec PyProof.Rows L2
def capD : List Nat → Sl → Option (List D)
  | [], _ => some []
  | i :: is, sd => match sd[i]? with
    | some (some d) => (capD is sd).map (d :: ·)
    | _ => none
def convB (cs : List D) : DO → DO
  | .dic 5 [(.int i, .non)] => if 1000 ≤ i then .dic 7 [(.int (i - 1000), .tup cs)] else .dic 5 [(.int i, .non)]
  | o => o
def dFnB (n : Nat) (cap : List Nat) (f : Sl → Sto → Res (D × Sl)) : List D → Sto → Res D := fun ds S => match f (startD n ds) S with
  | .ok p S1 => (match capD cap p.2 with
    | some cs => .ok p.1 (S1.map (convB cs))
    | none => .stuck)
  | _ => .stuck
open Classical in
noncomputable def pinAll (cells : List (Str × Addr)) (h : Heap) (H : Hp) : Hp := fun a => if (∃ x, cells.lookup x = some a) then (h.get? a).map (PinO a) else H a
theorem pinAll_in {cells : List (Str × Addr)} {h : Heap} {H : Hp} {a : Addr} {x : Str} (e : cells.lookup x = some a) : pinAll cells h H a = (h.get? a).map (PinO a) := if_pos ⟨x, e⟩
theorem pinAll_out {cells : List (Str × Addr)} {h : Heap} {H : Hp} {a : Addr} (e : ¬ ∃ x, cells.lookup x = some a) : pinAll cells h H a = H a := if_neg e
def lamM (cl : Cl) (tab : List LamI) (names : List (Str × NameKind)) (L : Nat) : Nat → Hp → Obj → Prop := fun i H o => (i < 1000 ∧ cl.lam i H o) ∨ (1000 ≤ i ∧ lamT tab names L (i - 1000) H o)
theorem capD_rv {K : PySem.W.Frag} {m : List Addr} {H : Hp} {sd : Sl} {σ : L2.St} (rl : RSl K m H sd σ) : ∀ (is : List Nat) {cs : List D}, capD is sd = some cs → ∃ vs, RVs K m H cs vs ∧ vs.length = is.length ∧ ∀ (j i : Nat) (v : V), is[j]? = some i → vs[j]? = some v → σ[i]? = some (some v)
  | [], cs, h => by
    cases h
    exact ⟨[], rfl, rfl, fun j i v h => by simp at h⟩
  | i :: is, cs, h => by
    unfold capD at h
    split at h
    · rename_i d e
      cases h2 : capD is sd with
      | none => rw [h2] at h; cases h
      | some cs' =>
        rw [h2] at h
        cases h
        obtain ⟨vs, r, hl, hv⟩ := capD_rv rl is h2
        obtain ⟨v, e1, e2⟩ := rl.at_ i d e
        refine ⟨v :: vs, ⟨v, vs, rfl, e2, r⟩, by simp [hl], fun j i' v' h1 h2 => ?_⟩
        cases j with
        | zero => simp at h1 h2; subst h1 h2; exact e1
        | succ j => exact hv j i' v' (by simpa using h1) (by simpa using h2)
    · cases h
section
variable {X : Cx} {pins : List (Addr × Obj)} {σ : L2.St} {H : Hp} {s : Shared}
theorem pin_same (J : Inv X pins σ H s) {b : Addr} {u : HO} (e : H b = some u) : pinAll X.env.cells s.heap H b = some u := by
  rw [pinAll_out fun ⟨x, h⟩ => by rw [J.freeC x b h] at e; cases e]; exact e
theorem pin_keep (J : Inv X pins σ H s) : Keep H (pinAll X.env.cells s.heap H) := fun _ _ e _ => pin_same J e
theorem pin_hok (J : Inv X pins σ H s) : HOk X.prog X.w (pinAll X.env.cells s.heap H) s.heap := fun a o e => by
  by_cases h : ∃ x, X.env.cells.lookup x = some a
  · obtain ⟨x, h⟩ := h
    rw [pinAll_in h] at e
    cases g : s.heap.get? a with
    | none => rw [g] at e; cases e
    | some ob =>
      rw [g] at e
      cases e
      exact pin_ok g
  · rw [pinAll_out h] at e
    exact (J.hok a o e).stay (fun _ _ _ q => q) (fun b q => pin_same J q) fun b xs q => pin_same J q
theorem pin_un (J : Inv X pins σ H s) (fn : ∀ x, X.fn x = true) (ex : X.ex = []) : Un X.fs [] X.H_0 (pinAll X.env.cells s.heap H) X.s_0.heap s.heap := by
  have B := J.base
  rw [ex] at B
  refine ⟨B.keep, B.slot, fun b o e n hx => ?_, B.there, fun b xs e => pin_same J (B.tups b xs e), fun b o u e => pin_same J (B.frzs b o u e), fun b ps e => ?_⟩
  · rw [pinAll_out fun ⟨x, h⟩ => absurd (Nat.lt_of_lt_of_le (Heap.lt_size e) (J.ok.cab x b (fn x) h)) (Nat.lt_irrefl _)]
    exact B.free b o e n hx
  · obtain ⟨more, q⟩ := B.tbls b ps e
    exact ⟨more, pin_same J q⟩
theorem pin_clo {K : PySem.W.Frag} {m : List Addr} {caps : List Str} {cap : List Nat} {vs : List V} {scope : Scope} (J : Inv X pins σ H s) (D : LamD X.N X.env.scope scope) (hcap : cap.map (fun i => X.N[i]?) = caps.map some) (hl : vs.length = cap.length)
    (hv : ∀ (j i : Nat) (v : V), cap[j]? = some i → vs[j]? = some v → σ[i]? = some (some v)) : CloV scope caps vs (pinAll X.env.cells s.heap H) (cloFrom X.env.cells scope.names []) := by
  have has := D.has J.ok
  have back : ∀ {y a}, (cloFrom X.env.cells scope.names []).lookup y = some a → scope.names.lookup y = scope.names.lookup y ∧ (y, NameKind.free) ∈ scope.names ∧ X.env.cells.lookup y = some a := fun {y a} e => by
    rcases cloFrom_mem (PySem.mem_of_lookup e) with z | ⟨z1, z2⟩
    · cases z
    · obtain ⟨a1, ha⟩ := has _ z1 rfl
      have ha : X.env.cells.lookup y = some a1 := ha
      have : a = a1 := by rw [z2, ha] <;> rfl
      exact ⟨rfl, z1, by rw [this, ha]⟩
  have lc : caps.length = cap.length := by
    have := congrArg List.length hcap
    simpa using this.symm
  refine ⟨fun c hc => ?_, fun j x v c h1 h2 h3 => ?_, fun x y c e1 e2 => J.ok.inj x y c (back e1).2.2 (back e2).2.2, fun y hy e => ?_, by rw [hl, lc]⟩
  · obtain ⟨p, hp, rfl⟩ := List.mem_map.mp hc
    obtain ⟨n, c⟩ := p
    rcases cloFrom_mem hp with z | ⟨z1, z2⟩
    · cases z
    · obtain ⟨a1, ha⟩ := has _ z1 rfl
      have ha : X.env.cells.lookup n = some a1 := ha
      have : c = a1 := by rw [z2, ha] <;> rfl
      subst this
      obtain ⟨v, o, g, d⟩ := J.cell n c ha
      exact ⟨o, v, by rw [pinAll_in ha, g]; rfl, d⟩
  · obtain ⟨_, z1, hx⟩ := back h3
    have hj : cap[j]?.map (fun i => X.N[i]?) = some (some x) := by
      rw [← List.getElem?_map, hcap, List.getElem?_map, h1]; rfl
    cases hi : cap[j]? with
    | none => rw [hi] at hj; cases hj
    | some i =>
      rw [hi] at hj
      have hN : X.N[i]? = some x := by simpa using hj
      have sv := hv j i v hi h2
      obtain ⟨mm, _, hloc⟩ := J.loc
      have tk2 := D.tk _ z1 rfl
      obtain ⟨u, r, q⟩ := hloc i x v hN sv (tk2.elim (fun z => .inr (.inl z)) fun z => .inr (.inr z))
      rcases q with ⟨k', _⟩ | ⟨_, a3, e', z⟩
      · have k' : X.env.scope.names.lookup x = some .local := k'
        rcases tk2 with k2 | k2 <;> exact absurd (k'.symm.trans k2) (by simp)
      · have : a3 = c := Option.some.inj (e'.symm.trans hx)
        subst this
        obtain ⟨o, g, d⟩ := z
        exact ⟨o, u, by rw [pinAll_in hx, g]; rfl, d, r⟩
  · obtain ⟨n, k⟩ := y
    cases (show k = .free from e)
    exact mem_lookup (cloFrom_has (cells := X.env.cells) (acc := []) hy)
end
section
variable {cl : Cl} {K : PySem.W.Frag} {m : List Addr} {H Hp2 : Hp} {tab : List LamI} {names : List (Str × NameKind)} {L : Nat} {cs : List D} {vs : List V}
theorem RO.conv (k : Keep H Hp2) (rv : RVs K m Hp2 cs vs) (hB : ∀ i H' o, Keep Hp2 H' → lamT tab names L i H' o → cl.lmb i vs H' o) {a : Addr} (ha : Hp2 a = H a) {o : DO} (ro : RO (cl.wl (lamM cl tab names L)) K m H o a) : RO cl K m Hp2 (convB cs o) a := by
  have r2 := RO.mono (Ext.refl m) k ha ro
  by_cases h : ∃ i, o = .dic 5 [(.int i, .non)]
  · obtain ⟨i, rfl⟩ := h
    obtain ⟨i', ob, u, e0, e, q⟩ := r2
    have : i = i' := by simpa using e0
    subst this
    have e2 : convB cs (.dic 5 [(.int i, .non)]) = if 1000 ≤ i then .dic 7 [(.int (i - 1000), .tup cs)] else .dic 5 [(.int i, .non)] := rfl
    rw [e2]
    by_cases hi : 1000 ≤ i
    · rw [if_pos hi]
      refine ⟨_, cs, vs, ob, u, rfl, e, rv, fun H' k' => ?_⟩
      rcases q H' k' with ⟨z, _⟩ | ⟨_, z⟩
      · omega
      · rw [show (i - 1000).toNat = i.toNat - 1000 from by omega]
        exact hB _ _ _ k' z
    · rw [if_neg hi]
      refine ⟨i, ob, u, rfl, e, fun H' k' => ?_⟩
      rcases q H' k' with ⟨_, z⟩ | ⟨z, _⟩
      · exact z
      · omega
  · have e1 : convB cs o = o := by
      unfold convB
      split
      · exact absurd ⟨_, rfl⟩ h
      · rfl
    rw [e1]
    cases o with
    | dic kd kvs =>
      match kd, r2 with
      | 0, r => exact r
      | 1, r => exact r
      | 2, r => exact r
      | 3, r => exact r
      | 4, r => exact r
      | 5, ⟨i, ob, u, e0, _, _⟩ => exact absurd ⟨i, by rw [e0]⟩ h
      | 6, r => exact r
      | 7, r => exact r
      | _ + 8, r => exact r.elim
    | lst _ => exact r2
    | ins _ _ => exact r2
    | dead => exact r2
end
theorem fnD_mk {P : Program} {w : World} {cl : Cl} {K : PySem.W.Frag} {mg : Str → Option Value} {base : Heap} {fd : FuncData} {k : Nat} {x qual : Str} {params : Arguments} {body : List Stmt} {scope : Scope} {N ps caps : List Str} {cap : List Nat} {Fb : Sl → Sto → Res (D × Sl)} {pd : He.Defn} {tab : List LamI}
    (Fu : FunD K x qual params body scope [] [] (He.fAd K pd) fd) (S : FnScope N ps scope)
    (hb : ∀ (kV doc pm : Value) (an : Option Addr) (cdv ct : Value) (us : List Value), us.length = ps.length → bindArgs (PySem.W.fnOf x qual params body scope .none kV doc pm an cdv ct) ⟨us, []⟩ = pure (ps.zip us))
    (hN : ∀ i H o, cl.lam i H o → i < 1000) (hB : ∀ i vs H o, LamB tab caps i vs H o → cl.lmb i vs H o) (hcap : cap.map (fun i => N[i]?) = caps.map some) (hD : ∀ (i : Nat) (I : LamI), tab[i]? = some I → LamD N scope I.scope)
    (hbody : ∀ (A : Around) (outer : List Env) (s : Shared) (H : Hp) (E : XK), Cok (cxOf (L2.CX P w) P w K mg base N qual scope (He.fAd K pd) (.ref (He.cT K pd).1) A outer s H E) E k →
      DSsB (cl.wl (lamM cl tab scope.names s.heap.objs.size)) (cxOf (L2.CX P w) P w K mg base N qual scope (He.fAd K pd) (.ref (He.cT K pd).1) A outer s H E) E body Fb) :
    FnD P w cl K mg base (k + 1) (He.fAd K pd) ps.length (dFnB N.length cap Fb) := by
  refine ⟨Fu.kp, fd, ps, rfl, Fu.bindsN hb, ?_⟩
  obtain ⟨oc, od, dV, kV, doc, pm, an, cdv, ct, osl, rfl, lk, hcd, _, _⟩ := Fu.ex
  obtain ⟨c, rfl⟩ := He.codeIn_ref hcd
  have ec : He.codeOf K pd = c := He.codeOf_eq lk rfl
  subst ec
  have len : ∀ vs H Q E, spD cl K ps.length (dFnB N.length cap Fb) vs H Q E → vs.length = ps.length := fun vs H Q E h => by
    obtain ⟨m, St, ds, hl, rs, rv, _⟩ := h
    rw [← rv.length, hl]
  refine ⟨len, fun A outer s H args us vs Q E hr e0 hbd r hsp => ?_⟩
  have hl := len _ _ _ _ hsp
  have KX : K.In s.heap := e0.mod.kin.keeps fun b o e => (e0.bs b o e).1
  have lim : s.heap.NoLimit := e0.mod.nolimit.keeps fun b o e => (e0.bs b o e).1
  have hkind : ∀ y ∈ ps.zip us, scope.names.lookup y.1 = some .local ∨ (scope.names.lookup y.1 = some .cell ∧ ((cellsFrom (s.heap.objs.size + 1) scope.names []).lookup y.1).isSome = true) := fun ⟨n, v⟩ hy => by
    rcases S.par n (List.of_mem_zip hy).1 with q | q
    · exact .inl q
    · exact .inr ⟨q, PySem.W.cellsFrom_some _ _ _ (.inl q)⟩
  refine codeAny_call_function hr.depth (KX _ _ lk) rfl S.co S.gen rfl (PySem.W.codeRec_of KX hcd) (hbd _ _ _ _ ?_)
  refine wpAny_newFunctionEnv_cells S.kind hkind fun env he s1 x => ?_
  subst he
  refine ⟨lim.keeps x.toInCall.keep, codeAny_func ?_⟩
  obtain ⟨t, ht, hh⟩ := hbody A outer s H E (cok_of S (hr.deeper _))
  have I : Inv (cxOf (L2.CX P w) P w K mg base N qual scope (He.fAd K pd) (.ref (He.cT K pd).1) A outer s H E) [] (L2.start N vs) H s1 := inv_start S hr.hd e0 hl r x
  obtain ⟨m, St, ds, hld, rs, rv, hp⟩ := hsp
  have rsM : RS (cl.wl (lamM cl tab scope.names s.heap.objs.size)) K m St H := rs.lam fun i H o z => .inl ⟨hN i H o z, z⟩
  let R : V → L2.St → Hp → Prop := fun v σ' H' => ∃ m' S1 d sd, RS (cl.wl (lamM cl tab scope.names s.heap.objs.size)) K m' S1 H' ∧ RV K m' H' d v ∧ RSl K m' H' sd σ' ∧ Post cl K (RV K) m' H' E Q (match capD cap sd with
    | some cs => .ok d (S1.map (convB cs))
    | none => .stuck)
  have hR : t R (L2.start N vs) H := by
    refine hh m St H (startD N.length ds) (L2.start N vs) R rsM (start_rl rv) ?_
    unfold dFnB at hp
    cases hres : Fb (startD N.length ds) St with
    | ok p S1 =>
      rw [hres] at hp
      intro m1 v H1 x1 k1 rs1 rv1
      exact ⟨m1, S1, p.1, p.2, rs1, rv1.1, rv1.2, Post.mono x1 k1 hp⟩
    | exc y S1 =>
      rw [hres] at hp
      exact hp.elim
    | stuck => rw [hres] at hp; exact hp.elim
  refine wpAny_mono (ht.run [] s1 (L2.start N vs) H R I hR) (fun fl s' hs => ?_) fun e s' hs => hs
  obtain ⟨u, rfl, v, σ', H', J, rv', m', S1, d, sd, rs', rd, rl, q⟩ := hs
  cases hcs : capD cap sd with
  | none => rw [hcs] at q; exact q.elim
  | some cs =>
    rw [hcs] at q
    obtain ⟨ws, rw1, lw, hw⟩ := capD_rv rl cap hcs
    have kp := pin_keep J
    refine ⟨v, pinAll (cxOf (L2.CX P w) P w K mg base N qual scope (He.fAd K pd) (.ref (He.cT K pd).1) A outer s H E).env.cells s'.heap H', J.os, J.bare, pin_un J (fun _ => rfl) rfl, pin_hok J, rv', ?_⟩
    refine q m' v _ (Ext.refl _) kp ⟨by rw [List.length_map]; exact rs'.len, rs'.nd, fun l o a h1 h2 => ?_, rs'.tb.ext fun b o e => pin_same J e⟩ (RV.mono (Ext.refl _) kp _ rd)
    rw [List.getElem?_map] at h1
    cases ho : S1[l]? with
    | none => rw [ho] at h1; cases h1
    | some o' =>
      rw [ho] at h1
      cases h1
      have ro := rs'.obj l o' a ho h2
      obtain ⟨u0, hu, _⟩ := ro.any
      refine RO.conv (tab := tab) (names := scope.names) (L := s.heap.objs.size) (vs := ws) kp (RVs.mono (Ext.refl _) kp _ rw1) (fun i H2 o2 k2 z => ?_) (by rw [hu]; exact pin_same J hu) ro
      obtain ⟨I2, e2, li⟩ := z
      exact hB i ws H2 o2 ⟨I2, _, e2, li, (pin_clo (K := K) (m := m') J (hD i I2 e2) hcap lw hw).keep k2⟩
end DL
namespace DL
open PySem PySem.Spec PyProof.Rows L2
abbrev LamK1 := Nat → Hp → Obj → Prop
abbrev LamK2 := Nat → List V → Hp → Obj → Prop
abbrev lmAt1 (lm : LamK1) (H : Hp) : LamK1 := fun i _ o => ∀ H', Keep H H' → lm i H' o
abbrev lmAt2 (lb : LamK2) (H : Hp) : LamK2 := fun i vs _ o => ∀ H', Keep H H' → lb i vs H' o
structure LmOk (lm : LamK1) (lb : LamK2) (tab : List LamI) (caps : List Str) : Prop where
  lo : ∀ i H o, lm i H o → i < 1000
  hi : ∀ i vs H o, LamB tab caps i vs H o → lb i vs H o
theorem lmOk_law {tab tabB : List LamI} {names : List (Str × NameKind)} {L : Nat} {caps : List Str} (h : tab.length ≤ 1000) : LmOk (lamT tab names L) (LamB tabB caps) tabB caps :=
  ⟨fun i H o ⟨I, e, _⟩ => Nat.lt_of_lt_of_le (List.getElem?_eq_some_iff.mp e).1 h, fun _ _ _ _ z => z⟩
theorem lamIs_noC {I : LamI} {clo : List (Str × Addr)} {H : Hp} {o : Obj} (h : LamIs I clo H o) : ∀ w, o.data ≠ .cell w := fun w z => by
  obtain ⟨dV, doc, pm, ctv, b, rfl, _⟩ := h
  cases z
theorem noC_law {f : Nat → Addr} {T : List (Addr × Str)} {hh : NestedKey → Int} {tab tabB : List LamI} {names : List (Str × NameKind)} {L : Nat} {caps : List Str} : NoC ⟨f, T, hh, lamT tab names L, LamB tabB caps⟩ :=
  ⟨fun i H o ⟨I, _, h⟩ => lamIs_noC h, fun i vs H o ⟨I, clo, _, h, _⟩ => lamIs_noC h⟩
theorem lamB_at {tab : List LamI} {caps : List Str} {i : Nat} {vs : List V} {H : Hp} {o : Obj} {I : LamI} (e : tab[i]? = some I) (h : LamB tab caps i vs H o) : ∃ clo, LamIs I clo H o ∧ CloV I.scope caps vs H clo := by
  obtain ⟨I', clo, e', h⟩ := h
  rw [e] at e'
  cases e'
  exact ⟨clo, h⟩
section
variable {cl : Cl} {X : Cx} {N : List Str} {sc : Scope} {k : Nat}
def LamPB (cl : Cl) (X : Cx) (N : List Str) (sc : Scope) (k : Nat) (i : Nat) (fb : Sl → Sto → Res D) : Prop := ∃ I : LamI, (∀ vs H o, cl.lmb i vs H o → ∃ clo, LamIs I clo H o ∧ CloV I.scope N vs H clo) ∧ LamOk N sc I ∧
    ∀ (H0 : Hp) (clo : List (Str × Addr)) (A : Around) (outer : List Env) (s : Shared) (H : Hp) (E : XK) (f c' : Addr), Cok (lbCx X N I.qual clo A outer s H E I.scope f c') E k → DE (cl.at_ H0) (lbCx X N I.qual clo A outer s H E I.scope f c') E I.body fb
def LamLB (cl : Cl) (X : Cx) (N : List Str) (sc : Scope) (k n : Nat) (fs : List (Sl → Sto → Res D)) : Prop := ∀ j fb, fs[j]? = some fb → LamPB cl X N sc k (n + j) fb
theorem lamLB_nil {n : Nat} : LamLB cl X N sc k n [] := fun j fb h => by simp at h
theorem lamLB_cons {n : Nat} {fb : Sl → Sto → Res D} {fs : List (Sl → Sto → Res D)} (I : LamI) (hl : ∀ vs H o, cl.lmb n vs H o → ∃ clo, LamIs I clo H o ∧ CloV I.scope N vs H clo) (ok : LamOk N sc I)
    (hb : ∀ (H0 : Hp) (clo : List (Str × Addr)) (A : Around) (outer : List Env) (s : Shared) (H : Hp) (E : XK) (f c' : Addr), Cok (lbCx X N I.qual clo A outer s H E I.scope f c') E k → DE (cl.at_ H0) (lbCx X N I.qual clo A outer s H E I.scope f c') E I.body fb)
    (rest : LamLB cl X N sc k (n + 1) fs) : LamLB cl X N sc k n (fb :: fs) := fun j f h => by
  cases j with
  | zero =>
    simp at h
    subst h
    exact ⟨I, hl, ok, hb⟩
  | succ j =>
    have := rest j f (by simpa using h)
    rw [Nat.add_assoc, Nat.add_comm 1 j] at this
    exact this
theorem lamLB_set {fs : List (Sl → Sto → Res D)} (nc : NoC cl) (h : LamLB cl X N sc k 0 fs) : LamSetB cl X N sc k (fun i => fs[i]?) := ⟨nc, fun i fb e => by
  have := h i fb e
  rw [Nat.zero_add] at this
  exact this⟩
end
theorem lamDs_nil {N : List Str} {sc : Scope} : ∀ (i : Nat) (I : LamI), ([] : List LamI)[i]? = some I → LamD N sc I.scope := fun i I h => by simp at h
theorem lamDs_cons {N : List Str} {sc : Scope} {I : LamI} {l : List LamI} (h : LamD N sc I.scope) (t : ∀ (i : Nat) (J : LamI), l[i]? = some J → LamD N sc J.scope) : ∀ (i : Nat) (J : LamI), (I :: l)[i]? = some J → LamD N sc J.scope := fun i J e => by
  cases i with
  | zero => simp at e; subst e; exact h
  | succ i => exact t i J (by simpa using e)
end DL

namespace DL
open PySem PySem.Spec PyProof.Rows L2
section
variable {X : Cx}
theorem lcN {pins : List (Addr × Obj)} {s : Shared} {σ : L2.St} {H : Hp} {Q : VK} {elt tg iter : Expr} {ifs : List Expr} {scope : Scope} {own : List (Str × Nat)} {pos : Pos} {wi : TI}
    (hc : X.calm = true) (hN : X.N.Nodup) (J0 : Inv X pins σ H s) (hi : PI X tg iter wi) (ok : BlkOk X.N X.env.scope scope own) (hs : ∀ x, foldedSetIterable iter X.env x = pure x)
    (h : wi σ H fun J H1 => ∀ D, H1 D = none → ∀ (sB : Shared) (C : Addr) (cl : List (Str × Addr)) (fp : List Addr), Inv X pins σ (upd H1 D (.lst [])) sB → (∀ b ∈ fp, ∀ x c, X.env.cells.lookup x = some c → c ≠ b) →
      ∃ (g : TG) (tt : TT), PG (X.blk sB (upd H1 D (.lst [])) scope (compEnvC scope cl C X.env) fp) tg g ∧ PTs (X.blk sB (upd H1 D (.lst [])) scope (compEnvC scope cl C X.env) fp) ifs tt ∧
        ∃ W : Nat → Nat → Hp → Prop, (∃ n, W 0 n (upd H1 D (.lst []))) ∧ ∀ i n H2, W i n H2 → (J.stop i H2 ∧ Q (.ref D) H2) ∨ (J.go i H2 ∧ ∀ x H3, J.yld i H2 x H3 → g x (wipe σ (own.map (·.2))) H3 fun σ4 H4 => wipe σ4 (own.map (·.2)) = wipe σ (own.map (·.2)) ∧ tt σ4 H4 fun b H5 => b = false ∧ ∃ n', n' < n ∧ W (i + 1) n' H5)) :
    wpAny (model X.prog X.w) X.A (eval (.ListComp elt [⟨tg, iter, ifs, 0⟩] scope pos) X.env) (EP X pins σ Q) X.xe s := by
  rw [eval_ListComp]
  have cap : ∀ y ∈ scope.names, y.2 = .free → ∃ c, X.env.cells.lookup y.1 = some c := fun y hy e => J0.ok.has _ (ok.free y hy e)
  refine wpAny_comprehension_free rfl hs (closure_ok cap) ok.kind (fun y hy e => by rw [ok.uniq y hy, e]) (thn (hi.run pins s σ H _ J0 h) fun v sa ha => thn ha fun itv sb hb => ?_)
  obtain ⟨it, fp, tn, J, Hb, rfl, Jb, T, tb, fb, q⟩ := hb
  refine wpAny_newObj_type (newEnv_comp ?_) (by show 0 ≤ sizeLine; decide)
  have fresh : Hb sb.heap.objs.size = none := Jb.hok.fresh (Nat.le_refl _)
  have Jc : Inv X pins σ (upd Hb sb.heap.objs.size (.lst [])) { sb with heap := sb.heap.push { cls := .type "list", data := .seq ([] : List Value).toArray } } :=
    Jb.laid (t' := sb.toks) (fun b o e => Heap.get?_push_of_some _ e) (Nat.le_refl _) ⟨Nat.zero_le _, [], 0, .nil, Heap.get?_push_size _ rfl⟩
  have young : ∀ b ∈ fp, b < sb.heap.objs.size := fun b hb => let ⟨o, e, _⟩ := T.obj _ _ tb b hb; Heap.lt_size e
  have keepP : ∀ b o, sb.heap.get? b = some o → (sb.heap.push { cls := .type "list", data := .seq ([] : List Value).toArray }).get? b = some o := fun b o e => Heap.get?_push_of_some _ e
  have fc : ∀ b ∈ fp, FpOk X pins (upd Hb sb.heap.objs.size (.lst [])) b ∧ b < (sb.heap.push { cls := .type "list", data := .seq ([] : List Value).toArray }).objs.size := fun b hb =>
    ⟨⟨by rw [upd_ne (Nat.ne_of_lt (young b hb))]; exact (fb b hb).1, (fb b hb).2⟩, by rw [Heap.size_push]; exact Nat.lt_succ_of_lt (young b hb)⟩
  have tc : tn 0 (sb.heap.push { cls := .type "list", data := .seq ([] : List Value).toArray }) := T.keep _ _ _ tb fun b _ o e => keepP b o e
  have Q0 := q _ fresh
  generalize hD : sb.heap.objs.size = D at Jc fc Q0 fresh ⊢
  generalize hsc : ({ sb with heap := sb.heap.push { cls := .type "list", data := .seq ([] : List Value).toArray } } : Shared) = sc at Jc ⊢
  have tc : tn 0 sc.heap := by rw [← hsc]; exact tc
  have fc : ∀ b ∈ fp, FpOk X pins (upd Hb D (.lst [])) b ∧ b < sc.heap.objs.size := by rw [← hsc]; exact fc
  have Jd := block_start Jc ok hN fc
  obtain ⟨g, tt, pg, pt, W, ⟨n0, w0⟩, turn⟩ := Q0 sc sc.heap.objs.size (cellsFrom (sc.heap.objs.size + 1) scope.names (cloFrom X.env.cells scope.names [])) fp Jc fun b hb => (fc b hb).1.2.2.2.2.1
  show codeAny _ _ (.compStart (.ListComp elt [⟨tg, iter, ifs, 0⟩] scope pos) 0 (.ref it) (.ref D) (compEnvC scope (cellsFrom (sc.heap.objs.size + 1) scope.names (cloFrom X.env.cells scope.names [])) sc.heap.objs.size X.env)) (compPost (model X.prog X.w) X.A X.xe none (EP X pins σ Q) (.ref D) (compEnvC scope (cellsFrom (sc.heap.objs.size + 1) scope.names (cloFrom X.env.cells scope.names [])) sc.heap.objs.size X.env).locals) { sc with heap := pushCells (sc.heap.push { cls := .type "dict", data := .dict #[] }) scope.names }
  have here : (compEnvC scope (cellsFrom (sc.heap.objs.size + 1) scope.names (cloFrom X.env.cells scope.names [])) sc.heap.objs.size X.env).locals = sc.heap.objs.size := rfl
  generalize compEnvC scope (cellsFrom (sc.heap.objs.size + 1) scope.names (cloFrom X.env.cells scope.names [])) sc.heap.objs.size X.env = ce at Jd pg pt here ⊢
  generalize upd Hb D (.lst []) = Hc at Jc Jd pg pt w0 fc
  have td : tn 0 ({ sc with heap := pushCells (sc.heap.push { cls := .type "dict", data := .dict #[] }) scope.names } : Shared).heap := T.keep _ _ _ tc fun b _ o e => pushCells_keeps _ _ _ _ (Heap.get?_push_of_some _ e)
  generalize ({ sc with heap := pushCells (sc.heap.push { cls := .type "dict", data := .dict #[] }) scope.names } : Shared) = sd at Jd td ⊢
  -- an iterator's objects are the block's own to turn
  have turnable : ∀ {σ' : L2.St} {H' : Hp} {s' : Shared}, Inv (X.blk sc Hc scope ce fp) [] σ' H' s' → (∀ b ∈ fp, H' b = none) → ∀ b ∈ fp, FpOk (X.blk sc Hc scope ce fp) [] H' b := fun {σ' H' s'} j hn b hb =>
    ⟨hn b hb, (j.ok.exf b hb).1, j.ok.exfs b hb, .inl hb, fun x c e => (j.ok.exf b hb).2 x c e, fun p hp => absurd (show p ∈ ([] : List (Addr × Obj)) from by simpa using hp) (by simp)⟩
  have loop : codeAny (model X.prog X.w) X.A (.compLoop (.ListComp elt [⟨tg, iter, ifs, 0⟩] scope pos) 0 (.ref it) (.ref D) ce) (compPost (model X.prog X.w) X.A X.xe none (EP X pins σ Q) (.ref D) ce.locals) sd := by
    refine compLoop_any (fun n s' => ∃ i H', (Inv (X.blk sc Hc scope ce fp) [] (wipe σ (own.map (·.2))) H' s' ∧ W i n H') ∧ tn i s'.heap ∧ ∀ b ∈ fp, H' b = none) ?_ n0 ⟨0, Hc, ⟨Jd, w0⟩, td, fun b hb => (fc b hb).1.1⟩
    rintro n se ⟨i, He, ⟨Je, we⟩, te, ne⟩
    rcases turn i n He we with ⟨stop, fin⟩ | ⟨go, step⟩
    · refine thnF (T.done (X.blk sc Hc scope ce fp) rfl rfl rfl hc i [] se _ He (fun _ _ => False) Je (turnable Je ne) te stop) fun r sf hr => ?_
      obtain ⟨rfl, Jf⟩ := hr
      obtain ⟨m, hm, _⟩ := Jf.loc
      have Jg : Inv X pins σ He sf := Jc.call' (ch := fp) Jf.os Jf.base Jf.hok Jf.bare fun b hb => ⟨(fc b hb).1.2.2.2.1, (fc b hb).1.2.1, (fc b hb).1.2.2.2.2.1, (fc b hb).1.2.2.2.2.2⟩
      have off : He ce.locals = none := Jf.free
      obtain ⟨f0, f1, f2, f3, f4, f5⟩ := Jc.fpOk (b := ce.locals) (by rw [here]; exact Nat.le_refl _) off
      exact ⟨m, hm, fun h'' sm => ⟨.ref D, He, Jg.turned (t' := sf.toks) (fun b o hb e => (sm.2 b hb).trans e) f0 f1 f3 f4 f5, rfl, fin⟩⟩
    · refine thnF (T.item (X.blk sc Hc scope ce fp) rfl rfl rfl hc i [] se _ He (fun _ _ => False) Je (turnable Je ne) te go) fun r sf hr => ?_
      obtain ⟨u, rfl, hf⟩ := hr
      refine thnF hf fun _ sg hg => ?_
      obtain ⟨x, Hg, Jg, rx, yx, tg', ng⟩ := hg
      have Jp := Jg.pinned (turnable Jg ng) (T.obj _ _ tg')
      refine thnF (pg.run _ sg _ Hg x u _ Jp rx (step x Hg yx)) fun _ sh hh => ?_
      obtain ⟨σh, Hh, Jh, eqw, th⟩ := hh
      refine thnF (pt.run _ sh σh Hh _ Jh th) fun b sk hk => ?_
      obtain ⟨Hk, Jk, rfl, n', lt, wk⟩ := hk
      have same : ∀ b ∈ fp, ∀ o, sg.heap.get? b = some o → sk.heap.get? b = some o ∧ Hk b = none := fun b hb o e =>
        let z := Jk.pin (b, o) (List.mem_append_right _ (List.mem_append_right _ (mem_pinsAt hb e)))
        ⟨z.1, z.2.1⟩
      have len : (wipe σ (own.map (·.2))).length = σh.length := by rw [← eqw, wipe_length]
      show ∃ m, m < n ∧ _
      refine ⟨n', lt, i + 1, Hk, ⟨(Jk.unpinned (pins := [])).weak len fun j v e => (wipe_some (by rw [eqw]; exact e)).1, wk⟩, T.keep _ _ _ tg' fun b hb o e => (same b hb o e).1, fun b hb => ?_⟩
      obtain ⟨o, e, _⟩ := T.obj _ _ tg' b hb
      exact (same b hb o e).2
  exact codeAny_compStart_list loop (T.self X.A 0 _ _ _ td loop)
end
end DL
namespace DL
open PySem PySem.Spec PyProof.Rows L2
def loopN (chk : Sto → Bool) (ga : D → Sl → Sto → Res Sl) (ft : Sl → Sto → Res Bool) (sd : Sl) : List D → Sto → Res Unit
  | [], S => if chk S then .ok () S else .stuck
  | x :: xs, S => if chk S then (ga x sd S).noExc.bind fun sd1 S1 => (ft sd1 S1).noExc.bind fun b S2 => if b then .stuck else loopN chk ga ft sd xs S2 else .stuck
def dCompN (vs : List Nat) (fi : Sl → Sto → Res ItD) (ga : D → Sl → Sto → Res Sl) (ft : Sl → Sl → Sto → Res Bool) : Sl → Sto → Res D := fun sd S =>
  (fi sd S).bind fun it S1 => (loopN it.chk ga (ft sd) (wipeD sd vs) it.items (S1 ++ [.lst []])).bind fun _ S2 => .ok (.ref S1.length) S2
def tLcN (X : Cx) (scope : Scope) (own : List (Str × Nat)) (tg : Expr) (ifs : List Expr) (wi : TI) : TE := fun σ H Q => ∀ pins : List (Addr × Obj), wi σ H fun J H1 => ∀ D, H1 D = none → ∀ (sB : Shared) (C : Addr) (cl : List (Str × Addr)) (fp : List Addr), Inv X pins σ (upd H1 D (.lst [])) sB → (∀ b ∈ fp, ∀ x c, X.env.cells.lookup x = some c → c ≠ b) →
      ∃ (g : TG) (tt : TT), PG (X.blk sB (upd H1 D (.lst [])) scope (compEnvC scope cl C X.env) fp) tg g ∧ PTs (X.blk sB (upd H1 D (.lst [])) scope (compEnvC scope cl C X.env) fp) ifs tt ∧
        ∃ W : Nat → Nat → Hp → Prop, (∃ n, W 0 n (upd H1 D (.lst []))) ∧ ∀ i n H2, W i n H2 → (J.stop i H2 ∧ Q (.ref D) H2) ∨ (J.go i H2 ∧ ∀ x H3, J.yld i H2 x H3 → g x (wipe σ (own.map (·.2))) H3 fun σ4 H4 => wipe σ4 (own.map (·.2)) = wipe σ (own.map (·.2)) ∧ tt σ4 H4 fun b H5 => b = false ∧ ∃ n', n' < n ∧ W (i + 1) n' H5)
section
variable {cl : Cl} {X : Cx} {E : XK}
theorem de_compN {elt tg iter : Expr} {ifs : List Expr} {scope : Scope} {own : List (Str × Nat)} {pos : Pos} {fi : Sl → Sto → Res ItD} {ga : D → Sl → Sto → Res Sl} {ft : Sl → Sl → Sto → Res Bool}
    (hc : X.calm = true) (hN : X.N.Nodup) (hi : DI cl X E tg iter fi) (ok : BlkOk X.N X.env.scope scope own)
    (hg : ∀ (s : Shared) (H : Hp) (C : Addr) (c : List (Str × Addr)) (fp : List Addr), DGw cl (X.blk s H scope (compEnvC scope c C X.env) fp) E0 (own.map (·.2)) tg ga)
    (ht : ∀ (sd0 : Sl) (m0 : List Addr) (σ0 : L2.St) (pins0 : List (Addr × Obj)) (s : Shared) (H : Hp) (C : Addr) (c : List (Str × Addr)) (fp : List Addr), Inv X pins0 σ0 H s → RSl X.K m0 H sd0 σ0 → (∀ b ∈ fp, ∀ x c, X.env.cells.lookup x = some c → c ≠ b) → DTs cl (X.blk s H scope (compEnvC scope c C X.env) fp) E0 ifs (ft sd0))
    (hs : ∀ x, foldedSetIterable iter X.env x = pure x := by intro _; rfl) :
    DE cl X E (.ListComp elt [⟨tg, iter, ifs, 0⟩] scope pos) (dCompN (own.map (·.2)) fi ga ft) := by
  obtain ⟨wi, pi, hi⟩ := hi
  refine ⟨tLcN X scope own tg ifs wi, ⟨fun pins s σ H Q J h => lcN hc hN J pi ok hs (h pins)⟩, fun m S H sd σ Q rs rl hp pins => hi m S H sd σ _ rs rl (Post.bind hp fun it S1 m1 J H1 x1 k1 rs1 ir h1 => ?_)⟩
  intro D hD sB C c fp JB nx
  obtain ⟨nl1, nl2⟩ := newLst rs1 (ds := []) (vs := []) rfl hD
  obtain ⟨aD, hmD, eD⟩ := nl2
  cases eD
  have x2 := Ext.snoc m1 D
  have k2 : Keep H1 (upd H1 D (.lst [])) := Keep.new hD
  have rlD : RSl X.K (m1 ++ [D]) (upd H1 D (.lst [])) sd σ := (rl.mono x1 k1).mono x2 k2
  obtain ⟨g, pg, og, hgg⟩ := hg sB (upd H1 D (.lst [])) C c fp
  obtain ⟨tt, ptt, htt⟩ := ht sd (m1 ++ [D]) σ pins sB (upd H1 D (.lst [])) C c fp JB rlD nx
  refine ⟨g, tt, pg, ptt, fun i n H' => n + i = it.items.length ∧ ∃ m' S', Ext (m1 ++ [D]) m' ∧ Keep (upd H1 D (.lst [])) H' ∧ RS cl X.K m' S' H' ∧ Post cl X.K (RV X.K) m' H' E Q ((loopN it.chk ga (ft sd) (wipeD sd (own.map (·.2))) (it.items.drop i) S').bind fun _ S2 => .ok (.ref S1.length) S2),
    ⟨it.items.length, rfl, m1 ++ [D], S1 ++ [.lst []], Ext.refl _, Keep.refl _, nl1, by rw [List.drop_zero]; exact Post.mono x2 k2 h1⟩, ?_⟩
  rintro i n H' ⟨hn, m', S', x', k', rs', h'⟩
  have rlw : RSl X.K m' H' (wipeD sd (own.map (·.2))) (wipe σ (own.map (·.2))) := (rlD.wipe _).mono x' k'
  by_cases hlt : i < it.items.length
  · rw [List.drop_eq_getElem_cons hlt] at h'
    unfold loopN at h'
    split at h'
    · rename_i hck
      obtain ⟨go, yl⟩ := (ir i m' S' H' (x2.trans x') (k2.trans k') rs' hck).2 it.items[i] (by simp [hlt])
      refine .inr ⟨go, fun x H2 hy => ?_⟩
      obtain ⟨ky, rsy, rvy⟩ := yl x H2 hy
      rw [bind_assoc] at h'
      refine og.mono _ _ _ _ _ (fun σ2 H2' z => ⟨z.1.trans (wipe_wipe σ _), z.2⟩) (og.own _ _ _ _ (hgg m' S' H2 (wipeD sd (own.map (·.2))) (wipe σ (own.map (·.2))) _ x _ rsy (rlw.mono (Ext.refl _) ky) rvy (Post.bindN (Post.mono (Ext.refl _) ky h') fun sd1 S3 m3 σ3 H3 x3 k3 rs3 rl3 h3 => ?_)))
      rw [bind_assoc] at h3
      refine htt m3 S3 H3 sd1 σ3 _ rs3 rl3 (Post.bindN h3 fun b S4 m4 vb H4 x4 k4 rs4 rb h4 => ?_)
      cases rb
      cases b with
      | false => exact ⟨rfl, n - 1, by omega, by omega, m4, S4, (x'.trans x3).trans x4, ((k'.trans ky).trans k3).trans k4, rs4, h4⟩
      | true => exact h4.elim
    · exact h'.elim
  · have hi' : i = it.items.length := by omega
    have e1 : it.items.drop i = [] := by rw [hi']; simp
    rw [e1] at h'
    unfold loopN at h'
    split at h'
    · rename_i hck
      exact .inl ⟨(ir i m' S' H' (x2.trans x') (k2.trans k') rs' hck).1 hi', h' m' (.ref D) H' (Ext.refl _) (Keep.refl _) rs' ⟨D, x' _ _ hmD, rfl⟩⟩
    · exact h'.elim
end
end DL

namespace DL
open PySem PySem.Spec PyProof.Rows L2
section
variable {X : Cx} {pins : List (Addr × Obj)} {σ : L2.St} {H : Hp} {s : Shared} {HZ : Hp} {sE : Shared}
theorem lamd_startE {exs : List Addr} {A : Around} {outer : List Env} {E : XK} {scope : Scope} {f b : Addr} {hN : Heap} {tk : Nat} {bs : List (Str × Value)} (J : Inv X pins σ H s) (D : LamD X.N X.env.scope scope) (e0 : Env0 X.prog X.w X.K X.mg X.base A outer sE HZ) (nh : A.handled = none)
    (un : Un (frs X.stack) exs H HZ s.heap sE.heap) (nx : ∀ x c, X.env.cells.lookup x = some c → c ∉ exs) (ns : hN.Ns sE.heap.objs.size fun y => bs.reverse.lookup y) (kp : ∀ a o, sE.heap.get? a = some o → hN.get? a = some o) :
    Inv (LamX.lamCx X A outer sE HZ E scope f b) [] σ HZ { sE with heap := hN, toks := tk } := by
  have has := D.has J.ok
  have back : ∀ {y a}, (cloFrom X.env.cells scope.names []).lookup y = some a → X.env.cells.lookup y = some a := fun {y a} e => by
    rcases cloFrom_mem (PySem.mem_of_lookup e) with z | ⟨z1, z2⟩
    · cases z
    · obtain ⟨a1, ha⟩ := has _ z1 rfl
      have ha : X.env.cells.lookup y = some a1 := ha
      have : a = a1 := by rw [z2, ha] <;> rfl
      rw [this, ha]
  have fwd : ∀ {y}, scope.names.lookup y = some .free → ∃ a, (cloFrom X.env.cells scope.names []).lookup y = some a := fun {y} e =>
    mem_lookup (cloFrom_has (cells := X.env.cells) (acc := []) (PySem.mem_of_lookup e : (y, NameKind.free) ∈ scope.names))
  have keepC : ∀ {y : Str} {a : Addr} {v : Option Value}, X.env.cells.lookup y = some a → s.heap.IsCell a v → hN.IsCell a v := fun {y a v} e ⟨o, ho, hd⟩ => by
    obtain ⟨sl, z⟩ := un.any ho (J.freeC y a e) (nx y a e)
    exact ⟨_, kp _ _ z, hd⟩
  have none0 : ∀ a : Addr, a ∉ (LamX.lamCx X A outer sE HZ E scope f b).ex := fun a z => absurd (show a ∈ ([] : List Addr) from z) (by simp)
  have ok : (LamX.lamCx X A outer sE HZ E scope f b).Ok := by
    refine ⟨e0.mod, D.kd, rfl, rfl, Nat.le_refl _, fun y z a e1 e2 => J.ok.inj y z a (back e1) (back e2), fun y hy => ?_, fun y a z _ => ?_, fun _ => nh, Around.frames_deeper e0.frames, .inr ⟨rfl, rfl⟩, fun a z => absurd z (none0 a), e0.bs, e0.bsz, fun a _ _ => none0 a, fun a z => absurd z (none0 a), e0.funs, e0.frf⟩
    · have hy : scope.names.lookup y = some .cell ∨ scope.names.lookup y = some .free := hy
      exact hy.elim (fun z => absurd rfl (D.nc _ (PySem.mem_of_lookup z))) fwd
    · exact absurd (show false = true from z) (by decide)
  refine ⟨ok, rfl, e0.bare, Un.kept kp, ⟨_, ns, fun i y v e1 e2 e3 => ?_⟩, fun y a e => ?_, e0.hok.fresh (Nat.le_refl _), fun y a e => ?_, fun q hq => absurd (show q ∈ ([] : List (Addr × Obj)) ++ [] from hq) (by simp), e0.hok.kept kp, J.len⟩
  · have e3 : Vis scope y := e3
    have e1 : X.N[i]? = some y := e1
    rcases e3 with k | k | k
    · exact absurd (List.mem_of_getElem? e1) (D.nl _ (PySem.mem_of_lookup k) rfl)
    · exact absurd rfl (D.nc _ (PySem.mem_of_lookup k))
    · obtain ⟨m, _, hl⟩ := J.loc
      have tk2 := D.tk _ (PySem.mem_of_lookup k) rfl
      obtain ⟨u, r, q⟩ := hl i y v e1 e2 (tk2.elim (fun z => .inr (.inl z)) fun z => .inr (.inr z))
      obtain ⟨a, ha⟩ := fwd k
      refine ⟨u, r, .inr ⟨.inr k, a, ha, ?_⟩⟩
      rcases q with ⟨k', _⟩ | ⟨_, a3, e', z⟩
      · have k' : X.env.scope.names.lookup y = some .local := k'
        rcases tk2 with k2 | k2 <;> exact absurd (k'.symm.trans k2) (by simp)
      · have : a3 = a := Option.some.inj (e'.symm.trans (back ha))
        subst this
        exact keepC (back ha) z
  · obtain ⟨u, z⟩ := J.cell y a (back e)
    exact ⟨u, keepC (back e) z⟩
  · obtain ⟨v, o, ho, _⟩ := J.cell y a (back e)
    exact un.free a o ho (J.freeC y a (back e)) (nx y a (back e))
theorem lamv_actE {sB : Shared} {HB : Hp} {scB : Scope} {ceB : Env} {fpB : List Addr} {pins0 : List (Addr × Obj)} {σ0 : L2.St} {CXg : CXT} {Eg : XK} {Ng : List Str} {qg : Str} {sg : Scope} {g f b : Addr} {cdg : Value} {I : LamI} {o : Obj} {w : HO} {k i : Nat} {a : Str} {pn : List (Addr × Obj)} {xe : Value → Shared → Prop} {W : WX} {E : XK} {tb : TE} {p1 p2 : Pos} {dV doc pm ctv : Value}
    (I0 : Inv X pins0 σ0 HB sB) (nx : ∀ b ∈ fpB, ∀ x c, X.env.cells.lookup x = some c → c ≠ b) (J : Inv (X.blk sB HB scB ceB fpB) pins σ H s) (D : LamOk X.N X.env.scope I) (fo : H f = some (.frz o w)) (eo : o = PySem.W.kdv_obj "<lambda>" I.qual I.params (.expr I.body) I.scope (cloFrom X.env.cells I.scope.names []) dV doc pm b ctv)
    (dv : match I.own with | none => dV = .none | some _ => ∃ t u g, dV = .ref t ∧ H t = some (.frz (PySem.W.kdv_tup [u]) g)) (hco : H b = some (LamX.CodeO b I.qual)) (eq : I.qual = X.env.qual ++ "<lambda>")
    (tk : Takes ((cxOf CXg X.prog X.w X.K X.mg X.base Ng qg sg g cdg X.A X.stack s H Eg).tr pn xe) W) (hW : ∀ cls d σ' H', E cls d H' → W cls d σ' H') (rm : Room (k + 1) (X.A.deeper (envOfC qg sg s.heap.objs.size g cdg)))
    (bd : ∀ (A : Around) (outer : List Env) (s : Shared) (H : Hp), Room k (A.deeper (LamX.lamEnv X I.scope s.heap.objs.size f b)) → PE (LamX.lamCx X A outer s H E I.scope f b) I.body tb)
    (nN : Ng[i]? = some a) (va : Vis sg a) (da : (a == ("__debug__" : Str)) = false := by decide) (ca : (a == ("__classdict__" : Str)) = false := by decide) :
    PE ((cxOf CXg X.prog X.w X.K X.mg X.base Ng qg sg g cdg X.A X.stack s H Eg).tr pn xe) (.Call (.Name a p1) [] [] p2)
      (fun σ2 H2 R => σ2[i]? = some (some (.ref f)) ∧ H2 b = some (LamX.CodeO b I.qual) ∧ tb σ0 H2 R) := by
  refine ⟨fun pins2 s2 σ2 H2 R J2 hyp => ?_⟩
  obtain ⟨hs, hc, ht⟩ := hyp
  have rd := (pe_var (X := (cxOf CXg X.prog X.w X.K X.mg X.base Ng qg sg g cdg X.A X.stack s H Eg).tr pn xe) (pos := p1) (i := i) nN va da ca).run pins2 s2 σ2 H2 (fun v H1 => v = .ref f ∧ H1 = H2) J2 ⟨.ref f, hs, rfl, rfl⟩
  refine wpAny_Call_Name_kw (thn rd fun w' s3 ⟨v, H3, J3, rw3, eq3⟩ => ?_)
  obtain ⟨rfl, rfl⟩ := eq3
  obtain rfl : w' = Value.ref f := rw3
  have un3 : Un (frs X.stack) [] H H3 s.heap s3.heap := J3.base
  have fo3 : s3.heap.get? f = some o := (J3.hok f _ (un3.frzs _ _ _ fo)).1
  have dv3 : match I.own with | none => dV = .none | some _ => ∃ t u, dV = .ref t ∧ s3.heap.get? t = some (PySem.W.kdv_tup [u]) := by
    split
    · rename_i e0
      rw [e0] at dv
      exact dv
    · rename_i e0
      rw [e0] at dv
      obtain ⟨t, u, g, e1, e2⟩ := dv
      exact ⟨t, u, e1, (J3.hok t _ (un3.frzs _ _ _ e2)).1⟩
  have hbd : ∃ bs : List (Str × Value), (∀ y ∈ bs, I.scope.names.lookup y.1 = some .local) ∧ BindsTo s3 (PySem.W.kdv_fn "<lambda>" I.qual I.params (.expr I.body) I.scope (cloFrom X.env.cells I.scope.names []) dV doc pm (.ref b) ctv) ⟨[], []⟩ bs := by
    cases e0 : I.own with
    | none =>
      rw [e0] at dv3
      subst dv3
      exact ⟨[], fun y hy => (nomatch hy), D.bd0 e0 _ _ _ _ _ _⟩
    | some z =>
      rw [e0] at dv3
      obtain ⟨t, u, e1, e2⟩ := dv3
      subst e1
      exact ⟨[(z, u)], fun y hy => by rw [List.mem_singleton.mp hy]; exact D.loc z e0, D.bd1 z e0 _ _ _ _ _ _ _ _ e2⟩
  obtain ⟨bs, hbl, hbd⟩ := hbd
  rw [eo] at fo3
  refine PySem.W.callWith_F0 ⟨_, _, _, _, fo3⟩ ?_
  obtain ⟨⟨oc, vs, tt, hoc, hdc, hvc⟩, _, _⟩ := J3.hok b _ hc
  have run : codeAny (model X.prog X.w) (X.A.deeper (envOfC qg sg s.heap.objs.size g cdg)) (.call (.ref f) ⟨[], []⟩) (CR (L2.CX X.prog X.w) (envOfC qg sg s.heap.objs.size g cdg :: X.stack) X.prog X.w H3 s3 R E) s3 := by
    refine PySem.W.kla_callFunE rm.depth fo3 rfl D.D.nco D.D.nge rfl ⟨b, oc, vs, tt, rfl, hoc, hdc, hvc⟩ (hbd _ _ _ _ ?_)
    refine wpAny_newFunctionEnv D.D.nc hbl (fun hN ns sb => ⟨J3.nolimit.fresh _ sb, ?_⟩) D.D.kd
    rw [eq]
    show codeAny _ _ (.expr I.body (LamX.lamEnv X I.scope s3.heap.objs.size f b)) _ _
    have kp : ∀ d o, s3.heap.get? d = some o → hN.get? d = some o := fun d o e => sb.extBut d o (Nat.ne_of_lt (Heap.lt_size e)) (Heap.get?_push_of_some _ e)
    have unB : Un (frs X.stack) fpB HB H3 sB.heap s3.heap := Un.trans (show Un (frs X.stack) fpB HB H sB.heap s.heap from J.base) (un3.mono (fun _ z => z) fun _ z => by cases z)
    have JL := lamd_startE (A := X.A.deeper (envOfC qg sg s.heap.objs.size g cdg)) (outer := envOfC qg sg s.heap.objs.size g cdg :: X.stack) (E := E) (f := f) (b := b) (tk := s3.toks + bs.length) I0 D.D J3.env0 rm.hd unB (fun x c e z => nx c z x c e rfl) ns kp
    refine PySem.W.kla_codeExpr (wpAny_mono ((bd _ _ s3 H3 (rm.deeper _)).run [] _ _ H3 R JL ht) (fun v s4 hq => ?_) fun _ _ hq => hq)
    obtain ⟨v', H4, J4, rv, q⟩ := hq
    exact ⟨v', H4, J4.os, J4.bare, J4.base, J4.hok, rv, q⟩
  have hx : Passes (L2.CX X.prog X.w) ((cxOf CXg X.prog X.w X.K X.mg X.base Ng qg sg g cdg X.A X.stack s H Eg).tr pn xe) E := passes_call tk hW
  refine wpAny_call (codeAny_mono run fun r s4 hq => ?_)
  rcases r with e | fl
  · exact hx pins2 σ2 H3 s3 e s4 J3 hq
  · cases fl with
    | ret v => exact J3.after hq
    | _ => exact hq.elim
end
mutual
def D.pur : D → Bool
  | .tup ds => D.purs ds
  | .frl ds => D.purs ds
  | .ref _ => false
  | .exn _ _ _ _ => false
  | .non => true
  | .bl _ => true
  | .int _ => true
  | .str _ => true
def D.purs : List D → Bool
  | [] => true
  | d :: ds => D.pur d && D.purs ds
end
section
variable {K : PySem.W.Frag} {m m' : List Addr} {H H' : Hp}
mutual
theorem RV.pur (ht : ∀ b xs, H b = some (.tup xs) → H' b = some (.tup xs)) (hf : ∀ b o u, H b = some (.frz o u) → H' b = some (.frz o u)) : ∀ (d : D) {v : V}, d.pur = true → RV K m H d v → RV K m' H' d v
  | .non, _, _, h => h
  | .bl _, _, _, h => h
  | .int _, _, _, h => h
  | .str _, _, _, h => h
  | .tup ds, _, p, ⟨a, vs, e, s, r⟩ => ⟨a, vs, e, (by
      rcases s with (z | ⟨o, z⟩) | z
      · exact .inl (.inl (ht _ _ z))
      · exact .inl (.inr ⟨o, hf _ _ _ z⟩)
      · exact .inr z), RVs.pur ht hf ds p r⟩
  | .frl ds, _, p, ⟨a, vs, e, s, r⟩ => ⟨a, vs, e, (by
      rcases s with ⟨o, z⟩ | z
      · exact .inl ⟨o, hf _ _ _ z⟩
      · exact .inr z), RVs.pur ht hf ds p r⟩
  | .ref _, _, p, _ => by cases p
  | .exn _ _ _ _, _, p, _ => by cases p
theorem RVs.pur (ht : ∀ b xs, H b = some (.tup xs) → H' b = some (.tup xs)) (hf : ∀ b o u, H b = some (.frz o u) → H' b = some (.frz o u)) : ∀ (ds : List D) {vs : List V}, D.purs ds = true → RVs K m H ds vs → RVs K m' H' ds vs
  | [], _, _, h => h
  | d :: ds, _, p, ⟨v, vs', e, r, t⟩ => by
    have p' : (D.pur d && D.purs ds) = true := p
    rw [Bool.and_eq_true] at p'
    exact ⟨v, vs', e, RV.pur ht hf d p'.1 r, RVs.pur ht hf ds p'.2 t⟩
end
end
def maskD (sd : Sl) : Sl := sd.map fun o => match o with
  | some d => if d.pur then some d else none
  | none => none
theorem mask_rl {K : PySem.W.Frag} {m m' : List Addr} {H H' : Hp} {sd : Sl} {σ : L2.St} (rl : RSl K m H sd σ) (ht : ∀ b xs, H b = some (.tup xs) → H' b = some (.tup xs)) (hf : ∀ b o u, H b = some (.frz o u) → H' b = some (.frz o u)) : RSl K m' H' (maskD sd) σ := by
  refine ⟨by unfold maskD; rw [List.length_map]; exact rl.len, fun i d e => ?_⟩
  unfold maskD at e
  rw [List.getElem?_map] at e
  cases h : sd[i]? with
  | none => rw [h] at e; cases e
  | some o =>
    rw [h] at e
    cases o with
    | none => cases e
    | some d' =>
      have e' : (if d'.pur = true then some d' else none) = some d := by simpa using e
      split at e'
      · rename_i hp
        cases e'
        obtain ⟨v, e1, e2⟩ := rl.at_ i d h
        exact ⟨v, e1, RV.pur ht hf d hp e2⟩
      · cases e'
end DL

namespace DL
open PySem PySem.Spec PyProof.Rows L2
section
variable {cl : Cl} {X : Cx} {E : XK} {sB : Shared} {HB : Hp} {scB : Scope} {ceB : Env} {fpB : List Addr} {pins0 : List (Addr × Obj)} {σ0 : L2.St} {m0 : List Addr} {sd0 : Sl} {x a : Str} {g : Addr} {k : Nat} {pg : Arguments} {bg : List Stmt} {sg sc : Scope} {N Ng : List Str} {Fx : Exc → Sto → Res D} {pins : List (Addr × Obj)} {σ : L2.St} {R : VK} {H1 : Hp} {s1 : Shared}
  {f : Addr} {o : Obj} {w : HO} {i : Nat} {fb : Sl → Sto → Res D} {m : List Addr} {S : Sto} {dV kV doc pm cdv ct oc : Value} {an od : Option Addr} {osl : Array (Option Value)}
theorem runA {fs : Nat → Option (Sl → Sto → Res D)} (lk : X.K.lookup g = some ⟨oc, od, .func (PySem.W.fnOf x x pg bg sg dV kV doc pm an cdv ct), osl⟩) (hcc : PySem.W.codeIn X.K cdv x = true) (hB : Binds X.K (PySem.W.fnOf x x pg bg sg dV kV doc pm an cdv ct) [a] [])
    (I0 : Inv X pins0 σ0 HB sB) (rl0 : RSl X.K m0 HB sd0 σ0) (nx : ∀ b ∈ fpB, ∀ x c, X.env.cells.lookup x = some c → c ≠ b) (co : Cok (X.blk sB HB scB ceB fpB) E (k + 2)) (Sg : FnScope Ng [a] sg) (hNg : Ng[0]? = some a) (hva : Vis sg a)
    (hG : ∀ cdv (q0 : Str), LamX.GivesTo (X.blk sB HB scB ceB fpB) Ng x sg g cdv bg a q0 (TKind cl X.K Fx)) (L : LamSet cl X k fs) (J1 : Inv (X.blk sB HB scB ceB fpB) pins σ H1 s1)
    (fo : H1 f = some (.frz o w)) (hfs : fs i = some fb) (hlam : cl.lam i H1 o) (rs : RS cl X.K m S H1) (hp : Post cl X.K (RV X.K) m H1 E R (dKind Fx fb (maskD sd0) S))
    (hd : (a == ("__debug__" : Str)) = false := by decide) (hcd : (a == ("__classdict__" : Str)) = false := by decide) :
    codeAny (model X.prog X.w) X.A (.call (.ref g) ⟨[.ref f], []⟩) (CR C8.CX0 (X.blk sB HB scB ceB fpB).stack X.prog X.w H1 s1 R C8.E0) s1 := by
  let t0 : (Sl → Sto → Res D) → XK → TE := fun fb E' σ H Q => ∃ m S sd, RS cl X.K m S H ∧ RSl X.K m H sd σ ∧ Post cl X.K (RV X.K) m H E' Q (fb sd S)
  obtain ⟨I, hl, D, eq, hbody⟩ := L.all i fb hfs
  obtain ⟨dV', doc', pm', ctv', b, eo, hco, dv⟩ := hl _ _ hlam
  have unB : Un (frs X.stack) fpB HB H1 sB.heap s1.heap := J1.base
  have hT : TKind cl X.K Fx (fun E H' R' => t0 fb E σ0 H' R') H1 R := by
    refine ⟨m, S, maskD sd0, rs, mask_rl rl0 unB.tups unB.frzs, ?_⟩
    unfold dKind at hp
    cases hres : fb (maskD sd0) S with
    | ok d S2 =>
      rw [hres] at hp
      exact hp
    | exc q S2 =>
      rw [hres] at hp
      dsimp only at hp
      intro m' dd H' x' k' rs' rx
      refine ⟨q, m', S2, rfl, rs', rx, ?_⟩
      cases hq : Fx q S2 with
      | ok d S3 =>
        rw [hq] at hp
        exact Post.mono x' k' hp
      | exc y S3 => rw [hq] at hp; exact hp.elim
      | stuck => rw [hq] at hp; exact hp.elim
    | stuck =>
      rw [hres] at hp
      exact hp.elim
  have run : codeAny (model X.prog X.w) X.A (.call (.ref g) ⟨[.ref f], []⟩) (CR C8.CX0 (X.blk sB HB scB ceB fpB).stack X.prog X.w H1 s1 R C8.E0) s1 := by
    refine LamX.run_ofS (N := Ng) (ps := [a]) (us := [.ref f]) (vs := [.ref f]) lk hcc Sg co.hr J1.env0 (hB s1 [.ref f] J1.kIn rfl) (.cons rfl .nil) rfl fun rm2 => ?_
    obtain ⟨t', ht', hq'⟩ := hG cdv I.qual f b s1 H1 R (fun E H' R' => t0 fb E σ0 H' R') (fun W pn xe E p1 p2 tk hW => by
      have z := lamv_actE (i := 0) (p1 := p1) (p2 := p2) (tb := t0 fb E) I0 nx J1 D fo eo dv hco eq tk hW rm2 (fun A outer s H rm3 => ?_) hNg hva hd hcd
      · exact z
      · have tk : Takes (LamX.lamCx X A outer s H E I.scope f b) (fun cls d _ H => E cls d H) := takes_of rfl rfl rfl rfl
        obtain ⟨t', p', hh⟩ := hbody A outer s H E f b ⟨rfl, passes_call tk fun _ _ _ _ h => h, tk, passes_of rfl, rm3, co.nd⟩
        refine ⟨fun pins s' σ H' Q J' h => ?_⟩
        obtain ⟨m, S, sd, rs, rl, h⟩ := h
        exact p'.run pins s' σ H' Q J' (hh m S H' sd σ Q rs rl h)) hco hT
    exact ⟨t', ht'.nox, hq'⟩
  exact run
theorem runB {Y : Cx} {ds : List D} {vs : List V} {fs : Nat → Option (Sl → Sto → Res D)} (lk : Y.K.lookup g = some ⟨oc, od, .func (PySem.W.fnOf x x pg bg sg dV kV doc pm an cdv ct), osl⟩) (hcc : PySem.W.codeIn Y.K cdv x = true) (hB : Binds Y.K (PySem.W.fnOf x x pg bg sg dV kV doc pm an cdv ct) [a] [])
    (co : Cok Y E (k + 2)) (Sg : FnScope Ng [a] sg) (hNg : Ng[0]? = some a) (hva : Vis sg a)
    (hG : ∀ cdv (q0 : Str), LamX.GivesTo Y Ng x sg g cdv bg a q0 (TKind cl Y.K Fx)) (nd : N.Nodup) (L : LamSetB cl Y N sc k fs) (J1 : Inv Y pins σ H1 s1)
    (fo : H1 f = some (.frz o w)) (hfs : fs i = some fb) (hlam : cl.lmb i vs H1 o) (rs : RS cl Y.K m S H1) (rv : RVs Y.K m H1 ds vs) (hp : Post cl Y.K (RV Y.K) m H1 E R (dKind Fx fb (ds.map some) S))
    (hd : (a == ("__debug__" : Str)) = false := by decide) (hcd : (a == ("__classdict__" : Str)) = false := by decide) :
    codeAny (model Y.prog Y.w) Y.A (.call (.ref g) ⟨[.ref f], []⟩) (CR C8.CX0 Y.stack Y.prog Y.w H1 s1 R C8.E0) s1 := by
  let t0 : (Sl → Sto → Res D) → XK → TE := fun fb E' σ H Q => ∃ H0 m S sd, RS (cl.at_ H0) Y.K m S H ∧ RSl Y.K m H sd σ ∧ Post (cl.at_ H0) Y.K (RV Y.K) m H E' Q (fb sd S)
  obtain ⟨I, hl, D, hbody⟩ := L.all i fb hfs
  obtain ⟨clo, ⟨dV', doc', pm', ctv', b, eo, hco, dv⟩, V⟩ := hl _ _ _ hlam
  have run : codeAny (model Y.prog Y.w) Y.A (.call (.ref g) ⟨[.ref f], []⟩) (CR C8.CX0 Y.stack Y.prog Y.w H1 s1 R C8.E0) s1 := by
    refine LamX.run_ofS (N := Ng) (ps := [a]) (us := [.ref f]) (vs := [.ref f]) lk hcc Sg co.hr J1.env0 (hB s1 [.ref f] J1.kIn rfl) (.cons rfl .nil) rfl fun rm2 => ?_
    have hT : TKind cl Y.K Fx (fun E H2 R' => CloV I.scope N vs H2 clo → t0 fb (backX (clo.map Prod.snd) H2 E) (vs.map some) (dropC (clo.map Prod.snd) H2) fun v H' => (∀ c ∈ clo.map Prod.snd, H' c = none) → R' v (backC (clo.map Prod.snd) H2 H')) H1 R := by
      intro _
      refine ⟨H1, m, S, ds.map some, rs.drop V.pin L.nc J1.hok, rsl_map (RVs.drp V.pin _ rv), ?_⟩
      unfold dKind at hp
      cases hres : fb (ds.map some) S with
      | ok d S2 =>
        rw [hres] at hp
        intro m' v H' x' k' rs' rv' z
        exact hp m' v _ x' (keep_back0 V.pin k') (rs'.back_ V.pin k' z) (RV.mono (Ext.refl _) (keep_back z) _ rv')
      | exc q S2 =>
        rw [hres] at hp
        dsimp only at hp
        intro m' dd H' x' k' rs' rx z
        refine ⟨q, m', S2, rfl, rs'.back_ V.pin k' z, rx.keep (keep_back z), ?_⟩
        cases hq : Fx q S2 with
        | ok d S3 =>
          rw [hq] at hp
          exact Post.mono x' (keep_back0 V.pin k') hp
        | exc y S3 => rw [hq] at hp; exact hp.elim
        | stuck => rw [hq] at hp; exact hp.elim
      | stuck =>
        rw [hres] at hp
        exact hp.elim
    obtain ⟨t', ht', hq'⟩ := hG cdv I.qual f b s1 H1 R (fun E H2 R' => CloV I.scope N vs H2 clo → t0 fb (backX (clo.map Prod.snd) H2 E) (vs.map some) (dropC (clo.map Prod.snd) H2) fun v H' => (∀ c ∈ clo.map Prod.snd, H' c = none) → R' v (backC (clo.map Prod.snd) H2 H')) (fun W pn xe E p1 p2 tk hW =>
      lb_act (i := 0) (p1 := p1) (p2 := p2) (tb := t0 fb) J1 D V fo eo dv hco tk hW rm2 (fun A outer s H E rm3 => by
        have tk : Takes (lbCx Y N I.qual clo A outer s H E I.scope f b) (fun cls d _ H => E cls d H) := takes_of rfl rfl rfl rfl
        refine ⟨fun pins s' σ H' Q J' h => ?_⟩
        obtain ⟨H0, m, S, sd, rs, rl, h⟩ := h
        obtain ⟨t', p', hh⟩ := hbody H0 clo A outer s H E f b ⟨rfl, passes_call tk fun _ _ _ _ h => h, tk, passes_of rfl, rm3, nd⟩
        exact p'.run pins s' σ H' Q J' (hh m S H' sd σ Q rs rl h)) hNg hva hd hcd) hco hT
    exact ⟨t', ht'.nox, hq'⟩
  exact run
def dKindX (Fx : Exc → Sto → Res D) (fs gs : Nat → Option (Sl → Sto → Res D)) (fe : Sl → Sto → Res D) (sd0 : Sl) : Sl → Sto → Res D := fun sd S => (fe sd S).bind fun d S1 => match d with
  | .ref l => (match S1[l]? with
    | some (.dic 5 [(.int i, .non)]) => (match fs i.toNat with
      | some fb => dKind Fx fb (maskD sd0) S1
      | none => .stuck)
    | some (.dic 7 [(.int i, .tup ds)]) => (match gs i.toNat with
      | some fb => dKind Fx fb (ds.map some) S1
      | none => .stuck)
    | _ => .stuck)
  | _ => .stuck
def tKX (cl : Cl) (K : PySem.W.Frag) (E : XK) (fs gs : Nat → Option (Sl → Sto → Res D)) (Fx : Exc → Sto → Res D) (sd0 : Sl) (ta : TE) : TE := fun σ H Q => ta σ H fun v H1 => ∃ (f : Addr) (o : Obj) (w : HO) (i : Nat) (fb : Sl → Sto → Res D) (m : List Addr) (S : Sto),
  v = .ref f ∧ H1 f = some (.frz o w) ∧ RS cl K m S H1 ∧ ((fs i = some fb ∧ cl.lam i H1 o ∧ Post cl K (RV K) m H1 E Q (dKind Fx fb (maskD sd0) S)) ∨ ∃ ds vs, gs i = some fb ∧ cl.lmb i vs H1 o ∧ RVs K m H1 ds vs ∧ Post cl K (RV K) m H1 E Q (dKind Fx fb (ds.map some) S))
theorem de_kindX {fd : FuncData} {e : Expr} {p pos : Pos} {fe : Sl → Sto → Res D} {fs gs : Nat → Option (Sl → Sto → Res D)} {kA kB : Nat}
    (I0 : Inv X pins0 σ0 HB sB) (rl0 : RSl X.K m0 HB sd0 σ0) (nx : ∀ b ∈ fpB, ∀ x c, X.env.cells.lookup x = some c → c ≠ b) (coA : Cok (X.blk sB HB scB ceB fpB) E (kA + 2)) (coB : Cok (X.blk sB HB scB ceB fpB) E (kB + 2)) (hg : Gl (X.blk sB HB scB ceB fpB) x) (hm : X.mg x = some (.ref g)) (Fu : FunD X.K x x pg bg sg [] [] g fd) (Sg : FnScope Ng [a] sg)
    (hb : ∀ (kV doc pm : Value) (an : Option Addr) (cdv ct : Value) (us : List Value), us.length = [a].length → bindArgs (PySem.W.fnOf x x pg bg sg .none kV doc pm an cdv ct) ⟨us, []⟩ = pure ([a].zip us)) (hNg : Ng[0]? = some a) (hva : Vis sg a)
    (hG : ∀ cdv (q0 : Str), LamX.GivesTo (X.blk sB HB scB ceB fpB) Ng x sg g cdv bg a q0 (TKind cl X.K Fx)) (L : LamSet cl X kA fs) (nd : N.Nodup) (M : LamSetB cl (X.blk sB HB scB ceB fpB) N sc kB gs) (he : DE cl (X.blk sB HB scB ceB fpB) E e fe)
    (na : starEach [e] ceB = (false, eval e ceB) :: starEach [] ceB := by rfl)
    (hdb : (x == ("__debug__" : Str)) = false := by decide) (hd : (a == ("__debug__" : Str)) = false := by decide) (hcd : (a == ("__classdict__" : Str)) = false := by decide) :
    DE cl (X.blk sB HB scB ceB fpB) E (.Call (.Name x p) [e] [] pos) (dKindX Fx fs gs fe sd0) := by
  have hB : Binds X.K fd [a] [] := Fu.bindsN hb
  have hkp := Fu.kp
  obtain ⟨oc, od, dV, kV, doc, pm, an, cdv, ct, osl, rfl, lk, hcc, _, _⟩ := Fu.ex
  obtain ⟨te, pe, he⟩ := he
  refine ⟨tKX cl X.K E fs gs Fx sd0 te, ⟨fun pins s σ H R J hyp => ?_⟩, fun m S H sd σ Q rs rl h => ?_⟩
  · refine wpAny_Call_Name_kw (ld_glob J hg hm (PySem.W.callWith_K (h₀ := X.base) J.ok.mod.kin hkp ?_ na (by rfl)) hdb)
    rw [na]
    show wpAny _ _ (spliced ((false, eval e ceB) :: backTo pos (starEach [] ceB))) _ _ s
    refine Calls.spliced_cons (thn (pe.run pins s σ H _ J hyp) fun v s1 ⟨v', H1, J1, rv1, q1⟩ => Calls.spliced_nil ⟨J1.kIn, ?_⟩)
    obtain ⟨f, o, w, i, fb, m, S, rfl, fo, rs, q1⟩ := q1
    cases rv1
    have run : codeAny (model X.prog X.w) X.A (.call (.ref g) ⟨[.ref f], []⟩) (CR C8.CX0 (X.blk sB HB scB ceB fpB).stack X.prog X.w H1 s1 R C8.E0) s1 := by
      rcases q1 with ⟨hfs, hlam, hp⟩ | ⟨ds, vs, hfs, hlam, rv, hp⟩
      · exact runA lk hcc hB I0 rl0 nx coA Sg hNg hva hG L J1 fo hfs hlam rs hp hd hcd
      · exact runB (Y := X.blk sB HB scB ceB fpB) lk hcc hB coB Sg hNg hva hG nd M J1 fo hfs hlam rs rv hp hd hcd
    refine wpAny_call (codeAny_mono run fun r s2 hq => ?_)
    rcases r with e | fl
    · exact (show False from hq).elim
    · cases fl with
      | ret v => exact J1.after hq
      | _ => exact hq.elim
  · refine he m S H sd σ _ rs rl (Post.bind h fun d S1 m1 v H1 x1 k1 rs1 rv1 h1 => ?_)
    split at h1
    · rename_i l
      split at h1
      · rename_i i e1
        obtain ⟨f, g1, i', o, w, e2, fo, hlam⟩ := rs1.adr e1
        obtain ⟨f', g2, rfl⟩ := rv1
        rw [g1] at g2; cases g2
        simp only [List.cons.injEq, Prod.mk.injEq, D.int.injEq, and_true] at e2
        subst e2
        split at h1
        · rename_i fb hfs
          exact ⟨f, o, w, i.toNat, fb, m1, S1, rfl, fo, rs1, .inl ⟨hfs, hlam _ (Keep.refl _), h1⟩⟩
        · exact h1.elim
      · rename_i i ds e1
        obtain ⟨f, g1, i', ds', vs, o, w, e2, fo, rvs, hlam⟩ := rs1.adr e1
        obtain ⟨f', g2, rfl⟩ := rv1
        rw [g1] at g2; cases g2
        simp only [List.cons.injEq, Prod.mk.injEq, D.int.injEq, D.tup.injEq, and_true] at e2
        obtain ⟨e2, e3⟩ := e2
        subst e2
        subst e3
        split at h1
        · rename_i fb hfs
          exact ⟨f, o, w, i.toNat, fb, m1, S1, rfl, fo, rs1, .inr ⟨ds, vs, hfs, hlam _ (Keep.refl _), rvs, h1⟩⟩
        · exact h1.elim
      · exact h1.elim
    · exact h1.elim
end
end DL

namespace DL
open PySem PySem.Spec PyProof.Rows L2
section
variable {X : Cx}
end
end DL
namespace DL
open PySem PySem.Spec PyProof.Rows L2
section
variable {cl : Cl} {X : Cx} {E : XK}
end
end DL

namespace DL
open PySem PySem.Spec PyProof.Rows L2
def LamN (N : List Str) (scope : Scope) (ks : List Nat) : Prop := ∀ (i : Nat) (y : Str), N[i]? = some y → scope.names.lookup y = some .local → i ∈ ks
section
variable {cl : Cl} {X : Cx} {E : XK}
end
section
variable {cl : Cl} {X : Cx} {k : Nat} {ks : List Nat}
def LamPZ (cl : Cl) (X : Cx) (k : Nat) (ks : List Nat) (i : Nat) (fb : Sl → Sto → Res D) : Prop := ∃ I : LamI, (∀ H o, cl.lam i H o → LamIs I (cloFrom X.env.cells I.scope.names []) H o) ∧ LamOk [] X.env.scope I ∧ LamN X.N I.scope ks ∧ I.qual = X.env.qual ++ "<lambda>" ∧
    ∀ (A : Around) (outer : List Env) (s : Shared) (H : Hp) (E : XK) (f c' : Addr), Cok (LamX.lamCx X A outer s H E I.scope f c') E k → DE cl (LamX.lamCx X A outer s H E I.scope f c') E I.body fb
structure LamSetZ (cl : Cl) (X : Cx) (k : Nat) (ks : List Nat) (fs : Nat → Option (Sl → Sto → Res D)) : Prop where
  all : ∀ (i : Nat) (fb : Sl → Sto → Res D), fs i = some fb → LamPZ cl X k ks i fb
end
section
variable {X : Cx} {pins : List (Addr × Obj)} {σ : L2.St} {H : Hp} {s : Shared} {HZ : Hp} {sE : Shared}
end
end DL

namespace Lw
open PySem PySem.Spec PyProof.Rows L2 DL
def top (i : Nat) : Stmt := PySem.Challenge.pw_tablebeat_k05_plain_machines.main.body.getD i (.Pass ⟨0, 0, 0, 0⟩)
abbrev st__law_start : Stmt := top 98
abbrev st__law_drawn : Stmt := top 99
abbrev st__law_deed : Stmt := top 104
abbrev st__law_plain : Stmt := top 103
abbrev st__law_beat : Stmt := top 106
abbrev st__law_beats : Stmt := top 105
abbrev st__law_at : Stmt := top 107
abbrev st_is_word : Stmt := top 22
abbrev st_is_row : Stmt := top 29
abbrev st_need_plain : Stmt := top 30
abbrev st_need_beats : Stmt := top 25
abbrev st_number_of : Stmt := top 24
abbrev st_deeds_of : Stmt := top 33
abbrev st_plain_run : Stmt := top 32
abbrev st__law_same : Stmt := top 100
abbrev st__law_far : Stmt := top 102
abbrev st__law_odd : Stmt := top 108
abbrev st_least : Stmt := top 40
abbrev st_need_few : Stmt := top 31
abbrev st_parted : Stmt := top 42
abbrev st_rules_of : Stmt := top 51
abbrev st_trees : Stmt := top 68
abbrev st_made_program : Stmt := top 72
abbrev st_made_circuit : Stmt := top 56
abbrev st_need_pattern : Stmt := top 59
abbrev st_never : Stmt := top 62
abbrev st_shows : Stmt := top 64
abbrev st_tour : Stmt := top 80
abbrev st_tour_paper : Stmt := top 81
abbrev st_need_numbers : Stmt := top 82
abbrev st_bound : Stmt := top 83
abbrev st_need_tests : Stmt := top 87
abbrev st_misses : Stmt := top 94
abbrev st_checks : Stmt := top 95
abbrev st_lean : Stmt := top 96
abbrev st__law_more_doors : Stmt := top 109
abbrev st_alike : Stmt := top 43
abbrev st__law_kind : Stmt := top 101
abbrev st_law : Stmt := top 110
abbrev st_x_BadMachine : Stmt := inClass (top 2) 0
abbrev st_x_BadBeat : Stmt := inClass (top 4) 0
abbrev st_x_BadPlain : Stmt := inClass (top 5) 0
abbrev st_x_BadProgram : Stmt := inClass (top 10) 0
abbrev st_x_BadCircuit : Stmt := inClass (top 12) 0
abbrev st_x_BadRows : Stmt := inClass (top 16) 0
abbrev st_x_BadText : Stmt := inClass (top 17) 0
def cn : Nat → Str
  | 0 => "BeatError"
  | 1 => "BadMachine"
  | 2 => "NotSound"
  | 3 => "BadBeat"
  | 4 => "BadPlain"
  | 5 => "TooLarge"
  | 6 => "BadMatch"
  | 7 => "BadMarks"
  | 8 => "BadTree"
  | 9 => "BadProgram"
  | 10 => "Stuck"
  | 11 => "BadCircuit"
  | 12 => "BadPattern"
  | 13 => "BadPairs"
  | 14 => "BadNumbers"
  | 15 => "BadRows"
  | 16 => "BadText"
  | 20 => "Maker"
  | 21 => "Cover"
  | 22 => "Grower"
  | 23 => "Flow"
  | _ => ""
def tq : List (He.Defn × Str) := [(("_law_more_doors", none), "_law_more_doors"), (("law", none), "law")]
def tf : List He.Defn := tq.map Prod.fst
abbrev cl0 (K : PySem.W.Frag) : Cl := ⟨fun c => He.ga K (cn c), tabsQ K tq, fun _ => 0, fun _ _ _ => False, fun _ _ _ _ => False⟩
abbrev clL (K : PySem.W.Frag) (w : World) (lm : LamK1) (lb : LamK2) : Cl := ⟨fun c => He.ga K (cn c), tabsQ K tq, fun k => k.hash w, lm, lb⟩
abbrev lam_0 : LamI := lamOf "law.<locals>.<lambda>" none (pE (pElts (pVal (pS (pBody (pS (defBody st_law) 1)) 8))) 0)
abbrev lam_1 : LamI := lamOf "law.<locals>.<lambda>" (some "_law_a") (pE (pElts (pVal (pS (pBody (pS (defBody st_law) 1)) 8))) 1)
abbrev lam_2 : LamI := lamOf "law.<locals>.<lambda>" (some "_law_b") (pE (pElts (pVal (pS (pBody (pS (defBody st_law) 1)) 8))) 2)
abbrev lam_3 : LamI := lamOf "law.<locals>.<lambda>" (some "_law_f") (pE (pElts (pRight (pVal (pS (pBody (pS (defBody st_law) 1)) 9)))) 0)
abbrev lam_4 : LamI := lamOf "law.<locals>.<lambda>" (some "_law_g") (pE (pElts (pRight (pVal (pS (pBody (pS (defBody st_law) 1)) 9)))) 1)
def lamTab : List LamI := [lam_0, lam_1, lam_2, lam_3, lam_4]
abbrev lamw_0 : LamI := lamOf "_law_more_doors.<locals>.<lambda>" none (pE (pElts (pVal (pS (defBody st__law_more_doors) 0))) 0)
abbrev lamw_1 : LamI := lamOf "_law_more_doors.<locals>.<lambda>" none (pE (pArgs (pExp (pS (defBody st__law_more_doors) 1))) 0)
abbrev lamw_2 : LamI := lamOf "_law_more_doors.<locals>.<lambda>" none (pE (pArgs (pExp (pS (defBody st__law_more_doors) 2))) 0)
abbrev lamw_3 : LamI := lamOf "_law_more_doors.<locals>.<lambda>" none (pE (pArgs (pExp (pS (defBody st__law_more_doors) 3))) 0)
abbrev lamw_4 : LamI := lamOf "_law_more_doors.<locals>.<lambda>" none (pE (pArgs (pExp (pS (defBody st__law_more_doors) 4))) 0)
abbrev lamw_5 : LamI := lamOf "_law_more_doors.<locals>.<lambda>" none (pE (pArgs (pExp (pS (defBody st__law_more_doors) 5))) 0)
abbrev lamw_6 : LamI := lamOf "_law_more_doors.<locals>.<lambda>" none (pE (pArgs (pExp (pS (defBody st__law_more_doors) 6))) 0)
abbrev lamw_7 : LamI := lamOf "_law_more_doors.<locals>.<lambda>" none (pE (pArgs (pExp (pS (defBody st__law_more_doors) 7))) 0)
abbrev lamw_8 : LamI := lamOf "_law_more_doors.<locals>.<lambda>" none (pE (pArgs (pExp (pS (defBody st__law_more_doors) 8))) 0)
abbrev lamw_9 : LamI := lamOf "_law_more_doors.<locals>.<lambda>" none (pE (pArgs (pExp (pS (defBody st__law_more_doors) 9))) 0)
abbrev lamw_10 : LamI := lamOf "_law_more_doors.<locals>.<lambda>" none (pE (pArgs (pExp (pS (defBody st__law_more_doors) 10))) 0)
abbrev lamw_11 : LamI := lamOf "_law_more_doors.<locals>.<lambda>" none (pE (pArgs (pExp (pS (defBody st__law_more_doors) 11))) 0)
abbrev lamTabB : List LamI := [lamw_0, lamw_1, lamw_2, lamw_3, lamw_4, lamw_5, lamw_6, lamw_7, lamw_8, lamw_9, lamw_10, lamw_11]
abbrev capsB : List Str := ["_law_odd_here"]
abbrev lm0 : LamK1 := fun _ _ _ => False
abbrev lb0 : LamK2 := LamB lamTabB capsB
abbrev cl (K : PySem.W.Frag) (w : World) : Cl := clL K w lm0 lb0
def TbA (K : PySem.W.Frag) (mg : Str → Option Value) (base : Heap) : Prop := ∀ t ∈ tf, LamX.TabB base mg (He.cT K t).1 (He.cT K t).2
structure Tx (K : PySem.W.Frag) (mg : Str → Option Value) (w : World) (lm : LamK1) (lb : LamK2) : Prop where
  g__law_start : mg "_law_start" = some (.ref (He.ga K "_law_start"))
  g__law_drawn : mg "_law_drawn" = some (.ref (He.ga K "_law_drawn"))
  g__law_deed : mg "_law_deed" = some (.ref (He.ga K "_law_deed"))
  g__law_plain : mg "_law_plain" = some (.ref (He.ga K "_law_plain"))
  g__law_beat : mg "_law_beat" = some (.ref (He.ga K "_law_beat"))
  g__law_beats : mg "_law_beats" = some (.ref (He.ga K "_law_beats"))
  g__law_at : mg "_law_at" = some (.ref (He.ga K "_law_at"))
  g_is_word : mg "is_word" = some (.ref (He.ga K "is_word"))
  g_is_row : mg "is_row" = some (.ref (He.ga K "is_row"))
  g_need_plain : mg "need_plain" = some (.ref (He.ga K "need_plain"))
  g_need_beats : mg "need_beats" = some (.ref (He.ga K "need_beats"))
  g_number_of : mg "number_of" = some (.ref (He.ga K "number_of"))
  g_deeds_of : mg "deeds_of" = some (.ref (He.ga K "deeds_of"))
  g_plain_run : mg "plain_run" = some (.ref (He.ga K "plain_run"))
  g__law_same : mg "_law_same" = some (.ref (He.ga K "_law_same"))
  g__law_far : mg "_law_far" = some (.ref (He.ga K "_law_far"))
  g__law_odd : mg "_law_odd" = some (.ref (He.ga K "_law_odd"))
  g_least : mg "least" = some (.ref (He.ga K "least"))
  g_need_few : mg "need_few" = some (.ref (He.ga K "need_few"))
  g_parted : mg "parted" = some (.ref (He.ga K "parted"))
  g_rules_of : mg "rules_of" = some (.ref (He.ga K "rules_of"))
  g_trees : mg "trees" = some (.ref (He.ga K "trees"))
  g_made_program : mg "made_program" = some (.ref (He.ga K "made_program"))
  g_made_circuit : mg "made_circuit" = some (.ref (He.ga K "made_circuit"))
  g_need_pattern : mg "need_pattern" = some (.ref (He.ga K "need_pattern"))
  g_never : mg "never" = some (.ref (He.ga K "never"))
  g_shows : mg "shows" = some (.ref (He.ga K "shows"))
  g_tour : mg "tour" = some (.ref (He.ga K "tour"))
  g_tour_paper : mg "tour_paper" = some (.ref (He.ga K "tour_paper"))
  g_need_numbers : mg "need_numbers" = some (.ref (He.ga K "need_numbers"))
  g_bound : mg "bound" = some (.ref (He.ga K "bound"))
  g_need_tests : mg "need_tests" = some (.ref (He.ga K "need_tests"))
  g_misses : mg "misses" = some (.ref (He.ga K "misses"))
  g_checks : mg "checks" = some (.ref (He.ga K "checks"))
  g_lean : mg "lean" = some (.ref (He.ga K "lean"))
  g__law_more_doors : mg "_law_more_doors" = some (.ref (He.ga K "_law_more_doors"))
  g_alike : mg "alike" = some (.ref (He.ga K "alike"))
  g__law_kind : mg "_law_kind" = some (.ref (He.ga K "_law_kind"))
  g_law : mg "law" = some (.ref (He.ga K "law"))
  g_BeatError : mg "BeatError" = some (.ref (He.ga K "BeatError"))
  g_BadMachine : mg "BadMachine" = some (.ref (He.ga K "BadMachine"))
  g_NotSound : mg "NotSound" = some (.ref (He.ga K "NotSound"))
  g_BadBeat : mg "BadBeat" = some (.ref (He.ga K "BadBeat"))
  g_BadPlain : mg "BadPlain" = some (.ref (He.ga K "BadPlain"))
  g_TooLarge : mg "TooLarge" = some (.ref (He.ga K "TooLarge"))
  g_BadMatch : mg "BadMatch" = some (.ref (He.ga K "BadMatch"))
  g_BadMarks : mg "BadMarks" = some (.ref (He.ga K "BadMarks"))
  g_BadTree : mg "BadTree" = some (.ref (He.ga K "BadTree"))
  g_BadProgram : mg "BadProgram" = some (.ref (He.ga K "BadProgram"))
  g_Stuck : mg "Stuck" = some (.ref (He.ga K "Stuck"))
  g_BadCircuit : mg "BadCircuit" = some (.ref (He.ga K "BadCircuit"))
  g_BadPattern : mg "BadPattern" = some (.ref (He.ga K "BadPattern"))
  g_BadPairs : mg "BadPairs" = some (.ref (He.ga K "BadPairs"))
  g_BadNumbers : mg "BadNumbers" = some (.ref (He.ga K "BadNumbers"))
  g_BadRows : mg "BadRows" = some (.ref (He.ga K "BadRows"))
  g_BadText : mg "BadText" = some (.ref (He.ga K "BadText"))
  g_Cover : mg "Cover" = some (.ref (He.ga K "Cover"))
  g_Maker : mg "Maker" = some (.ref (He.ga K "Maker"))
  g_Grower : mg "Grower" = some (.ref (He.ga K "Grower"))
  g_Flow : mg "Flow" = some (.ref (He.ga K "Flow"))
  z_isinstance : mg "isinstance" = none
  z_ValueError : mg "ValueError" = none
  z_range : mg "range" = none
  z_len : mg "len" = none
  z_min : mg "min" = none
  z_tuple : mg "tuple" = none
  z_list : mg "list" = none
  z_enumerate : mg "enumerate" = none
  z_int : mg "int" = none
  z_str : mg "str" = none
  z_bool : mg "bool" = none
  k_MOST_INS : Con0 K mg "MOST_INS" (.int 4)
  k_MOST_OUTS : Con0 K mg "MOST_OUTS" (.int 3)
  k_COUNTS : Con0 K mg "COUNTS" (.tup [(.int 1), (.int 2), (.int 4), (.int 8), (.int 16)])
  k_MOST_PLAIN : Con0 K mg "MOST_PLAIN" (.int 200)
  k_FEW : Con0 K mg "FEW" (.int 24)
  k_MOST_PATTERN : Con0 K mg "MOST_PATTERN" (.int 5)
  k_NEVER : Con0 K mg "NEVER" (.int 1000000)
  k_SMALL : Con0 K mg "SMALL" (.int 6)
  k_MOST_TESTS : Con0 K mg "MOST_TESTS" (.int 200)
  xb : ExB K (clL K w lm lb 0)
  xo_BadMachine : OexC K (clL K w lm lb 1)
  xi_BadMachine : (∀ f ∈ (["why", "spot"] : List Str), PySem.W.findIn K (.ref (clL K w lm lb 1)) f = some none) ∧ PySem.W.findIn K (.ref (clL K w lm lb 1)) "__init__" = some (some (.ref (He.ma K (clL K w lm lb 1) "__init__"))) ∧ PySem.W.typeIn K (.ref (He.ma K (clL K w lm lb 1) "__init__")) = some (.type "function")
  xt_NotSound : ExT K (clL K w lm lb 2)
  xo_BadBeat : OexC K (clL K w lm lb 3)
  xi_BadBeat : (∀ f ∈ (["number"] : List Str), PySem.W.findIn K (.ref (clL K w lm lb 3)) f = some none) ∧ PySem.W.findIn K (.ref (clL K w lm lb 3)) "__init__" = some (some (.ref (He.ma K (clL K w lm lb 3) "__init__"))) ∧ PySem.W.typeIn K (.ref (He.ma K (clL K w lm lb 3) "__init__")) = some (.type "function")
  xo_BadPlain : OexC K (clL K w lm lb 4)
  xi_BadPlain : (∀ f ∈ (["number"] : List Str), PySem.W.findIn K (.ref (clL K w lm lb 4)) f = some none) ∧ PySem.W.findIn K (.ref (clL K w lm lb 4)) "__init__" = some (some (.ref (He.ma K (clL K w lm lb 4) "__init__"))) ∧ PySem.W.typeIn K (.ref (He.ma K (clL K w lm lb 4) "__init__")) = some (.type "function")
  xt_TooLarge : ExT K (clL K w lm lb 5)
  xt_BadMatch : ExT K (clL K w lm lb 6)
  xt_BadMarks : ExT K (clL K w lm lb 7)
  xt_BadTree : ExT K (clL K w lm lb 8)
  xo_BadProgram : OexC K (clL K w lm lb 9)
  xi_BadProgram : (∀ f ∈ (["number"] : List Str), PySem.W.findIn K (.ref (clL K w lm lb 9)) f = some none) ∧ PySem.W.findIn K (.ref (clL K w lm lb 9)) "__init__" = some (some (.ref (He.ma K (clL K w lm lb 9) "__init__"))) ∧ PySem.W.typeIn K (.ref (He.ma K (clL K w lm lb 9) "__init__")) = some (.type "function")
  xt_Stuck : ExT K (clL K w lm lb 10)
  xo_BadCircuit : OexC K (clL K w lm lb 11)
  xi_BadCircuit : (∀ f ∈ (["number"] : List Str), PySem.W.findIn K (.ref (clL K w lm lb 11)) f = some none) ∧ PySem.W.findIn K (.ref (clL K w lm lb 11)) "__init__" = some (some (.ref (He.ma K (clL K w lm lb 11) "__init__"))) ∧ PySem.W.typeIn K (.ref (He.ma K (clL K w lm lb 11) "__init__")) = some (.type "function")
  xt_BadPattern : ExT K (clL K w lm lb 12)
  xt_BadPairs : ExT K (clL K w lm lb 13)
  xt_BadNumbers : ExT K (clL K w lm lb 14)
  xo_BadRows : OexC K (clL K w lm lb 15)
  xi_BadRows : (∀ f ∈ (["number"] : List Str), PySem.W.findIn K (.ref (clL K w lm lb 15)) f = some none) ∧ PySem.W.findIn K (.ref (clL K w lm lb 15)) "__init__" = some (some (.ref (He.ma K (clL K w lm lb 15) "__init__"))) ∧ PySem.W.typeIn K (.ref (He.ma K (clL K w lm lb 15) "__init__")) = some (.type "function")
  xo_BadText : OexC K (clL K w lm lb 16)
  xi_BadText : (∀ f ∈ (["row"] : List Str), PySem.W.findIn K (.ref (clL K w lm lb 16)) f = some none) ∧ PySem.W.findIn K (.ref (clL K w lm lb 16)) "__init__" = some (some (.ref (He.ma K (clL K w lm lb 16) "__init__"))) ∧ PySem.W.typeIn K (.ref (He.ma K (clL K w lm lb 16) "__init__")) = some (.type "function")
  c_Cover : Cls K (clL K w lm lb 21)
  mk_Cover : Mk K (clL K w lm lb 21) (He.ma K (He.ga K "Cover") "__init__")
  c_Maker : Cls K (clL K w lm lb 20)
  mk_Maker : Mk K (clL K w lm lb 20) (He.ma K (He.ga K "Maker") "__init__")
  c_Grower : Cls K (clL K w lm lb 22)
  mk_Grower : Mk K (clL K w lm lb 22) (He.ma K (He.ga K "Grower") "__init__")
  c_Flow : Cls K (clL K w lm lb 23)
  mk_Flow : Mk K (clL K w lm lb 23) (He.ma K (He.ga K "Flow") "__init__")
  tu : tabU K tq = true
  ea : ExAll K (clL K w lm lb) 17
  f__law_start : ∃ fd, FunD K "_law_start" "_law_start" (defArgs st__law_start) (defBody st__law_start) (defScope st__law_start) [] [] (He.fAd K ("_law_start", none)) fd
  f__law_drawn : ∃ fd, FunD K "_law_drawn" "_law_drawn" (defArgs st__law_drawn) (defBody st__law_drawn) (defScope st__law_drawn) [] [] (He.fAd K ("_law_drawn", none)) fd
  f__law_deed : ∃ fd, FunD K "_law_deed" "_law_deed" (defArgs st__law_deed) (defBody st__law_deed) (defScope st__law_deed) [] [] (He.fAd K ("_law_deed", none)) fd
  f__law_plain : ∃ fd, FunD K "_law_plain" "_law_plain" (defArgs st__law_plain) (defBody st__law_plain) (defScope st__law_plain) [] [] (He.fAd K ("_law_plain", none)) fd
  f__law_beat : ∃ fd, FunD K "_law_beat" "_law_beat" (defArgs st__law_beat) (defBody st__law_beat) (defScope st__law_beat) [] [] (He.fAd K ("_law_beat", none)) fd
  f__law_beats : ∃ fd, FunD K "_law_beats" "_law_beats" (defArgs st__law_beats) (defBody st__law_beats) (defScope st__law_beats) [] [] (He.fAd K ("_law_beats", none)) fd
  f__law_at : ∃ fd, FunD K "_law_at" "_law_at" (defArgs st__law_at) (defBody st__law_at) (defScope st__law_at) [] [] (He.fAd K ("_law_at", none)) fd
  f_is_word : ∃ fd, FunD K "is_word" "is_word" (defArgs st_is_word) (defBody st_is_word) (defScope st_is_word) [] [] (He.fAd K ("is_word", none)) fd
  f_is_row : ∃ fd, FunD K "is_row" "is_row" (defArgs st_is_row) (defBody st_is_row) (defScope st_is_row) [] [] (He.fAd K ("is_row", none)) fd
  f_need_plain : ∃ fd, FunD K "need_plain" "need_plain" (defArgs st_need_plain) (defBody st_need_plain) (defScope st_need_plain) [] [] (He.fAd K ("need_plain", none)) fd
  f_need_beats : ∃ fd, FunD K "need_beats" "need_beats" (defArgs st_need_beats) (defBody st_need_beats) (defScope st_need_beats) [] [] (He.fAd K ("need_beats", none)) fd
  f_number_of : ∃ fd, FunD K "number_of" "number_of" (defArgs st_number_of) (defBody st_number_of) (defScope st_number_of) [] [] (He.fAd K ("number_of", none)) fd
  f_deeds_of : ∃ fd, FunD K "deeds_of" "deeds_of" (defArgs st_deeds_of) (defBody st_deeds_of) (defScope st_deeds_of) [] [] (He.fAd K ("deeds_of", none)) fd
  f_plain_run : ∃ fd, FunD K "plain_run" "plain_run" (defArgs st_plain_run) (defBody st_plain_run) (defScope st_plain_run) [] [] (He.fAd K ("plain_run", none)) fd
  f__law_same : ∃ fd, FunD K "_law_same" "_law_same" (defArgs st__law_same) (defBody st__law_same) (defScope st__law_same) [] [] (He.fAd K ("_law_same", none)) fd
  f__law_far : ∃ fd, FunD K "_law_far" "_law_far" (defArgs st__law_far) (defBody st__law_far) (defScope st__law_far) [] [] (He.fAd K ("_law_far", none)) fd
  f__law_odd : ∃ fd, FunD K "_law_odd" "_law_odd" (defArgs st__law_odd) (defBody st__law_odd) (defScope st__law_odd) [] [] (He.fAd K ("_law_odd", none)) fd
  f_least : ∃ fd, FunD K "least" "least" (defArgs st_least) (defBody st_least) (defScope st_least) [] [] (He.fAd K ("least", none)) fd
  f_need_few : ∃ fd, FunD K "need_few" "need_few" (defArgs st_need_few) (defBody st_need_few) (defScope st_need_few) [] [] (He.fAd K ("need_few", none)) fd
  f_parted : ∃ fd, FunD K "parted" "parted" (defArgs st_parted) (defBody st_parted) (defScope st_parted) [] [] (He.fAd K ("parted", none)) fd
  f_rules_of : ∃ fd, FunD K "rules_of" "rules_of" (defArgs st_rules_of) (defBody st_rules_of) (defScope st_rules_of) [] [] (He.fAd K ("rules_of", none)) fd
  f_trees : ∃ fd, FunD K "trees" "trees" (defArgs st_trees) (defBody st_trees) (defScope st_trees) [] [] (He.fAd K ("trees", none)) fd
  f_made_program : ∃ fd, FunD K "made_program" "made_program" (defArgs st_made_program) (defBody st_made_program) (defScope st_made_program) [] [] (He.fAd K ("made_program", none)) fd
  f_made_circuit : ∃ fd, FunD K "made_circuit" "made_circuit" (defArgs st_made_circuit) (defBody st_made_circuit) (defScope st_made_circuit) [] [] (He.fAd K ("made_circuit", none)) fd
  f_need_pattern : ∃ fd, FunD K "need_pattern" "need_pattern" (defArgs st_need_pattern) (defBody st_need_pattern) (defScope st_need_pattern) [] [] (He.fAd K ("need_pattern", none)) fd
  f_never : ∃ fd, FunD K "never" "never" (defArgs st_never) (defBody st_never) (defScope st_never) [] [] (He.fAd K ("never", none)) fd
  f_shows : ∃ fd, FunD K "shows" "shows" (defArgs st_shows) (defBody st_shows) (defScope st_shows) [] [] (He.fAd K ("shows", none)) fd
  f_tour : ∃ fd, FunD K "tour" "tour" (defArgs st_tour) (defBody st_tour) (defScope st_tour) [] [] (He.fAd K ("tour", none)) fd
  f_tour_paper : ∃ fd, FunD K "tour_paper" "tour_paper" (defArgs st_tour_paper) (defBody st_tour_paper) (defScope st_tour_paper) [] [] (He.fAd K ("tour_paper", none)) fd
  f_need_numbers : ∃ fd, FunD K "need_numbers" "need_numbers" (defArgs st_need_numbers) (defBody st_need_numbers) (defScope st_need_numbers) [] [] (He.fAd K ("need_numbers", none)) fd
  f_bound : ∃ fd, FunD K "bound" "bound" (defArgs st_bound) (defBody st_bound) (defScope st_bound) [] [] (He.fAd K ("bound", none)) fd
  f_need_tests : ∃ fd, FunD K "need_tests" "need_tests" (defArgs st_need_tests) (defBody st_need_tests) (defScope st_need_tests) [] [] (He.fAd K ("need_tests", none)) fd
  f_misses : ∃ fd, FunD K "misses" "misses" (defArgs st_misses) (defBody st_misses) (defScope st_misses) [] [] (He.fAd K ("misses", none)) fd
  f_checks : ∃ fd, FunD K "checks" "checks" (defArgs st_checks) (defBody st_checks) (defScope st_checks) [] [] (He.fAd K ("checks", none)) fd
  f_lean : ∃ fd, FunD K "lean" "lean" (defArgs st_lean) (defBody st_lean) (defScope st_lean) [] [] (He.fAd K ("lean", none)) fd
  f__law_more_doors : ∃ fd, FunD K "_law_more_doors" "_law_more_doors" (defArgs st__law_more_doors) (defBody st__law_more_doors) (defScope st__law_more_doors) [] [] (He.fAd K ("_law_more_doors", none)) fd
  f_alike : ∃ fd, FunD K "alike" "alike" (defArgs st_alike) (defBody st_alike) (defScope st_alike) [] [] (He.fAd K ("alike", none)) fd
  f__law_kind : ∃ fd, FunD K "_law_kind" "_law_kind" (defArgs st__law_kind) (defBody st__law_kind) (defScope st__law_kind) [] [] (He.fAd K ("_law_kind", none)) fd
  f_law : ∃ fd, FunD K "law" "law" (defArgs st_law) (defBody st_law) (defScope st_law) [] [] (He.fAd K ("law", none)) fd
  f_x_BadMachine : ∃ fd, FunD K "__init__" "BadMachine.__init__" (defArgs st_x_BadMachine) (defBody st_x_BadMachine) (defScope st_x_BadMachine) [] [] (He.fAd K ("BadMachine", some "__init__")) fd
  f_x_BadBeat : ∃ fd, FunD K "__init__" "BadBeat.__init__" (defArgs st_x_BadBeat) (defBody st_x_BadBeat) (defScope st_x_BadBeat) [] [] (He.fAd K ("BadBeat", some "__init__")) fd
  f_x_BadPlain : ∃ fd, FunD K "__init__" "BadPlain.__init__" (defArgs st_x_BadPlain) (defBody st_x_BadPlain) (defScope st_x_BadPlain) [] [] (He.fAd K ("BadPlain", some "__init__")) fd
  f_x_BadProgram : ∃ fd, FunD K "__init__" "BadProgram.__init__" (defArgs st_x_BadProgram) (defBody st_x_BadProgram) (defScope st_x_BadProgram) [] [] (He.fAd K ("BadProgram", some "__init__")) fd
  f_x_BadCircuit : ∃ fd, FunD K "__init__" "BadCircuit.__init__" (defArgs st_x_BadCircuit) (defBody st_x_BadCircuit) (defScope st_x_BadCircuit) [] [] (He.fAd K ("BadCircuit", some "__init__")) fd
  f_x_BadRows : ∃ fd, FunD K "__init__" "BadRows.__init__" (defArgs st_x_BadRows) (defBody st_x_BadRows) (defScope st_x_BadRows) [] [] (He.fAd K ("BadRows", some "__init__")) fd
  f_x_BadText : ∃ fd, FunD K "__init__" "BadText.__init__" (defArgs st_x_BadText) (defBody st_x_BadText) (defScope st_x_BadText) [] [] (He.fAd K ("BadText", some "__init__")) fd
theorem sc__law_start : FnScope ["_law_script", "_law_mixed", "_law_cell"] ["_law_script"] (defScope st__law_start) := ⟨rfl, rfl, rfl, by decide +kernel, rfl, by decide +kernel, by decide +kernel⟩
theorem sc__law_drawn : FnScope ["_law_state", "_law_many", "_law_found", "_law_cell"] ["_law_state", "_law_many"] (defScope st__law_drawn) := ⟨rfl, rfl, rfl, by decide +kernel, rfl, by decide +kernel, by decide +kernel⟩
theorem sc__law_deed : FnScope ["_law_state", "_law_outs", "_law_k"] ["_law_state", "_law_outs"] (defScope st__law_deed) := ⟨rfl, rfl, rfl, by decide +kernel, rfl, by decide +kernel, by decide +kernel⟩
theorem sc__law_plain : FnScope ["_law_state", "_law_most", "_law_wires", "_law_ins", "_law_outs", "_law_many", "_law_few", "_law_near", "_law_rows", "_law_room", "_law_row", "_law_k", "_law_some", "_law_behind"] ["_law_state", "_law_most", "_law_wires"] (defScope st__law_plain) := ⟨rfl, rfl, rfl, by decide +kernel, rfl, by decide +kernel, by decide +kernel⟩
theorem sc__law_beat : FnScope ["_law_state", "_law_ins", "_law_k"] ["_law_state", "_law_ins"] (defScope st__law_beat) := ⟨rfl, rfl, rfl, by decide +kernel, rfl, by decide +kernel, by decide +kernel⟩
theorem sc__law_beats : FnScope ["_law_ins", "_law_rest", "_law_beat_here"] ["_law_ins"] (defScope st__law_beats) := ⟨rfl, rfl, rfl, by decide +kernel, rfl, by decide +kernel, by decide +kernel⟩
theorem sc__law_at : FnScope ["_law_plain_here", "_law_room", "_law_beat_here"] ["_law_plain_here", "_law_room", "_law_beat_here"] (defScope st__law_at) := ⟨rfl, rfl, rfl, by decide +kernel, rfl, by decide +kernel, by decide +kernel⟩
theorem sc_is_word : FnScope ["word", "many", "signs", "sign"] ["word", "many", "signs"] (defScope st_is_word) := ⟨rfl, rfl, rfl, by decide +kernel, rfl, by decide +kernel, by decide +kernel⟩
theorem sc_is_row : FnScope ["ins", "outs", "many", "row", "one"] ["ins", "outs", "many", "row"] (defScope st_is_row) := ⟨rfl, rfl, rfl, by decide +kernel, rfl, by decide +kernel, by decide +kernel⟩
theorem sc_need_plain : FnScope ["plain", "ins", "outs", "rows", "number", "row"] ["plain"] (defScope st_need_plain) := ⟨rfl, rfl, rfl, by decide +kernel, rfl, by decide +kernel, by decide +kernel⟩
theorem sc_need_beats : FnScope ["ins", "beats", "number", "beat"] ["ins", "beats"] (defScope st_need_beats) := ⟨rfl, rfl, rfl, by decide +kernel, rfl, by decide +kernel, by decide +kernel⟩
theorem sc_number_of : FnScope ["beat", "found", "sign"] ["beat"] (defScope st_number_of) := ⟨rfl, rfl, rfl, by decide +kernel, rfl, by decide +kernel, by decide +kernel⟩
theorem sc_deeds_of : FnScope ["plain", "beats", "room", "found", "beat", "deed"] ["plain", "beats"] (defScope st_deeds_of) := ⟨rfl, rfl, rfl, by decide +kernel, rfl, by decide +kernel, by decide +kernel⟩
theorem sc_plain_run : FnScope ["plain", "beats"] ["plain", "beats"] (defScope st_plain_run) := ⟨rfl, rfl, rfl, by decide +kernel, rfl, by decide +kernel, by decide +kernel⟩
theorem sc__law_same : FnScope ["_law_found", "_law_due", "_law_k"] ["_law_found", "_law_due"] (defScope st__law_same) := ⟨rfl, rfl, rfl, by decide +kernel, rfl, by decide +kernel, by decide +kernel⟩
theorem sc__law_far : FnScope ["_law_state", "_law_low", "_law_high", "_law_far_here"] ["_law_state", "_law_low", "_law_high"] (defScope st__law_far) := ⟨rfl, rfl, rfl, by decide +kernel, rfl, by decide +kernel, by decide +kernel⟩
theorem sc__law_odd : FnScope ["_law_state", "_law_plain_here", "_law_way", "_law_at_here", "_law_row", "_law_bad", "_law_new", "_law_ins", "_law_outs", "_law_rows", "_law_some", "_law_deed_here", "_law_behind"] ["_law_state", "_law_plain_here"] (defScope st__law_odd) := ⟨rfl, rfl, rfl, by decide +kernel, rfl, by decide +kernel, by decide +kernel⟩
theorem sc_least : FnScope ["plain"] ["plain"] (defScope st_least) := ⟨rfl, rfl, rfl, by decide +kernel, rfl, by decide +kernel, by decide +kernel⟩
theorem sc_need_few : FnScope ["plain", "most"] ["plain", "most"] (defScope st_need_few) := ⟨rfl, rfl, rfl, by decide +kernel, rfl, by decide +kernel, by decide +kernel⟩
theorem sc_parted : FnScope ["plain", "found", "one", "ins", "outs", "rows", "other"] ["plain"] (defScope st_parted) := ⟨rfl, rfl, rfl, by decide +kernel, rfl, by decide +kernel, by decide +kernel⟩
theorem sc_rules_of : FnScope ["plain", "row"] ["plain"] (defScope st_rules_of) := ⟨rfl, rfl, rfl, by decide +kernel, rfl, by decide +kernel, by decide +kernel⟩
theorem sc_trees : FnScope ["plain", "row"] ["plain"] (defScope st_trees) := ⟨rfl, rfl, rfl, by decide +kernel, rfl, by decide +kernel, by decide +kernel⟩
theorem sc_made_program : FnScope ["plain", "some", "begins", "place", "tree", "found", "begin", "row"] ["plain"] (defScope st_made_program) := ⟨rfl, rfl, rfl, by decide +kernel, rfl, by decide +kernel, by decide +kernel⟩
theorem sc_made_circuit : FnScope ["plain", "bits", "maker", "says", "nexts", "told", "kept", "ins", "outs", "rows", "room", "row", "here", "k", "mark", "deed", "behind", "gate", "some"] ["plain"] (defScope st_made_circuit) := ⟨rfl, rfl, rfl, by decide +kernel, rfl, by decide +kernel, by decide +kernel⟩
theorem sc_need_pattern : FnScope ["plain", "pattern", "mark"] ["plain", "pattern"] (defScope st_need_pattern) := ⟨rfl, rfl, rfl, by decide +kernel, rfl, by decide +kernel, by decide +kernel⟩
theorem sc_never : FnScope ["plain", "pattern", "first", "beats", "known", "level", "later", "pair", "row", "number", "beat", "other"] ["plain", "pattern"] (defScope st_never) := ⟨rfl, rfl, rfl, by decide +kernel, rfl, by decide +kernel, by decide +kernel⟩
theorem sc_shows : FnScope ["plain", "pattern", "pairs", "pair", "number"] ["plain", "pattern", "pairs"] (defScope st_shows) := ⟨rfl, rfl, rfl, by decide +kernel, rfl, by decide +kernel, by decide +kernel⟩
theorem sc_tour : FnScope ["plain", "flow"] ["plain"] (defScope st_tour) := ⟨rfl, rfl, rfl, by decide +kernel, rfl, by decide +kernel, by decide +kernel⟩
theorem sc_tour_paper : FnScope ["plain", "far", "room"] ["plain"] (defScope st_tour_paper) := ⟨rfl, rfl, rfl, by decide +kernel, rfl, by decide +kernel, by decide +kernel⟩
theorem sc_need_numbers : FnScope ["plain", "numbers", "room", "number", "deed", "behind"] ["plain", "numbers"] (defScope st_need_numbers) := ⟨rfl, rfl, rfl, by decide +kernel, rfl, by decide +kernel, by decide +kernel⟩
theorem sc_bound : FnScope ["plain", "numbers", "found", "room", "deed", "behind"] ["plain", "numbers"] (defScope st_bound) := ⟨rfl, rfl, rfl, by decide +kernel, rfl, by decide +kernel, by decide +kernel⟩
theorem sc_need_tests : FnScope ["plain", "tests", "number", "row", "beat"] ["plain", "tests"] (defScope st_need_tests) := ⟨rfl, rfl, rfl, by decide +kernel, rfl, by decide +kernel, by decide +kernel⟩
theorem sc_misses : FnScope ["plain", "tests", "beats", "wrong"] ["plain", "tests"] (defScope st_misses) := ⟨rfl, rfl, rfl, by decide +kernel, rfl, by decide +kernel, by decide +kernel⟩
theorem sc_checks : FnScope ["plain", "found", "wrong"] ["plain"] (defScope st_checks) := ⟨rfl, rfl, rfl, by decide +kernel, rfl, by decide +kernel, by decide +kernel⟩
theorem sc_lean : FnScope ["plain", "tests", "every", "found", "number", "less", "wrong", "row"] ["plain", "tests"] (defScope st_lean) := ⟨rfl, rfl, rfl, by decide +kernel, rfl, by decide +kernel, by decide +kernel⟩
theorem sc__law_more_doors : FnScope ["_law_odd_here", "_law_works"] ["_law_odd_here"] (defScope st__law_more_doors) := ⟨rfl, rfl, rfl, by decide +kernel, rfl, by decide +kernel, by decide +kernel⟩
theorem sc_alike : FnScope ["one", "other"] ["one", "other"] (defScope st_alike) := ⟨rfl, rfl, rfl, by decide +kernel, rfl, by decide +kernel, by decide +kernel⟩
theorem sc__law_kind : FnScope ["_law_work", "e", "_law_kinds", "_law_words", "_law_word"] ["_law_work"] (defScope st__law_kind) := ⟨rfl, rfl, rfl, by decide +kernel, rfl, by decide +kernel, by decide +kernel⟩
theorem sc_law : FnScope ["_law_script", "_law_state", "_law_turn", "_law_plain_here", "_law_beats_here", "_law_due", "_law_room", "_law_beat_here", "_law_handed", "_law_again", "_law_works", "_law_bad", "_law_found", "_law_odd_here", "_law_at_here", "_law_k", "_law_deed_here", "_law_work"] ["_law_script"] (defScope st_law) := ⟨rfl, rfl, rfl, by decide +kernel, rfl, by decide +kernel, by decide +kernel⟩
section
variable {lm : LamK1} {lb : LamK2} {P : Program} {w : World} {K : PySem.W.Frag} {mg : Str → Option Value} {base : Heap}
theorem sc_x_BadBeat : FnScope ["self", "number"] ["self", "number"] (defScope st_x_BadBeat) := ⟨rfl, rfl, rfl, by decide +kernel, rfl, by decide +kernel, by decide +kernel⟩
theorem x_BadBeat (T : Tx K mg w lm lb) : ExC P w (clL K w lm lb) K mg base 3 1 ["number"] := by
  obtain ⟨fd, Fu⟩ := T.f_x_BadBeat
  refine ⟨T.xo_BadBeat, T.xi_BadBeat.1, _, fd, ["self", "number"], spEx1 K (clL K w lm lb 3) "number", T.xi_BadBeat.2.1, T.xi_BadBeat.2.2, Fu.bindsN (fun _ _ _ _ _ _ us hl => match us, hl with | [_, _], _ => rfl), ?_, rfl⟩
  refine Fu.ok sc_x_BadBeat (fun vs H Q E h => ?_) (fun cdv A outer s H vs Q E hr h => ?_)
  · obtain ⟨a, y, rfl, _⟩ := h; rfl
  · obtain ⟨a, y, rfl, oex, n1, ha, k⟩ := h
    refine ⟨_, pss_cons (ps_expr (pe_beinit (by rfl) T.g_BeatError T.xb.hs1 T.xb.hrd T.xb.vV (pa_cons (pv 0) (pa_cons pe_str pa_nil)))) (pss_one (ps_ost (pv 0) (pv 1))), ?_⟩
    refine ⟨_, rfl, a, cl K w 3, [.str "it can't be"], rfl, (by show 1 ≤ 1000; decide), oex, ha, ?_⟩
    exact ⟨_, rfl, _, rfl, a, cl K w 3, rfl, oex, n1, .inl ⟨ha, fun dx hdx hne => k dx hdx hne⟩⟩
theorem sc_x_BadPlain : FnScope ["self", "number"] ["self", "number"] (defScope st_x_BadPlain) := ⟨rfl, rfl, rfl, by decide +kernel, rfl, by decide +kernel, by decide +kernel⟩
theorem x_BadPlain (T : Tx K mg w lm lb) : ExC P w (clL K w lm lb) K mg base 4 1 ["number"] := by
  obtain ⟨fd, Fu⟩ := T.f_x_BadPlain
  refine ⟨T.xo_BadPlain, T.xi_BadPlain.1, _, fd, ["self", "number"], spEx1 K (clL K w lm lb 4) "number", T.xi_BadPlain.2.1, T.xi_BadPlain.2.2, Fu.bindsN (fun _ _ _ _ _ _ us hl => match us, hl with | [_, _], _ => rfl), ?_, rfl⟩
  refine Fu.ok sc_x_BadPlain (fun vs H Q E h => ?_) (fun cdv A outer s H vs Q E hr h => ?_)
  · obtain ⟨a, y, rfl, _⟩ := h; rfl
  · obtain ⟨a, y, rfl, oex, n1, ha, k⟩ := h
    refine ⟨_, pss_cons (ps_expr (pe_beinit (by rfl) T.g_BeatError T.xb.hs1 T.xb.hrd T.xb.vV (pa_cons (pv 0) (pa_cons pe_str pa_nil)))) (pss_one (ps_ost (pv 0) (pv 1))), ?_⟩
    refine ⟨_, rfl, a, cl K w 4, [.str "it can't be"], rfl, (by show 1 ≤ 1000; decide), oex, ha, ?_⟩
    exact ⟨_, rfl, _, rfl, a, cl K w 4, rfl, oex, n1, .inl ⟨ha, fun dx hdx hne => k dx hdx hne⟩⟩
theorem su_kind_is : su_kind = fun q a d =>
  (sSeq (sAsg (dLstF (dCons (dExI 1 a d (q.c == 1 || 1 == 0)) (dCons (dExI 1 a d (q.c == 2 || 2 == 0)) (dCons (dExI 1 a d (q.c == 3 || 3 == 0)) (dCons (dExI 1 a d (q.c == 4 || 4 == 0)) dNil))))) (gVar 2))
  (sSeq (sAsg (d2 addF (dVar 2) (dLstF (dCons (dExI 1 a d (q.c == 5 || 5 == 0)) (dCons (dExI 1 a d (q.c == 6 || 6 == 0)) (dCons (dExI 1 a d (q.c == 7 || 7 == 0)) dNil))))) (gVar 2))
  (sSeq (sAsg (d2 addF (dVar 2) (dLstF (dCons (dExI 1 a d (q.c == 8 || 8 == 0)) (dCons (dExI 1 a d (q.c == 9 || 9 == 0)) (dCons (dExI 1 a d (q.c == 10 || 10 == 0)) dNil))))) (gVar 2))
  (sSeq (sAsg (d2 addF (dVar 2) (dLstF (dCons (dExI 1 a d (q.c == 11 || 11 == 0)) (dCons (dExI 1 a d (q.c == 12 || 12 == 0)) (dCons (dExI 1 a d (q.c == 13 || 13 == 0)) dNil))))) (gVar 2))
  (sSeq (sAsg (d2 addF (dVar 2) (dLstF (dCons (dExI 1 a d (q.c == 14 || 14 == 0)) (dCons (dExI 1 a d (q.c == 15 || 15 == 0)) (dCons (dExI 1 a d (q.c == 16 || 16 == 0)) dNil))))) (gVar 2))
  (sSeq (sAsg (dLstF (dCons (dC (.str "BadMachine")) (dCons (dC (.str "NotSound")) (dCons (dC (.str "BadBeat")) (dCons (dC (.str "BadPlain")) (dCons (dC (.str "TooLarge")) (dCons (dC (.str "BadMatch")) (dCons (dC (.str "BadMarks")) (dCons (dC (.str "BadTree")) dNil))))))))) (gVar 3))
  (sSeq (sAsg (d2 addF (dVar 3) (dLstF (dCons (dC (.str "BadProgram")) (dCons (dC (.str "Stuck")) (dCons (dC (.str "BadCircuit")) (dCons (dC (.str "BadPattern")) (dCons (dC (.str "BadPairs")) (dCons (dC (.str "BadNumbers")) (dCons (dC (.str "BadRows")) dNil))))))))) (gVar 3))
  (sSeq (sIf (tOrD (d2T neD (dBm "list" countD (dVar 2) (dCons (dC (.bl true)) dNil)) (dC (.int 1))) (tNotD (tstB (dExI 1 a d true)))) (sRet (dC (.str "other"))) sNext)
  (sSeq (sAsg (d2 ixD (d2 addF (dVar 3) (dLstF (dCons (dC (.str "BadText")) dNil))) (dBm "list" indexD (dVar 2) (dCons (dC (.bl true)) dNil))) (gVar 4))
  (sSeq (sIf (d2T eqD (dVar 4) (dC (.str "BadMachine"))) (sRet (dTup (dCons (dVar 4) (dCons (dExFc 1 q.c [1] a d "why") (dCons (dExFc 1 q.c [1] a d "spot") dNil))))) sNext)
  (sSeq (sIf (d2T inD (dVar 4) (dTup (dCons (dC (.str "BadBeat")) (dCons (dC (.str "BadPlain")) (dCons (dC (.str "BadProgram")) (dCons (dC (.str "BadCircuit")) (dCons (dC (.str "BadRows")) dNil))))))) (sRet (dTup (dCons (dVar 4) (dCons (dExFc 1 q.c [3, 4, 9, 11, 15] a d "number") dNil)))) sNext)
  (sRet (dIf (d2T eqD (dVar 4) (dC (.str "BadText"))) (dTup (dCons (dVar 4) (dCons (dExFc 1 q.c [16] a d "row") dNil))) (dVar 4)))))))))))))) := rfl
abbrev kCx (X : Cx) (cdg : Value) (s : Shared) (H : Hp) : Cx := (cxOf C8.CX0 X.prog X.w X.K X.mg X.base ["_law_work", "e", "_law_kinds", "_law_words", "_law_word"] "_law_kind" (defScope st__law_kind) (He.ga X.K "_law_kind") cdg X.A X.stack s H C8.E0).nox
theorem gives__law_kind {X : Cx} {k : Nat} (T : Tx X.K X.mg X.w lm lb) (hr : Room (k + 1) X.A) (cdg : Value) {q0 : Str} : LamX.GivesTo X ["_law_work", "e", "_law_kinds", "_law_words", "_law_word"] "_law_kind" (defScope st__law_kind) (He.ga X.K "_law_kind") cdg (defBody st__law_kind) "_law_work" q0 (TKind (clL X.K X.w lm lb) X.K x_kind) := by
  refine kind_gives (i := 1) (suF := su_kind) (ok := fun q => 1 ≤ q.c ∧ q.c < 17) rfl T.g_BeatError (by decide) (fun f => rfl) sc__law_kind.nd rfl rfl (fun q S hns => ⟨(x_kind_ok hns).1, T.ea.exm _ (x_kind_ok hns).1.2, (x_kind_ok hns).2⟩) (fun s H q a oe d pn hq hok hz hf => ?_) x_kind_su
  have co : CokS (((cxOf C8.CX0 X.prog X.w X.K X.mg X.base ["_law_work", "e", "_law_kinds", "_law_words", "_law_word"] "_law_kind" (defScope st__law_kind) (He.ga X.K "_law_kind") cdg X.A X.stack s H C8.E0).nox).suite a ((a, oe) :: pn)) := cokS_of sc__law_kind.nd rfl hr
  rw [su_kind_is]
  exact
      (z8 (zh (i := 2) co.nd rfl (Or.inl rfl) (de_lstF (z3 (de_exI (X := kCx X cdg s H) (T.ea.exc _ hq.2) hz hf rfl (Or.inl rfl) (by decide +kernel) (by decide +kernel) (by rfl) T.z_isinstance (by rfl) T.g_BadMachine (T.ea.kit _ 1 hq.2 (by decide))) (z3 (de_exI (X := kCx X cdg s H) (T.ea.exc _ hq.2) hz hf rfl (Or.inl rfl) (by decide +kernel) (by decide +kernel) (by rfl) T.z_isinstance (by rfl) T.g_NotSound (T.ea.kit _ 2 hq.2 (by decide))) (z3 (de_exI (X := kCx X cdg s H) (T.ea.exc _ hq.2) hz hf rfl (Or.inl rfl) (by decide +kernel) (by decide +kernel) (by rfl) T.z_isinstance (by rfl) T.g_BadBeat (T.ea.kit _ 3 hq.2 (by decide))) (z3 (de_exI (X := kCx X cdg s H) (T.ea.exc _ hq.2) hz hf rfl (Or.inl rfl) (by decide +kernel) (by decide +kernel) (by rfl) T.z_isinstance (by rfl) T.g_BadPlain (T.ea.kit _ 4 hq.2 (by decide))) z7))))))
      (z8 (zh (i := 2) co.nd rfl (Or.inl rfl) (zf op_addF (z5 2) (de_lstF (z3 (de_exI (X := kCx X cdg s H) (T.ea.exc _ hq.2) hz hf rfl (Or.inl rfl) (by decide +kernel) (by decide +kernel) (by rfl) T.z_isinstance (by rfl) T.g_TooLarge (T.ea.kit _ 5 hq.2 (by decide))) (z3 (de_exI (X := kCx X cdg s H) (T.ea.exc _ hq.2) hz hf rfl (Or.inl rfl) (by decide +kernel) (by decide +kernel) (by rfl) T.z_isinstance (by rfl) T.g_BadMatch (T.ea.kit _ 6 hq.2 (by decide))) (z3 (de_exI (X := kCx X cdg s H) (T.ea.exc _ hq.2) hz hf rfl (Or.inl rfl) (by decide +kernel) (by decide +kernel) (by rfl) T.z_isinstance (by rfl) T.g_BadMarks (T.ea.kit _ 7 hq.2 (by decide))) z7))))))
      (z8 (zh (i := 2) co.nd rfl (Or.inl rfl) (zf op_addF (z5 2) (de_lstF (z3 (de_exI (X := kCx X cdg s H) (T.ea.exc _ hq.2) hz hf rfl (Or.inl rfl) (by decide +kernel) (by decide +kernel) (by rfl) T.z_isinstance (by rfl) T.g_BadTree (T.ea.kit _ 8 hq.2 (by decide))) (z3 (de_exI (X := kCx X cdg s H) (T.ea.exc _ hq.2) hz hf rfl (Or.inl rfl) (by decide +kernel) (by decide +kernel) (by rfl) T.z_isinstance (by rfl) T.g_BadProgram (T.ea.kit _ 9 hq.2 (by decide))) (z3 (de_exI (X := kCx X cdg s H) (T.ea.exc _ hq.2) hz hf rfl (Or.inl rfl) (by decide +kernel) (by decide +kernel) (by rfl) T.z_isinstance (by rfl) T.g_Stuck (T.ea.kit _ 10 hq.2 (by decide))) z7))))))
      (z8 (zh (i := 2) co.nd rfl (Or.inl rfl) (zf op_addF (z5 2) (de_lstF (z3 (de_exI (X := kCx X cdg s H) (T.ea.exc _ hq.2) hz hf rfl (Or.inl rfl) (by decide +kernel) (by decide +kernel) (by rfl) T.z_isinstance (by rfl) T.g_BadCircuit (T.ea.kit _ 11 hq.2 (by decide))) (z3 (de_exI (X := kCx X cdg s H) (T.ea.exc _ hq.2) hz hf rfl (Or.inl rfl) (by decide +kernel) (by decide +kernel) (by rfl) T.z_isinstance (by rfl) T.g_BadPattern (T.ea.kit _ 12 hq.2 (by decide))) (z3 (de_exI (X := kCx X cdg s H) (T.ea.exc _ hq.2) hz hf rfl (Or.inl rfl) (by decide +kernel) (by decide +kernel) (by rfl) T.z_isinstance (by rfl) T.g_BadPairs (T.ea.kit _ 13 hq.2 (by decide))) z7))))))
      (z8 (zh (i := 2) co.nd rfl (Or.inl rfl) (zf op_addF (z5 2) (de_lstF (z3 (de_exI (X := kCx X cdg s H) (T.ea.exc _ hq.2) hz hf rfl (Or.inl rfl) (by decide +kernel) (by decide +kernel) (by rfl) T.z_isinstance (by rfl) T.g_BadNumbers (T.ea.kit _ 14 hq.2 (by decide))) (z3 (de_exI (X := kCx X cdg s H) (T.ea.exc _ hq.2) hz hf rfl (Or.inl rfl) (by decide +kernel) (by decide +kernel) (by rfl) T.z_isinstance (by rfl) T.g_BadRows (T.ea.kit _ 15 hq.2 (by decide))) (z3 (de_exI (X := kCx X cdg s H) (T.ea.exc _ hq.2) hz hf rfl (Or.inl rfl) (by decide +kernel) (by decide +kernel) (by rfl) T.z_isinstance (by rfl) T.g_BadText (T.ea.kit _ 16 hq.2 (by decide))) z7))))))
      (z8 (zh (i := 3) co.nd rfl (Or.inl rfl) (de_lstF (z3 zg (z3 zg (z3 zg (z3 zg (z3 zg (z3 zg (z3 zg (z3 zg z7))))))))))
      (z8 (zh (i := 3) co.nd rfl (Or.inl rfl) (zf op_addF (z5 3) (de_lstF (z3 zg (z3 zg (z3 zg (z3 zg (z3 zg (z3 zg (z3 zg z7))))))))))
      (z8 (ds_if (dt_bool (dw_or (dt_cmp (op_neDD co.hu) (de_bm PySem.F.plainAttrs_list PySem.F.slot_list_count PySem.F.type_list_count (md_count co.hu5) (z5 2) (z3 de_bl z7)) z9 (nomark _)) (dw_or1 (dt_not (dt_val (de_exV (X := kCx X cdg s H) (T.ea.exc _ hq.2) hz hf rfl (Or.inl rfl) (by decide +kernel) (by decide +kernel) (by rfl) T.z_isinstance (by rfl) T.z_ValueError (T.ea.kv _ hq.2))))))) (zb (ds_ret zg)) dss_nil)
      (z8 (zh (i := 4) co.nd rfl (Or.inl rfl) (zi (zf op_addF (z5 3) (de_lstF (z3 zg z7))) (de_bm PySem.F.plainAttrs_list PySem.F.slot_list_index PySem.F.type_list_index (md_index co.hu5) (z5 2) (z3 de_bl z7))))
      (z8 (ds_if (dt_cmp (op_eqDD co.hu) (z5 4) zg (nomark _)) (zb (ds_ret (de_tup (z3 (z5 4) (z3 (de_exFc (X := kCx X cdg s H) (cl := clL X.K X.w lm lb) (cs := [1]) (T.ea.exc _ hq.2) (fun z hz2 => by
          have hz3 : z = 1 := by simpa using hz2
          rcases hz3 with rfl
          · exact T.xi_BadMachine.1 "why" (by simp)) hz hf rfl (Or.inl rfl) (by decide +kernel) (by decide +kernel)) (z3 (de_exFc (X := kCx X cdg s H) (cl := clL X.K X.w lm lb) (cs := [1]) (T.ea.exc _ hq.2) (fun z hz2 => by
          have hz3 : z = 1 := by simpa using hz2
          rcases hz3 with rfl
          · exact T.xi_BadMachine.1 "spot" (by simp)) hz hf rfl (Or.inl rfl) (by decide +kernel) (by decide +kernel)) z7)))))) dss_nil)
      (z8 (ds_if (dt_cmp (op_inDD co.hu5) (z5 4) (de_tup (z3 zg (z3 zg (z3 zg (z3 zg (z3 zg z7))))))) (zb (ds_ret (de_tup (z3 (z5 4) (z3 (de_exFc (X := kCx X cdg s H) (cl := clL X.K X.w lm lb) (cs := [3, 4, 9, 11, 15]) (T.ea.exc _ hq.2) (fun z hz2 => by
          have hz3 : z = 3 ∨ z = 4 ∨ z = 9 ∨ z = 11 ∨ z = 15 := by simpa using hz2
          rcases hz3 with rfl | rfl | rfl | rfl | rfl
          · exact T.xi_BadBeat.1 "number" (by simp)
          · exact T.xi_BadPlain.1 "number" (by simp)
          · exact T.xi_BadProgram.1 "number" (by simp)
          · exact T.xi_BadCircuit.1 "number" (by simp)
          · exact T.xi_BadRows.1 "number" (by simp)) hz hf rfl (Or.inl rfl) (by decide +kernel) (by decide +kernel)) z7))))) dss_nil)
      (zb (ds_ret (de_if (dt_cmp (op_eqDD co.hu) (z5 4) zg (nomark _)) (de_tup (z3 (z5 4) (z3 (de_exFc (X := kCx X cdg s H) (cl := clL X.K X.w lm lb) (cs := [16]) (T.ea.exc _ hq.2) (fun z hz2 => by
          have hz3 : z = 16 := by simpa using hz2
          rcases hz3 with rfl
          · exact T.xi_BadText.1 "row" (by simp)) hz hf rfl (Or.inl rfl) (by decide +kernel) (by decide +kernel)) z7))) (z5 4)))))))))))))))
noncomputable def br__law_start : Sl → Sto → Res Fl :=
  (sSeq (sAsg (dC (.int 1)) (gVar 1))
  (sSeq (sFor (iVal (dVar 0)) (gVar 2) (sAsg (d2 modD (d2 addD (d2 addD (d2 mulD (dVar 1) (dC (.int 48271))) (dVar 2)) (dC (.int 7))) (dC (.int 2147483647))) (gVar 1)))
  (sRet (dLst (dCons (dVar 0) (dCons (dC (.int 0)) (dCons (dVar 1) (dCons (dC (.int 0)) dNil))))))))
noncomputable def Fr__law_start : List D → Sto → Res D := cutF (dFn 3 br__law_start)
theorem dr__law_start (T : Tx K mg w lm lb) : FnD P w (clL K w lm lb) K mg base 1 (He.ga K "_law_start") 1 Fr__law_start := by
  obtain ⟨fd, Fu⟩ := T.f__law_start
  exact (fnD_of Fu sc__law_start (fun _ _ _ _ _ _ us hl => match us, hl with | [_], _ => rfl) (fun cdv A outer s H E co =>
      (z8 (zh (i := 1) co.nd rfl (Or.inl rfl) z9)
      (z8 (ds_for co.po co.calm (di_val (z5 0)) (dg_name (i := 2) co.nd rfl (Or.inl rfl)) (zb (zh (i := 1) co.nd rfl (Or.inl rfl) (zf op_modD (zf op_addD (zf op_addD (zf op_mulD (z5 1) z9) (z5 2)) z9) z9))))
      (zb (ds_ret (de_lst (z3 (z5 0) (z3 z9 (z3 (z5 1) (z3 z9 z7))))))))))).cut
noncomputable def b__law_drawn : Sl → Sto → Res Fl :=
  (sSeq (sIf (d2T gtD (d2 ixD (dVar 0) (dC (.int 3))) (dC (.int 0))) (sSeq (sAsg (d2 modD (d2 ixD (dVar 0) (dC (.int 3))) (dVar 1)) (gVar 2))
  (sSeq (sAsg (d2 fdivD (d2 ixD (dVar 0) (dC (.int 3))) (dVar 1)) (gSubD setD (dVar 0) (dC (.int 3))))
  (sRet (dVar 2)))) sNext)
  (sSeq (sAsg (d2 addD (d2 ixD (dVar 0) (dC (.int 1))) (dC (.int 1))) (gSubD setD (dVar 0) (dC (.int 1))))
  (sSeq (sIf (d2T leD (d2 ixD (dVar 0) (dC (.int 1))) (dCall lenD (dCons (d2 ixD (dVar 0) (dC (.int 0))) dNil))) (sSeq (sAsg (d2 ixD (d2 ixD (dVar 0) (dC (.int 0))) (d2 subD (d2 ixD (dVar 0) (dC (.int 1))) (dC (.int 1)))) (gVar 3))
  (sSeq (sAsg (dIf (d2T geD (dVar 3) (d2 powD (dC (.int 10)) (dC (.int 18)))) (d2 fdivD (dVar 3) (dVar 1)) (dC (.int 0))) (gSubD setD (dVar 0) (dC (.int 3))))
  (sRet (d2 modD (dVar 3) (dVar 1))))) sNext)
  (sSeq (sAsg (d2 modD (d2 addD (d2 mulD (d2 ixD (dVar 0) (dC (.int 2))) (dC (.int 48271))) (dC (.int 11))) (dC (.int 2147483647))) (gSubD setD (dVar 0) (dC (.int 2))))
  (sRet (d2 modD (d2 fdivD (d2 ixD (dVar 0) (dC (.int 2))) (dC (.int 7))) (dVar 1)))))))
noncomputable def F__law_drawn : List D → Sto → Res D := cutF (dFn 4 b__law_drawn)
theorem d__law_drawn (T : Tx K mg w lm lb) : FnD P w (clL K w lm lb) K mg base 1 (He.ga K "_law_drawn") 2 F__law_drawn := by
  obtain ⟨fd, Fu⟩ := T.f__law_drawn
  exact (fnD_of Fu sc__law_drawn (fun _ _ _ _ _ _ us hl => match us, hl with | [_, _], _ => rfl) (fun cdv A outer s H E co =>
      (z8 (ds_if (dt_cmp op_gtD (zi (z5 0) z9) z9 (nomark _)) (z8 (zh (i := 2) co.nd rfl (Or.inl rfl) (zf op_modD (zi (z5 0) z9) (z5 1)))
      (z8 (ds_asg (zf op_fdivD (zi (z5 0) z9) (z5 1)) (dg_sub (z5 0) z9 set_lstD))
      (zb (ds_ret (z5 2))))) dss_nil)
      (z8 (ds_asg (zf op_addD (zi (z5 0) z9) z9) (dg_sub (z5 0) z9 set_lstD))
      (z8 (ds_if (dt_cmp op_leD (zi (z5 0) z9) (de_callB cd_len (by rfl) T.z_len (by decide +kernel) (z3 (zi (z5 0) z9) z7)) (nomark _)) (z8 (zh (i := 3) co.nd rfl (Or.inl rfl) (zi (zi (z5 0) z9) (zf op_subD (zi (z5 0) z9) z9)))
      (z8 (ds_asg (de_if (dt_cmp op_geD (z5 3) (zf op_powD z9 z9) (nomark _)) (zf op_fdivD (z5 3) (z5 1)) z9) (dg_sub (z5 0) z9 set_lstD))
      (zb (ds_ret (zf op_modD (z5 3) (z5 1)))))) dss_nil)
      (z8 (ds_asg (zf op_modD (zf op_addD (zf op_mulD (zi (z5 0) z9) z9) z9) z9) (dg_sub (z5 0) z9 set_lstD))
      (zb (ds_ret (zf op_modD (zf op_fdivD (zi (z5 0) z9) z9) (z5 1)))))))))).cut
noncomputable def b__law_deed : Sl → Sto → Res Fl :=
  (sRet (dBm "str" joinD (dC (.str "")) (dCons (dFrz (dComp [2] (iRngD1 (dVar 1)) (gVar 2) tYesD (d2 ixD (dC (.str "01")) (dCallF 2 F__law_drawn (dCons (dVar 0) (dCons (dC (.int 2)) dNil)))))) dNil)))
noncomputable def F__law_deed : List D → Sto → Res D := cutF (dFn 3 b__law_deed)
theorem d__law_deed (T : Tx K mg w lm lb) : FnD P w (clL K w lm lb) K mg base 2 (He.ga K "_law_deed") 2 F__law_deed := by
  obtain ⟨fd, Fu⟩ := T.f__law_deed
  exact (fnD_of Fu sc__law_deed (fun _ _ _ _ _ _ us hl => match us, hl with | [_, _], _ => rfl) (fun cdv A outer s H E co =>
      (zb (ds_ret (de_bm PySem.F.plainAttrs_str PySem.F.slot_str_join PySem.F.type_str_join md_join zg (z3 (de_frz (de_comp (own := [("_law_k", 2)]) co.calm co.nd (di_range1 (by rfl) T.z_range (z5 1)) (blkOk_by (by kernel_rfl)) (fun _ _ _ _ _ => (dgw_name (i := 2) (by decide) (co.blk _ _ _ _ _).nd rfl (Or.inl rfl))) (fun _ _ _ _ _ => dts_nil) (fun _ _ _ _ _ => (zi zg (za (d__law_drawn T) ((co.blk _ _ _ _ _).hr.mono (by first | decide | omega)) (co.blk _ _ _ _ _).px (by rfl) T.g__law_drawn (z3 (z5 0) (z3 z9 z7))))))) z7)))))).cut
noncomputable def b__law_plain : Sl → Sto → Res Fl :=
  (sSeq (sAsg (d2 addD (dC (.int 1)) (dCallF 2 F__law_drawn (dCons (dVar 0) (dCons (dVar 2) dNil)))) (gVar 3))
  (sSeq (sAsg (d2 addD (dC (.int 1)) (dCallF 2 F__law_drawn (dCons (dVar 0) (dCons (dC (.int 3)) dNil)))) (gVar 4))
  (sSeq (sAsg (d2 addD (dC (.int 1)) (dCallF 2 F__law_drawn (dCons (dVar 0) (dCons (dVar 1) dNil)))) (gVar 5))
  (sSeq (sAsg (dFrz (dComp [11] (iRngD1 (d2 addD (dC (.int 1)) (dCallF 2 F__law_drawn (dCons (dVar 0) (dCons (dC (.int 3)) dNil))))) (gVar 11) tYesD (dCallF 2 F__law_deed (dCons (dVar 0) (dCons (dVar 4) dNil))))) (gVar 6))
  (sSeq (sAsg (dCallF 2 F__law_drawn (dCons (dVar 0) (dCons (dC (.int 3)) dNil))) (gVar 7))
  (sSeq (sAsg (dLst dNil) (gVar 8))
  (sSeq (sFor (iRngD1 (dVar 5)) (gVar 9) (sSeq (sAsg (dLst dNil) (gVar 10))
  (sSeq (sFor (iRngD1 (d2 ixD (dLstF (dCons (dC (.int 1)) (dCons (dC (.int 2)) (dCons (dC (.int 4)) (dCons (dC (.int 8)) (dCons (dC (.int 16)) dNil)))))) (dVar 3))) (gVar 11) (sSeq (sAsg (dLstF (dCons (dCallF 2 F__law_drawn (dCons (dVar 0) (dCons (dVar 5) dNil))) (dCons (d2 modD (d2 addD (dVar 9) (dCallF 2 F__law_drawn (dCons (dVar 0) (dCons (dC (.int 3)) dNil)))) (dVar 5)) (dCons (dVar 9) dNil)))) (gVar 12))
  (sSeq (sAsg (d2 ixD (dVar 12) (dCall min2D (dCons (dVar 7) (dCons (dCallF 2 F__law_drawn (dCons (dVar 0) (dCons (dC (.int 3)) dNil))) dNil)))) (gVar 13))
  (sExpr (dBm "list" appendD (dVar 10) (dCons (dTup (dCons (d2 ixD (dVar 6) (dCallF 2 F__law_drawn (dCons (dVar 0) (dCons (dCall lenD (dCons (dVar 6) dNil)) dNil)))) (dCons (dVar 13) dNil))) dNil))))))
  (sExpr (dBm "list" appendD (dVar 8) (dCons (dCall tupleD (dCons (dVar 10) dNil)) dNil))))))
  (sRet (dTup (dCons (dVar 3) (dCons (dVar 4) (dCons (dCall tupleD (dCons (dVar 8) dNil)) dNil))))))))))))
noncomputable def F__law_plain : List D → Sto → Res D := cutF (dFn 14 b__law_plain)
theorem d__law_plain (T : Tx K mg w lm lb) : FnD P w (clL K w lm lb) K mg base 3 (He.ga K "_law_plain") 3 F__law_plain := by
  obtain ⟨fd, Fu⟩ := T.f__law_plain
  exact (fnD_of Fu sc__law_plain (fun _ _ _ _ _ _ us hl => match us, hl with | [_, _, _], _ => rfl) (fun cdv A outer s H E co =>
      (z8 (zh (i := 3) co.nd rfl (Or.inl rfl) (zf op_addD z9 (za (d__law_drawn T) (co.hr.mono (by first | decide | omega)) co.px (by rfl) T.g__law_drawn (z3 (z5 0) (z3 (z5 2) z7)))))
      (z8 (zh (i := 4) co.nd rfl (Or.inr rfl) (zf op_addD z9 (za (d__law_drawn T) (co.hr.mono (by first | decide | omega)) co.px (by rfl) T.g__law_drawn (z3 (z5 0) (z3 z9 z7)))))
      (z8 (zh (i := 5) co.nd rfl (Or.inl rfl) (zf op_addD z9 (za (d__law_drawn T) (co.hr.mono (by first | decide | omega)) co.px (by rfl) T.g__law_drawn (z3 (z5 0) (z3 (z5 1) z7)))))
      (z8 (ds_compF (i := 6) (own := [("_law_k", 11)]) co.calm co.nd rfl rfl (sw_true rfl rfl rfl (by decide +kernel)) (di_range1 (by rfl) T.z_range (zf op_addD z9 (za (d__law_drawn T) (co.hr.mono (by first | decide | omega)) co.px (by rfl) T.g__law_drawn (z3 (z5 0) (z3 z9 z7))))) (blkOk_by (by kernel_rfl)) (fun _ _ _ _ _ => (dgw_name (i := 11) (by decide) (co.blk _ _ _ _ _).nd rfl (Or.inl rfl))) (fun _ _ _ _ _ => dts_nil) (fun _ _ _ _ _ => (za (d__law_deed T) ((co.blk _ _ _ _ _).hr.mono (by first | decide | omega)) (co.blk _ _ _ _ _).px (by rfl) T.g__law_deed (z3 (z5 0) (z3 (z5 4) z7)))))
      (z8 (zh (i := 7) co.nd rfl (Or.inl rfl) (za (d__law_drawn T) (co.hr.mono (by first | decide | omega)) co.px (by rfl) T.g__law_drawn (z3 (z5 0) (z3 z9 z7))))
      (z8 (zh (i := 8) co.nd rfl (Or.inl rfl) (de_lst z7))
      (z8 (ds_for co.po co.calm (di_range1 (by rfl) T.z_range (z5 5)) (dg_name (i := 9) co.nd rfl (Or.inl rfl)) (z8 (zh (i := 10) co.nd rfl (Or.inl rfl) (de_lst z7))
      (z8 (ds_for co.po co.calm (di_range1 (by rfl) T.z_range (zi (de_lstF (z3 z9 (z3 z9 (z3 z9 (z3 z9 (z3 z9 z7)))))) (z5 3))) (dg_name (i := 11) co.nd rfl (Or.inl rfl)) (z8 (zh (i := 12) co.nd rfl (Or.inl rfl) (de_lstF (z3 (za (d__law_drawn T) (co.hr.mono (by first | decide | omega)) co.px (by rfl) T.g__law_drawn (z3 (z5 0) (z3 (z5 5) z7))) (z3 (zf op_modD (zf op_addD (z5 9) (za (d__law_drawn T) (co.hr.mono (by first | decide | omega)) co.px (by rfl) T.g__law_drawn (z3 (z5 0) (z3 z9 z7)))) (z5 5)) (z3 (z5 9) z7)))))
      (z8 (zh (i := 13) co.nd rfl (Or.inl rfl) (zi (z5 12) (de_callB (cd_min2 co.calm) (by rfl) T.z_min (by decide +kernel) (z3 (z5 7) (z3 (za (d__law_drawn T) (co.hr.mono (by first | decide | omega)) co.px (by rfl) T.g__law_drawn (z3 (z5 0) (z3 z9 z7))) z7)))))
      (zb (ze (de_bm PySem.F.plainAttrs_list PySem.F.slot_list_append PySem.F.type_list_append md_append (z5 10) (z3 (de_tup (z3 (zi (z5 6) (za (d__law_drawn T) (co.hr.mono (by first | decide | omega)) co.px (by rfl) T.g__law_drawn (z3 (z5 0) (z3 (de_callB cd_len (by rfl) T.z_len (by decide +kernel) (z3 (z5 6) z7)) z7)))) (z3 (z5 13) z7))) z7)))))))
      (zb (ze (de_bm PySem.F.plainAttrs_list PySem.F.slot_list_append PySem.F.type_list_append md_append (z5 8) (z3 (de_callTy cd_tuple (by rfl) T.z_tuple (by decide +kernel) (z3 (z5 10) z7)) z7)))))))
      (zb (ds_ret (de_tup (z3 (z5 3) (z3 (z5 4) (z3 (de_callTy cd_tuple (by rfl) T.z_tuple (by decide +kernel) (z3 (z5 8) z7)) z7))))))))))))))).cut
noncomputable def b__law_beat : Sl → Sto → Res Fl :=
  (sRet (dBm "str" joinD (dC (.str "")) (dCons (dFrz (dComp [2] (iRngD1 (dVar 1)) (gVar 2) tYesD (d2 ixD (dC (.str "01")) (dCallF 2 F__law_drawn (dCons (dVar 0) (dCons (dC (.int 2)) dNil)))))) dNil)))
noncomputable def F__law_beat : List D → Sto → Res D := cutF (dFn 3 b__law_beat)
theorem d__law_beat (T : Tx K mg w lm lb) : FnD P w (clL K w lm lb) K mg base 2 (He.ga K "_law_beat") 2 F__law_beat := by
  obtain ⟨fd, Fu⟩ := T.f__law_beat
  exact (fnD_of Fu sc__law_beat (fun _ _ _ _ _ _ us hl => match us, hl with | [_, _], _ => rfl) (fun cdv A outer s H E co =>
      (zb (ds_ret (de_bm PySem.F.plainAttrs_str PySem.F.slot_str_join PySem.F.type_str_join md_join zg (z3 (de_frz (de_comp (own := [("_law_k", 2)]) co.calm co.nd (di_range1 (by rfl) T.z_range (z5 1)) (blkOk_by (by kernel_rfl)) (fun _ _ _ _ _ => (dgw_name (i := 2) (by decide) (co.blk _ _ _ _ _).nd rfl (Or.inl rfl))) (fun _ _ _ _ _ => dts_nil) (fun _ _ _ _ _ => (zi zg (za (d__law_drawn T) ((co.blk _ _ _ _ _).hr.mono (by first | decide | omega)) (co.blk _ _ _ _ _).px (by rfl) T.g__law_drawn (z3 (z5 0) (z3 z9 z7))))))) z7)))))).cut
noncomputable def b__law_beats (Frec : List D → Sto → Res D) : Sl → Sto → Res Fl :=
  (sSeq (sIf (d2T eqD (dVar 0) (dC (.int 0))) (sRet (dLstF (dCons (dC (.str "")) dNil))) sNext)
  (sSeq (sAsg (dCallF 1 Frec (dCons (d2 subD (dVar 0) (dC (.int 1))) dNil)) (gVar 1))
  (sRet (d2 addF (dFrz (dComp [2] (iVal (dVar 1)) (gVar 2) tYesD (d2 addD (dC (.str "0")) (dVar 2)))) (dFrz (dComp [2] (iVal (dVar 1)) (gVar 2) tYesD (d2 addD (dC (.str "1")) (dVar 2))))))))
noncomputable def F__law_beats : Nat → List D → Sto → Res D
  | 0 => fun _ _ => .stuck
  | n + 1 => cutF (dFn 3 (b__law_beats (F__law_beats n)))
theorem d__law_beats (T : Tx K mg w lm lb) : ∀ n : Nat, FnD P w (clL K w lm lb) K mg base (1 + n) (He.ga K "_law_beats") 1 (F__law_beats n)
  | 0 => by
    obtain ⟨fd, Fu⟩ := T.f__law_beats
    exact fnD_stuck Fu (ps := ["_law_ins"]) (fun _ _ _ _ _ _ us hl => match us, hl with | [_], _ => rfl)
  | n + 1 => by
    have hrec := d__law_beats T n
    obtain ⟨fd, Fu⟩ := T.f__law_beats
    exact (fnD_of (k := 1 + n) Fu sc__law_beats (fun _ _ _ _ _ _ us hl => match us, hl with | [_], _ => rfl) (fun cdv A outer s H E co =>
      (z8 (ds_if (dt_cmp (op_eqDD co.hu) (z5 0) z9 (nomark _)) (zb (ds_ret (de_lstF (z3 zg z7)))) dss_nil)
      (z8 (zh (i := 1) co.nd rfl (Or.inl rfl) (za hrec (co.hr.mono (by omega)) co.px (by rfl) T.g__law_beats (z3 (zf op_subD (z5 0) z9) z7)))
      (zb (ds_ret (zf op_addF (de_frz (de_comp (own := [("_law_beat_here", 2)]) co.calm co.nd (di_val (z5 1)) (blkOk_by (by kernel_rfl)) (fun _ _ _ _ _ => (dgw_name (i := 2) (by decide) (co.blk _ _ _ _ _).nd rfl (Or.inl rfl))) (fun _ _ _ _ _ => dts_nil) (fun _ _ _ _ _ => (zf op_addD zg (z5 2))))) (de_frz (de_comp (own := [("_law_beat_here", 2)]) co.calm co.nd (di_val (z5 1)) (blkOk_by (by kernel_rfl)) (fun _ _ _ _ _ => (dgw_name (i := 2) (by decide) (co.blk _ _ _ _ _).nd rfl (Or.inl rfl))) (fun _ _ _ _ _ => dts_nil) (fun _ _ _ _ _ => (zf op_addD zg (z5 2)))))))))))).cut
noncomputable def b__law_at : Sl → Sto → Res Fl :=
  (sRet (d2 ixD (d2 ixD (d2 ixD (dVar 0) (dC (.int 2))) (dVar 1)) (dBm "list" indexD (dCallF 1 (F__law_beats 40) (dCons (d2 ixD (dVar 0) (dC (.int 0))) dNil)) (dCons (dVar 2) dNil))))
noncomputable def F__law_at : List D → Sto → Res D := cutF (dFn 3 b__law_at)
theorem d__law_at (T : Tx K mg w lm lb) : FnD P w (clL K w lm lb) K mg base 42 (He.ga K "_law_at") 3 F__law_at := by
  obtain ⟨fd, Fu⟩ := T.f__law_at
  exact (fnD_of Fu sc__law_at (fun _ _ _ _ _ _ us hl => match us, hl with | [_, _, _], _ => rfl) (fun cdv A outer s H E co =>
      (zb (ds_ret (zi (zi (zi (z5 0) z9) (z5 1)) (de_bm PySem.F.plainAttrs_list PySem.F.slot_list_index PySem.F.type_list_index (md_index co.hu5) (za (d__law_beats T 40) (co.hr.mono (by first | decide | omega)) co.px (by rfl) T.g__law_beats (z3 (zi (z5 0) z9) z7)) (z3 (z5 2) z7))))))).cut
noncomputable def b_is_word : Sl → Sto → Res Fl :=
  (sRet (dAnd (d2 eqD (dCall lenD (dCons (dVar 0) dNil)) (dVar 1)) (d2 eqD (dFrz (dComp [3] (iVal (dVar 0)) (gVar 3) (d2T notInD (dVar 3) (dVar 2)) (dVar 3))) (dLstF dNil))))
noncomputable def F_is_word : List D → Sto → Res D := cutF (dFn 4 b_is_word)
theorem d_is_word (T : Tx K mg w lm lb) : FnD P w (clL K w lm lb) K mg base 1 (He.ga K "is_word") 3 F_is_word := by
  obtain ⟨fd, Fu⟩ := T.f_is_word
  exact (fnD_of Fu sc_is_word (fun _ _ _ _ _ _ us hl => match us, hl with | [_, _, _], _ => rfl) (fun cdv A outer s H E co =>
      (zb (ds_ret (de_and (de_cmp (op_eqDD co.hu) (de_callB cd_len (by rfl) T.z_len (by decide +kernel) (z3 (z5 0) z7)) (z5 1) (nomark _)) (de_one (de_cmp (op_eqDD co.hu) (de_frz (de_comp (own := [("sign", 3)]) co.calm co.nd (di_val (z5 0)) (blkOk_by (by kernel_rfl)) (fun _ _ _ _ _ => (dgw_name (i := 3) (by decide) (co.blk _ _ _ _ _).nd rfl (Or.inl rfl))) (fun _ _ _ _ _ => (dts_one (dt_cmp (op_notInDD (co.blk _ _ _ _ _).hu5) (z5 3) (z5 2)))) (fun _ _ _ _ _ => (z5 3)))) (de_lstF z7) (nomark _)))))))).cut
noncomputable def b_is_row : Sl → Sto → Res Fl :=
  (sSeq (sIf (d2T neD (dCall lenD (dCons (dVar 3) dNil)) (d2 ixD (dC (.tup [(.int 1), (.int 2), (.int 4), (.int 8), (.int 16)])) (dVar 0))) (sRet (dC (.bl false))) sNext)
  (sRet (d2 eqD (dFrz (dComp [4] (iVal (dVar 3)) (gVar 4) (tOrD (tNotD (tstB (dCallF 3 F_is_word (dCons (d2 ixD (dVar 4) (dC (.int 0))) (dCons (dVar 1) (dCons (dC (.str "01")) dNil)))))) (tNotD (d3T leD ltD (dC (.int 0)) (d2 ixD (dVar 4) (dC (.int 1))) (dVar 2)))) (dVar 4))) (dLstF dNil))))
noncomputable def F_is_row : List D → Sto → Res D := cutF (dFn 5 b_is_row)
theorem d_is_row (T : Tx K mg w lm lb) : FnD P w (clL K w lm lb) K mg base 2 (He.ga K "is_row") 4 F_is_row := by
  obtain ⟨fd, Fu⟩ := T.f_is_row
  exact (fnD_of Fu sc_is_row (fun _ _ _ _ _ _ us hl => match us, hl with | [_, _, _, _], _ => rfl) (fun cdv A outer s H E co =>
      (z8 (ds_if (dt_cmp (op_neDD co.hu) (de_callB cd_len (by rfl) T.z_len (by decide +kernel) (z3 (z5 3) z7)) (zi (de_con T.k_COUNTS (by rfl)) (z5 0)) (nomark _)) (zb (ds_ret de_bl)) dss_nil)
      (zb (ds_ret (de_cmp (op_eqDD co.hu) (de_frz (de_comp (own := [("one", 4)]) co.calm co.nd (di_val (z5 3)) (blkOk_by (by kernel_rfl)) (fun _ _ _ _ _ => (dgw_name (i := 4) (by decide) (co.blk _ _ _ _ _).nd rfl (Or.inl rfl))) (fun _ _ _ _ _ => (dts_one (dt_bool (dw_or (dt_not (dt_val (za (d_is_word T) ((co.blk _ _ _ _ _).hr.mono (by first | decide | omega)) (co.blk _ _ _ _ _).px (by rfl) T.g_is_word (z3 (zi (z5 4) z9) (z3 (z5 1) (z3 zg z7)))))) (dw_or1 (dt_not (dt_chain op_leD op_ltD z9 (zi (z5 4) z9) (z5 2)))))))) (fun _ _ _ _ _ => (z5 4)))) (de_lstF z7) (nomark _))))))).cut
noncomputable def b_need_plain : Sl → Sto → Res Fl :=
  (sSeq (sAsg (dVar 0) (gTupD 3 (gsCons (gVar 1) (gsCons (gVar 2) (gsCons (gVar 3) gsNil)))))
  (sSeq (sIf (tOrD (tNotD (d3T leD leD (dC (.int 1)) (dVar 1) (dC (.int 4)))) (tOrD (tNotD (d3T leD leD (dC (.int 1)) (dVar 2) (dC (.int 3)))) (tNotD (d3T leD leD (dC (.int 1)) (dCall lenD (dCons (dVar 3) dNil)) (dC (.int 200)))))) (sRaise 4 ["number"] (dCons (d2 subD (dC (.int 0)) (dC (.int 1))) dNil)) sNext)
  (sFor (iEnumD (dVar 3)) (gTupD 2 (gsCons (gVar 4) (gsCons (gVar 5) gsNil))) (sIf (tNotD (tstB (dCallF 4 F_is_row (dCons (dVar 1) (dCons (dVar 2) (dCons (dCall lenD (dCons (dVar 3) dNil)) (dCons (dVar 5) dNil))))))) (sRaise 4 ["number"] (dCons (dVar 4) dNil)) sNext))))
noncomputable def F_need_plain : List D → Sto → Res D := cutF (dFn 6 b_need_plain)
theorem d_need_plain (T : Tx K mg w lm lb) : FnD P w (clL K w lm lb) K mg base 3 (He.ga K "need_plain") 1 F_need_plain := by
  obtain ⟨fd, Fu⟩ := T.f_need_plain
  exact (fnD_of Fu sc_need_plain (fun _ _ _ _ _ _ us hl => match us, hl with | [_], _ => rfl) (fun cdv A outer s H E co =>
      (z8 (ds_asg (z5 0) (dg_tup co.calm (dgs_cons (dg_name (i := 1) co.nd rfl (Or.inl rfl)) (dgs_cons (dg_name (i := 2) co.nd rfl (Or.inl rfl)) (dgs_cons (dg_name (i := 3) co.nd rfl (Or.inl rfl)) dgs_nil)))))
      (z8 (ds_if (dt_bool (dw_or (dt_not (dt_chain op_leD op_leD z9 (z5 1) (de_con T.k_MOST_INS (by rfl)))) (dw_or (dt_not (dt_chain op_leD op_leD z9 (z5 2) (de_con T.k_MOST_OUTS (by rfl)))) (dw_or1 (dt_not (dt_chain op_leD op_leD z9 (de_callB cd_len (by rfl) T.z_len (by decide +kernel) (z3 (z5 3) z7)) (de_con T.k_MOST_PLAIN (by rfl)))))))) (zb (ds_raise (x_BadPlain T) (co.at (by first | decide | omega)) (by rfl) T.g_BadPlain (z3 (zf op_subD z9 z9) z7))) dss_nil)
      (zb (ds_for co.po co.calm (di_enum (by rfl) T.z_enumerate (z5 3)) (dg_tup co.calm (dgs_cons (dg_name (i := 4) co.nd rfl (Or.inl rfl)) (dgs_cons (dg_name (i := 5) co.nd rfl (Or.inl rfl)) dgs_nil))) (zb (ds_if (dt_not (dt_val (za (d_is_row T) (co.hr.mono (by first | decide | omega)) co.px (by rfl) T.g_is_row (z3 (z5 1) (z3 (z5 2) (z3 (de_callB cd_len (by rfl) T.z_len (by decide +kernel) (z3 (z5 3) z7)) (z3 (z5 5) z7))))))) (zb (ds_raise (x_BadPlain T) (co.at (by first | decide | omega)) (by rfl) T.g_BadPlain (z3 (z5 4) z7))) dss_nil)))))))).cut
noncomputable def b_need_beats : Sl → Sto → Res Fl :=
  (sFor (iEnumD (dVar 1)) (gTupD 2 (gsCons (gVar 2) (gsCons (gVar 3) gsNil))) (sIf (tNotD (tstB (dCallF 3 F_is_word (dCons (dVar 3) (dCons (dVar 0) (dCons (dC (.str "01")) dNil)))))) (sRaise 3 ["number"] (dCons (dVar 2) dNil)) sNext))
noncomputable def F_need_beats : List D → Sto → Res D := cutF (dFn 4 b_need_beats)
theorem d_need_beats (T : Tx K mg w lm lb) : FnD P w (clL K w lm lb) K mg base 3 (He.ga K "need_beats") 2 F_need_beats := by
  obtain ⟨fd, Fu⟩ := T.f_need_beats
  exact (fnD_of Fu sc_need_beats (fun _ _ _ _ _ _ us hl => match us, hl with | [_, _], _ => rfl) (fun cdv A outer s H E co =>
      (zb (ds_for co.po co.calm (di_enum (by rfl) T.z_enumerate (z5 1)) (dg_tup co.calm (dgs_cons (dg_name (i := 2) co.nd rfl (Or.inl rfl)) (dgs_cons (dg_name (i := 3) co.nd rfl (Or.inl rfl)) dgs_nil))) (zb (ds_if (dt_not (dt_val (za (d_is_word T) (co.hr.mono (by first | decide | omega)) co.px (by rfl) T.g_is_word (z3 (z5 3) (z3 (z5 0) (z3 zg z7)))))) (zb (ds_raise (x_BadBeat T) (co.at (by first | decide | omega)) (by rfl) T.g_BadBeat (z3 (z5 2) z7))) dss_nil)))))).cut
noncomputable def b_number_of : Sl → Sto → Res Fl :=
  (sSeq (sAsg (dC (.int 0)) (gVar 1))
  (sSeq (sFor (iVal (dVar 0)) (gVar 2) (sAsg (d2 addD (d2 mulD (dC (.int 2)) (dVar 1)) (dCall intD (dCons (dVar 2) dNil))) (gVar 1)))
  (sRet (dVar 1))))
noncomputable def F_number_of : List D → Sto → Res D := cutF (dFn 3 b_number_of)
theorem d_number_of (T : Tx K mg w lm lb) : FnD P w (clL K w lm lb) K mg base 1 (He.ga K "number_of") 1 F_number_of := by
  obtain ⟨fd, Fu⟩ := T.f_number_of
  exact (fnD_of Fu sc_number_of (fun _ _ _ _ _ _ us hl => match us, hl with | [_], _ => rfl) (fun cdv A outer s H E co =>
      (z8 (zh (i := 1) co.nd rfl (Or.inl rfl) z9)
      (z8 (ds_for co.po co.calm (di_val (z5 0)) (dg_name (i := 2) co.nd rfl (Or.inl rfl)) (zb (zh (i := 1) co.nd rfl (Or.inl rfl) (zf op_addD (zf op_mulD z9 (z5 1)) (de_callTy cd_int (by rfl) T.z_int (by decide +kernel) (z3 (z5 2) z7))))))
      (zb (ds_ret (z5 1))))))).cut
noncomputable def br_deeds_of : Sl → Sto → Res Fl :=
  (sSeq (sAsg (dC (.int 0)) (gVar 2))
  (sSeq (sAsg (dLst dNil) (gVar 3))
  (sSeq (sFor (iVal (dVar 1)) (gVar 4) (sSeq (sAsg (d2 ixD (d2 ixD (d2 ixD (dVar 0) (dC (.int 2))) (dVar 2)) (dCallF 1 F_number_of (dCons (dVar 4) dNil))) (gTupD 2 (gsCons (gVar 5) (gsCons (gVar 2) gsNil))))
  (sExpr (dBm "list" appendD (dVar 3) (dCons (dVar 5) dNil)))))
  (sRet (dVar 3)))))
noncomputable def Fr_deeds_of : List D → Sto → Res D := cutF (dFn 6 br_deeds_of)
theorem dr_deeds_of (T : Tx K mg w lm lb) : FnD P w (clL K w lm lb) K mg base 2 (He.ga K "deeds_of") 2 Fr_deeds_of := by
  obtain ⟨fd, Fu⟩ := T.f_deeds_of
  exact (fnD_of Fu sc_deeds_of (fun _ _ _ _ _ _ us hl => match us, hl with | [_, _], _ => rfl) (fun cdv A outer s H E co =>
      (z8 (zh (i := 2) co.nd rfl (Or.inl rfl) z9)
      (z8 (zh (i := 3) co.nd rfl (Or.inl rfl) (de_lst z7))
      (z8 (ds_for co.po co.calm (di_val (z5 1)) (dg_name (i := 4) co.nd rfl (Or.inl rfl)) (z8 (ds_asg (zi (zi (zi (z5 0) z9) (z5 2)) (za (d_number_of T) (co.hr.mono (by first | decide | omega)) co.px (by rfl) T.g_number_of (z3 (z5 4) z7))) (dg_tup co.calm (dgs_cons (dg_name (i := 5) co.nd rfl (Or.inl rfl)) (dgs_cons (dg_name (i := 2) co.nd rfl (Or.inl rfl)) dgs_nil))))
      (zb (ze (de_bm PySem.F.plainAttrs_list PySem.F.slot_list_append PySem.F.type_list_append md_append (z5 3) (z3 (z5 5) z7))))))
      (zb (ds_ret (z5 3)))))))).cut
noncomputable def br_plain_run : Sl → Sto → Res Fl :=
  (sSeq (sExpr (dCallF 1 F_need_plain (dCons (dVar 0) dNil)))
  (sSeq (sExpr (dCallF 2 F_need_beats (dCons (d2 ixD (dVar 0) (dC (.int 0))) (dCons (dVar 1) dNil))))
  (sRet (dCallF 2 Fr_deeds_of (dCons (dVar 0) (dCons (dVar 1) dNil))))))
noncomputable def Fr_plain_run : List D → Sto → Res D := cutF (dFn 2 br_plain_run)
theorem dr_plain_run (T : Tx K mg w lm lb) : FnD P w (clL K w lm lb) K mg base 4 (He.ga K "plain_run") 2 Fr_plain_run := by
  obtain ⟨fd, Fu⟩ := T.f_plain_run
  exact (fnD_of Fu sc_plain_run (fun _ _ _ _ _ _ us hl => match us, hl with | [_, _], _ => rfl) (fun cdv A outer s H E co =>
      (z8 (ze (za (d_need_plain T) (co.hr.mono (by first | decide | omega)) co.px (by rfl) T.g_need_plain (z3 (z5 0) z7)))
      (z8 (ze (za (d_need_beats T) (co.hr.mono (by first | decide | omega)) co.px (by rfl) T.g_need_beats (z3 (zi (z5 0) z9) (z3 (z5 1) z7))))
      (zb (ds_ret (za (dr_deeds_of T) (co.hr.mono (by first | decide | omega)) co.px (by rfl) T.g_deeds_of (z3 (z5 0) (z3 (z5 1) z7))))))))).cut
noncomputable def b__law_same (Frec : List D → Sto → Res D) : Sl → Sto → Res Fl :=
  (sSeq (sIf (tstB (dIsi ["tuple", "list"] (dVar 1))) (sSeq (sIf (tOrD (tNotD (tstB (dIsi ["tuple", "list"] (dVar 0)))) (d2T neD (dIsi ["list"] (dVar 0)) (dIsi ["list"] (dVar 1)))) (sRet (dC (.bl false))) sNext)
  (sSeq (sIf (d2T neD (dCall lenD (dCons (dVar 0) dNil)) (dCall lenD (dCons (dVar 1) dNil))) (sRet (dC (.bl false))) sNext)
  (sRet (d2 eqD (dFrz (dComp [2] (iRngD1 (dCall lenD (dCons (dVar 1) dNil))) (gVar 2) (tNotD (tstB (dCallF 2 Frec (dCons (d2 ixD (dVar 0) (dVar 2)) (dCons (d2 ixD (dVar 1) (dVar 2)) dNil))))) (dVar 2))) (dLstF dNil))))) sNext)
  (sSeq (sIf (d2T isD (dVar 1) (dC .non)) (sRet (d2 isD (dVar 0) (dC .non))) sNext)
  (sSeq (sIf (tstB (dIsi ["str"] (dVar 1))) (sRet (dAnd (dIsi ["str"] (dVar 0)) (d2 eqD (dVar 0) (dVar 1)))) sNext)
  (sSeq (sIf (tOrD (tstB (dIsi ["bool"] (dVar 1))) (tstB (dIsi ["bool"] (dVar 0)))) (sRet (dAnd (dIsi ["bool"] (dVar 1)) (dAnd (dIsi ["bool"] (dVar 0)) (d2 eqD (dVar 0) (dVar 1))))) sNext)
  (sRet (dAnd (dIsi ["int"] (dVar 0)) (d2 eqD (dVar 0) (dVar 1))))))))
noncomputable def F__law_same : Nat → List D → Sto → Res D
  | 0 => fun _ _ => .stuck
  | n + 1 => cutF (dFn 3 (b__law_same (F__law_same n)))
theorem d__law_same (T : Tx K mg w lm lb) : ∀ n : Nat, FnD P w (clL K w lm lb) K mg base (1 + n) (He.ga K "_law_same") 2 (F__law_same n)
  | 0 => by
    obtain ⟨fd, Fu⟩ := T.f__law_same
    exact fnD_stuck Fu (ps := ["_law_found", "_law_due"]) (fun _ _ _ _ _ _ us hl => match us, hl with | [_, _], _ => rfl)
  | n + 1 => by
    have hrec := d__law_same T n
    obtain ⟨fd, Fu⟩ := T.f__law_same
    exact (fnD_of (k := 1 + n) Fu sc__law_same (fun _ _ _ _ _ _ us hl => match us, hl with | [_, _], _ => rfl) (fun cdv A outer s H E co =>
      (z8 (ds_if (dt_val (de_isi2 (by rfl) T.z_isinstance (z5 1) (by rfl) T.z_tuple (by rfl) (by decide +kernel) (by rfl) T.z_list (by rfl) (by decide +kernel))) (z8 (ds_if (dt_bool (dw_or (dt_not (dt_val (de_isi2 (by rfl) T.z_isinstance (z5 0) (by rfl) T.z_tuple (by rfl) (by decide +kernel) (by rfl) T.z_list (by rfl) (by decide +kernel)))) (dw_or1 (dt_cmp (op_neDD co.hu) (de_isi (by rfl) T.z_isinstance (z5 0) (by rfl) T.z_list (by rfl) (by decide +kernel)) (de_isi (by rfl) T.z_isinstance (z5 1) (by rfl) T.z_list (by rfl) (by decide +kernel)) (nomark _))))) (zb (ds_ret de_bl)) dss_nil)
      (z8 (ds_if (dt_cmp (op_neDD co.hu) (de_callB cd_len (by rfl) T.z_len (by decide +kernel) (z3 (z5 0) z7)) (de_callB cd_len (by rfl) T.z_len (by decide +kernel) (z3 (z5 1) z7)) (nomark _)) (zb (ds_ret de_bl)) dss_nil)
      (zb (ds_ret (de_cmp (op_eqDD co.hu) (de_frz (de_comp (own := [("_law_k", 2)]) co.calm co.nd (di_range1 (by rfl) T.z_range (de_callB cd_len (by rfl) T.z_len (by decide +kernel) (z3 (z5 1) z7))) (blkOk_by (by kernel_rfl)) (fun _ _ _ _ _ => (dgw_name (i := 2) (by decide) (co.blk _ _ _ _ _).nd rfl (Or.inl rfl))) (fun _ _ _ _ _ => (dts_one (dt_not (dt_val (za hrec ((co.blk _ _ _ _ _).hr.mono (by omega)) (co.blk _ _ _ _ _).px (by rfl) T.g__law_same (z3 (zi (z5 0) (z5 2)) (z3 (zi (z5 1) (z5 2)) z7))))))) (fun _ _ _ _ _ => (z5 2)))) (de_lstF z7) (nomark _)))))) dss_nil)
      (z8 (ds_if (dt_cmp op_isD (z5 1) de_non (nomark _)) (zb (ds_ret (de_cmp op_isD (z5 0) de_non (nomark _)))) dss_nil)
      (z8 (ds_if (dt_val (de_isi (by rfl) T.z_isinstance (z5 1) (by rfl) T.z_str (by rfl) (by decide +kernel))) (zb (ds_ret (de_and (de_isi (by rfl) T.z_isinstance (z5 0) (by rfl) T.z_str (by rfl) (by decide +kernel)) (de_one (de_cmp (op_eqDD co.hu) (z5 0) (z5 1) (nomark _)))))) dss_nil)
      (z8 (ds_if (dt_bool (dw_or (dt_val (de_isi (by rfl) T.z_isinstance (z5 1) (by rfl) T.z_bool (by rfl) (by decide +kernel))) (dw_or1 (dt_val (de_isi (by rfl) T.z_isinstance (z5 0) (by rfl) T.z_bool (by rfl) (by decide +kernel)))))) (zb (ds_ret (de_and (de_isi (by rfl) T.z_isinstance (z5 1) (by rfl) T.z_bool (by rfl) (by decide +kernel)) (de_and (de_isi (by rfl) T.z_isinstance (z5 0) (by rfl) T.z_bool (by rfl) (by decide +kernel)) (de_one (de_cmp (op_eqDD co.hu) (z5 0) (z5 1) (nomark _))))))) dss_nil)
      (zb (ds_ret (de_and (de_isi (by rfl) T.z_isinstance (z5 0) (by rfl) T.z_int (by rfl) (by decide +kernel)) (de_one (de_cmp (op_eqDD co.hu) (z5 0) (z5 1) (nomark _)))))))))))).cut
noncomputable def b__law_far : Sl → Sto → Res Fl :=
  (sSeq (sAsg (d2 ixD (dLstF (dCons (dC (.int 1)) (dCons (dC (.int 20)) (dCons (d2 powD (dC (.int 10)) (dC (.int 29))) dNil)))) (dCallF 2 F__law_drawn (dCons (dVar 0) (dCons (dC (.int 3)) dNil)))) (gVar 3))
  (sRet (d2 ixD (dLstF (dCons (d2 subD (d2 subD (dVar 1) (dC (.int 1))) (dCallF 2 F__law_drawn (dCons (dVar 0) (dCons (dVar 3) dNil)))) (dCons (d2 addD (d2 addD (dVar 2) (dC (.int 1))) (dCallF 2 F__law_drawn (dCons (dVar 0) (dCons (dVar 3) dNil)))) dNil))) (dCallF 2 F__law_drawn (dCons (dVar 0) (dCons (dC (.int 2)) dNil))))))
noncomputable def F__law_far : List D → Sto → Res D := cutF (dFn 4 b__law_far)
theorem d__law_far (T : Tx K mg w lm lb) : FnD P w (clL K w lm lb) K mg base 2 (He.ga K "_law_far") 3 F__law_far := by
  obtain ⟨fd, Fu⟩ := T.f__law_far
  exact (fnD_of Fu sc__law_far (fun _ _ _ _ _ _ us hl => match us, hl with | [_, _, _], _ => rfl) (fun cdv A outer s H E co =>
      (z8 (zh (i := 3) co.nd rfl (Or.inl rfl) (zi (de_lstF (z3 z9 (z3 z9 (z3 (zf op_powD z9 z9) z7)))) (za (d__law_drawn T) (co.hr.mono (by first | decide | omega)) co.px (by rfl) T.g__law_drawn (z3 (z5 0) (z3 z9 z7)))))
      (zb (ds_ret (zi (de_lstF (z3 (zf op_subD (zf op_subD (z5 1) z9) (za (d__law_drawn T) (co.hr.mono (by first | decide | omega)) co.px (by rfl) T.g__law_drawn (z3 (z5 0) (z3 (z5 3) z7)))) (z3 (zf op_addD (zf op_addD (z5 2) z9) (za (d__law_drawn T) (co.hr.mono (by first | decide | omega)) co.px (by rfl) T.g__law_drawn (z3 (z5 0) (z3 (z5 3) z7)))) z7))) (za (d__law_drawn T) (co.hr.mono (by first | decide | omega)) co.px (by rfl) T.g__law_drawn (z3 (z5 0) (z3 z9 z7))))))))).cut
noncomputable def b__law_odd : Sl → Sto → Res Fl :=
  (sSeq (sAsg (dVar 1) (gTupD 3 (gsCons (gVar 7) (gsCons (gVar 8) (gsCons (gVar 9) gsNil)))))
  (sSeq (sAsg (dCallF 2 F__law_drawn (dCons (dVar 0) (dCons (dC (.int 3)) dNil))) (gVar 2))
  (sSeq (sIf (d2T eqD (dVar 2) (dC (.int 0))) (sSeq (sAsg (dLstF (dCons (dTup (dCons (dCallF 3 F__law_far (dCons (dVar 0) (dCons (dC (.int 1)) (dCons (dC (.int 4)) dNil)))) (dCons (dVar 8) (dCons (dVar 9) dNil)))) (dCons (dTup (dCons (dVar 7) (dCons (dCallF 3 F__law_far (dCons (dVar 0) (dCons (dC (.int 1)) (dCons (dC (.int 3)) dNil)))) (dCons (dVar 9) dNil)))) (dCons (dTup (dCons (dVar 7) (dCons (dVar 8) (dCons (dTup dNil) dNil)))) dNil)))) (gVar 10))
  (sRet (dTup (dCons (d2 ixD (d2 addF (dVar 10) (dLstF (dCons (dTup (dCons (dVar 7) (dCons (dVar 8) (dCons (dSliceF (dFrz (d2 mulD (dVar 9) (dC (.int 201)))) oNone (oSome (dC (.int 201)))) dNil)))) dNil))) (dCallF 2 F__law_drawn (dCons (dVar 0) (dCons (dC (.int 4)) dNil)))) (dCons (d2 subD (dC (.int 0)) (dC (.int 1))) dNil))))) sNext)
  (sSeq (sAsg (dCallF 2 F__law_drawn (dCons (dVar 0) (dCons (dCall lenD (dCons (dVar 9) dNil)) dNil))) (gVar 3))
  (sSeq (sAsg (d2 ixD (dVar 9) (dVar 3)) (gVar 4))
  (sSeq (sAsg (d2 ixD (dVar 4) (dC (.int 0))) (gTupD 2 (gsCons (gVar 11) (gsCons (gVar 12) gsNil))))
  (sSeq (sAsg (dLstF (dCons (dTup (dCons (dC (.str "")) (dCons (dVar 12) dNil))) (dCons (dTup (dCons (d2 addD (dVar 11) (dC (.str "0"))) (dCons (dVar 12) dNil))) (dCons (dTup (dCons (d2 addD (dSlice (dVar 11) (oSome (dC (.int 1))) oNone) (dC (.str "-"))) (dCons (dVar 12) dNil))) (dCons (dTup (dCons (dVar 11) (dCons (dCallF 3 F__law_far (dCons (dVar 0) (dCons (dC (.int 0)) (dCons (d2 subD (dCall lenD (dCons (dVar 9) dNil)) (dC (.int 1))) dNil)))) dNil))) dNil))))) (gVar 5))
  (sSeq (sAsg (d2 ixD (dLstF (dCons (d2 addF (dVar 4) (dSliceF (dVar 4) oNone (oSome (dC (.int 1))))) (dCons (dSliceF (dVar 4) (oSome (dC (.int 1))) oNone) (dCons (d2 addD (dTup (dCons (d2 ixD (dVar 5) (dCallF 2 F__law_drawn (dCons (dVar 0) (dCons (dC (.int 4)) dNil)))) dNil)) (dSliceF (dVar 4) (oSome (dC (.int 1))) oNone)) (dCons (dTup dNil) dNil))))) (dCallF 2 F__law_drawn (dCons (dVar 0) (dCons (dC (.int 4)) dNil)))) (gVar 6))
  (sRet (dTup (dCons (dTup (dCons (dVar 7) (dCons (dVar 8) (dCons (d2 addD (d2 addD (dSliceF (dVar 9) oNone (oSome (dVar 3))) (dTup (dCons (dVar 6) dNil))) (dSliceF (dVar 9) (oSome (d2 addD (dVar 3) (dC (.int 1)))) oNone)) dNil)))) (dCons (dVar 3) dNil))))))))))))
noncomputable def F__law_odd : List D → Sto → Res D := cutF (dFn 13 b__law_odd)
theorem d__law_odd (T : Tx K mg w lm lb) : FnD P w (clL K w lm lb) K mg base 3 (He.ga K "_law_odd") 2 F__law_odd := by
  obtain ⟨fd, Fu⟩ := T.f__law_odd
  exact (fnD_of Fu sc__law_odd (fun _ _ _ _ _ _ us hl => match us, hl with | [_, _], _ => rfl) (fun cdv A outer s H E co =>
      (z8 (ds_asg (z5 1) (dg_tup co.calm (dgs_cons (dg_name (i := 7) co.nd rfl (Or.inl rfl)) (dgs_cons (dg_name (i := 8) co.nd rfl (Or.inl rfl)) (dgs_cons (dg_name (i := 9) co.nd rfl (Or.inl rfl)) dgs_nil)))))
      (z8 (zh (i := 2) co.nd rfl (Or.inl rfl) (za (d__law_drawn T) (co.hr.mono (by first | decide | omega)) co.px (by rfl) T.g__law_drawn (z3 (z5 0) (z3 z9 z7))))
      (z8 (ds_if (dt_cmp (op_eqDD co.hu) (z5 2) z9 (nomark _)) (z8 (zh (i := 10) co.nd rfl (Or.inl rfl) (de_lstF (z3 (de_tup (z3 (za (d__law_far T) (co.hr.mono (by first | decide | omega)) co.px (by rfl) T.g__law_far (z3 (z5 0) (z3 z9 (z3 z9 z7)))) (z3 (z5 8) (z3 (z5 9) z7)))) (z3 (de_tup (z3 (z5 7) (z3 (za (d__law_far T) (co.hr.mono (by first | decide | omega)) co.px (by rfl) T.g__law_far (z3 (z5 0) (z3 z9 (z3 z9 z7)))) (z3 (z5 9) z7)))) (z3 (de_tup (z3 (z5 7) (z3 (z5 8) (z3 (de_tup z7) z7)))) z7)))))
      (zb (ds_ret (de_tup (z3 (zi (zf op_addF (z5 10) (de_lstF (z3 (de_tup (z3 (z5 7) (z3 (z5 8) (z3 (de_sliceF (de_frz (zf op_mulD (z5 9) z9)) dpo_none (dpo_some z9)) z7)))) z7))) (za (d__law_drawn T) (co.hr.mono (by first | decide | omega)) co.px (by rfl) T.g__law_drawn (z3 (z5 0) (z3 z9 z7)))) (z3 (zf op_subD z9 z9) z7)))))) dss_nil)
      (z8 (zh (i := 3) co.nd rfl (Or.inl rfl) (za (d__law_drawn T) (co.hr.mono (by first | decide | omega)) co.px (by rfl) T.g__law_drawn (z3 (z5 0) (z3 (de_callB cd_len (by rfl) T.z_len (by decide +kernel) (z3 (z5 9) z7)) z7))))
      (z8 (zh (i := 4) co.nd rfl (Or.inl rfl) (zi (z5 9) (z5 3)))
      (z8 (ds_asg (zi (z5 4) z9) (dg_tup co.calm (dgs_cons (dg_name (i := 11) co.nd rfl (Or.inl rfl)) (dgs_cons (dg_name (i := 12) co.nd rfl (Or.inl rfl)) dgs_nil))))
      (z8 (zh (i := 5) co.nd rfl (Or.inl rfl) (de_lstF (z3 (de_tup (z3 zg (z3 (z5 12) z7))) (z3 (de_tup (z3 (zf op_addD (z5 11) zg) (z3 (z5 12) z7))) (z3 (de_tup (z3 (zf op_addD (de_slice (z5 11) (dpo_some z9) dpo_none) zg) (z3 (z5 12) z7))) (z3 (de_tup (z3 (z5 11) (z3 (za (d__law_far T) (co.hr.mono (by first | decide | omega)) co.px (by rfl) T.g__law_far (z3 (z5 0) (z3 z9 (z3 (zf op_subD (de_callB cd_len (by rfl) T.z_len (by decide +kernel) (z3 (z5 9) z7)) z9) z7)))) z7))) z7))))))
      (z8 (zh (i := 6) co.nd rfl (Or.inl rfl) (zi (de_lstF (z3 (zf op_addF (z5 4) (de_sliceF (z5 4) dpo_none (dpo_some z9))) (z3 (de_sliceF (z5 4) (dpo_some z9) dpo_none) (z3 (zf op_addD (de_tup (z3 (zi (z5 5) (za (d__law_drawn T) (co.hr.mono (by first | decide | omega)) co.px (by rfl) T.g__law_drawn (z3 (z5 0) (z3 z9 z7)))) z7)) (de_sliceF (z5 4) (dpo_some z9) dpo_none)) (z3 (de_tup z7) z7))))) (za (d__law_drawn T) (co.hr.mono (by first | decide | omega)) co.px (by rfl) T.g__law_drawn (z3 (z5 0) (z3 z9 z7)))))
      (zb (ds_ret (de_tup (z3 (de_tup (z3 (z5 7) (z3 (z5 8) (z3 (zf op_addD (zf op_addD (de_sliceF (z5 9) dpo_none (dpo_some (z5 3))) (de_tup (z3 (z5 6) z7))) (de_sliceF (z5 9) (dpo_some (zf op_addD (z5 3) z9)) dpo_none)) z7)))) (z3 (z5 3) z7))))))))))))))).cut
noncomputable def b__law_more_doors : Sl → Sto → Res (D × Sl) :=
  (sSeqB (sAsg (dLst (dCons (dLam 1000) dNil)) (gVar 1))
  (sSeqB (sExpr (dBm "list" appendD (dVar 1) (dCons (dLam 1001) dNil)))
  (sSeqB (sExpr (dBm "list" appendD (dVar 1) (dCons (dLam 1002) dNil)))
  (sSeqB (sExpr (dBm "list" appendD (dVar 1) (dCons (dLam 1003) dNil)))
  (sSeqB (sExpr (dBm "list" appendD (dVar 1) (dCons (dLam 1004) dNil)))
  (sSeqB (sExpr (dBm "list" appendD (dVar 1) (dCons (dLam 1005) dNil)))
  (sSeqB (sExpr (dBm "list" appendD (dVar 1) (dCons (dLam 1006) dNil)))
  (sSeqB (sExpr (dBm "list" appendD (dVar 1) (dCons (dLam 1007) dNil)))
  (sSeqB (sExpr (dBm "list" appendD (dVar 1) (dCons (dLam 1008) dNil)))
  (sSeqB (sExpr (dBm "list" appendD (dVar 1) (dCons (dLam 1009) dNil)))
  (sSeqB (sExpr (dBm "list" appendD (dVar 1) (dCons (dLam 1010) dNil)))
  (sSeqB (sExpr (dBm "list" appendD (dVar 1) (dCons (dLam 1011) dNil)))
  (sRetB (dVar 1))))))))))))))
noncomputable def F__law_more_doors : List D → Sto → Res D := dFnB 2 [0] b__law_more_doors
theorem d__law_more_doors (T : Tx K mg w lm lb) (TB : TbA K mg base) (M : LmOk lm lb lamTabB capsB) : FnD P w (clL K w lm lb) K mg base 10 (He.ga K "_law_more_doors") 1 F__law_more_doors := by
  obtain ⟨fd, Fu⟩ := T.f__law_more_doors
  exact fnD_mk (tab := lamTabB) (caps := capsB) (cap := [0]) Fu sc__law_more_doors (fun _ _ _ _ _ _ us hl => match us, hl with | [_], _ => rfl) M.lo M.hi rfl (lamDs_cons (zc (by kernel_rfl)) (lamDs_cons (zc (by kernel_rfl)) (lamDs_cons (zc (by kernel_rfl)) (lamDs_cons (zc (by kernel_rfl)) (lamDs_cons (zc (by kernel_rfl)) (lamDs_cons (zc (by kernel_rfl)) (lamDs_cons (zc (by kernel_rfl)) (lamDs_cons (zc (by kernel_rfl)) (lamDs_cons (zc (by kernel_rfl)) (lamDs_cons (zc (by kernel_rfl)) (lamDs_cons (zc (by kernel_rfl)) (lamDs_cons (zc (by kernel_rfl)) lamDs_nil)))))))))))) (fun A outer s H E co =>
      (dsb_cons (zh (i := 1) co.nd rfl (Or.inl rfl) (de_lst (z3 (de_lam0 (i := 1000) (TB _ (show (("_law_more_doors", none) : He.Defn) ∈ tf from by simp [tf, tq])) rfl (tab_mem (show ((("_law_more_doors", none), "_law_more_doors") : He.Defn × Str) ∈ tq from by simp [tq])) (tab_uniq T.tu (show ((("_law_more_doors", none), "_law_more_doors") : He.Defn × Str) ∈ tq from by simp [tq])) (zc (by kernel_rfl)) rfl (fun _ _ h => .inr ⟨by decide, _, rfl, h⟩)) z7)))
      (dsb_cons (ze (de_bm PySem.F.plainAttrs_list PySem.F.slot_list_append PySem.F.type_list_append md_append (z5 1) (z3 (de_lam0 (i := 1001) (TB _ (show (("_law_more_doors", none) : He.Defn) ∈ tf from by simp [tf, tq])) rfl (tab_mem (show ((("_law_more_doors", none), "_law_more_doors") : He.Defn × Str) ∈ tq from by simp [tq])) (tab_uniq T.tu (show ((("_law_more_doors", none), "_law_more_doors") : He.Defn × Str) ∈ tq from by simp [tq])) (zc (by kernel_rfl)) rfl (fun _ _ h => .inr ⟨by decide, _, rfl, h⟩)) z7)))
      (dsb_cons (ze (de_bm PySem.F.plainAttrs_list PySem.F.slot_list_append PySem.F.type_list_append md_append (z5 1) (z3 (de_lam0 (i := 1002) (TB _ (show (("_law_more_doors", none) : He.Defn) ∈ tf from by simp [tf, tq])) rfl (tab_mem (show ((("_law_more_doors", none), "_law_more_doors") : He.Defn × Str) ∈ tq from by simp [tq])) (tab_uniq T.tu (show ((("_law_more_doors", none), "_law_more_doors") : He.Defn × Str) ∈ tq from by simp [tq])) (zc (by kernel_rfl)) rfl (fun _ _ h => .inr ⟨by decide, _, rfl, h⟩)) z7)))
      (dsb_cons (ze (de_bm PySem.F.plainAttrs_list PySem.F.slot_list_append PySem.F.type_list_append md_append (z5 1) (z3 (de_lam0 (i := 1003) (TB _ (show (("_law_more_doors", none) : He.Defn) ∈ tf from by simp [tf, tq])) rfl (tab_mem (show ((("_law_more_doors", none), "_law_more_doors") : He.Defn × Str) ∈ tq from by simp [tq])) (tab_uniq T.tu (show ((("_law_more_doors", none), "_law_more_doors") : He.Defn × Str) ∈ tq from by simp [tq])) (zc (by kernel_rfl)) rfl (fun _ _ h => .inr ⟨by decide, _, rfl, h⟩)) z7)))
      (dsb_cons (ze (de_bm PySem.F.plainAttrs_list PySem.F.slot_list_append PySem.F.type_list_append md_append (z5 1) (z3 (de_lam0 (i := 1004) (TB _ (show (("_law_more_doors", none) : He.Defn) ∈ tf from by simp [tf, tq])) rfl (tab_mem (show ((("_law_more_doors", none), "_law_more_doors") : He.Defn × Str) ∈ tq from by simp [tq])) (tab_uniq T.tu (show ((("_law_more_doors", none), "_law_more_doors") : He.Defn × Str) ∈ tq from by simp [tq])) (zc (by kernel_rfl)) rfl (fun _ _ h => .inr ⟨by decide, _, rfl, h⟩)) z7)))
      (dsb_cons (ze (de_bm PySem.F.plainAttrs_list PySem.F.slot_list_append PySem.F.type_list_append md_append (z5 1) (z3 (de_lam0 (i := 1005) (TB _ (show (("_law_more_doors", none) : He.Defn) ∈ tf from by simp [tf, tq])) rfl (tab_mem (show ((("_law_more_doors", none), "_law_more_doors") : He.Defn × Str) ∈ tq from by simp [tq])) (tab_uniq T.tu (show ((("_law_more_doors", none), "_law_more_doors") : He.Defn × Str) ∈ tq from by simp [tq])) (zc (by kernel_rfl)) rfl (fun _ _ h => .inr ⟨by decide, _, rfl, h⟩)) z7)))
      (dsb_cons (ze (de_bm PySem.F.plainAttrs_list PySem.F.slot_list_append PySem.F.type_list_append md_append (z5 1) (z3 (de_lam0 (i := 1006) (TB _ (show (("_law_more_doors", none) : He.Defn) ∈ tf from by simp [tf, tq])) rfl (tab_mem (show ((("_law_more_doors", none), "_law_more_doors") : He.Defn × Str) ∈ tq from by simp [tq])) (tab_uniq T.tu (show ((("_law_more_doors", none), "_law_more_doors") : He.Defn × Str) ∈ tq from by simp [tq])) (zc (by kernel_rfl)) rfl (fun _ _ h => .inr ⟨by decide, _, rfl, h⟩)) z7)))
      (dsb_cons (ze (de_bm PySem.F.plainAttrs_list PySem.F.slot_list_append PySem.F.type_list_append md_append (z5 1) (z3 (de_lam0 (i := 1007) (TB _ (show (("_law_more_doors", none) : He.Defn) ∈ tf from by simp [tf, tq])) rfl (tab_mem (show ((("_law_more_doors", none), "_law_more_doors") : He.Defn × Str) ∈ tq from by simp [tq])) (tab_uniq T.tu (show ((("_law_more_doors", none), "_law_more_doors") : He.Defn × Str) ∈ tq from by simp [tq])) (zc (by kernel_rfl)) rfl (fun _ _ h => .inr ⟨by decide, _, rfl, h⟩)) z7)))
      (dsb_cons (ze (de_bm PySem.F.plainAttrs_list PySem.F.slot_list_append PySem.F.type_list_append md_append (z5 1) (z3 (de_lam0 (i := 1008) (TB _ (show (("_law_more_doors", none) : He.Defn) ∈ tf from by simp [tf, tq])) rfl (tab_mem (show ((("_law_more_doors", none), "_law_more_doors") : He.Defn × Str) ∈ tq from by simp [tq])) (tab_uniq T.tu (show ((("_law_more_doors", none), "_law_more_doors") : He.Defn × Str) ∈ tq from by simp [tq])) (zc (by kernel_rfl)) rfl (fun _ _ h => .inr ⟨by decide, _, rfl, h⟩)) z7)))
      (dsb_cons (ze (de_bm PySem.F.plainAttrs_list PySem.F.slot_list_append PySem.F.type_list_append md_append (z5 1) (z3 (de_lam0 (i := 1009) (TB _ (show (("_law_more_doors", none) : He.Defn) ∈ tf from by simp [tf, tq])) rfl (tab_mem (show ((("_law_more_doors", none), "_law_more_doors") : He.Defn × Str) ∈ tq from by simp [tq])) (tab_uniq T.tu (show ((("_law_more_doors", none), "_law_more_doors") : He.Defn × Str) ∈ tq from by simp [tq])) (zc (by kernel_rfl)) rfl (fun _ _ h => .inr ⟨by decide, _, rfl, h⟩)) z7)))
      (dsb_cons (ze (de_bm PySem.F.plainAttrs_list PySem.F.slot_list_append PySem.F.type_list_append md_append (z5 1) (z3 (de_lam0 (i := 1010) (TB _ (show (("_law_more_doors", none) : He.Defn) ∈ tf from by simp [tf, tq])) rfl (tab_mem (show ((("_law_more_doors", none), "_law_more_doors") : He.Defn × Str) ∈ tq from by simp [tq])) (tab_uniq T.tu (show ((("_law_more_doors", none), "_law_more_doors") : He.Defn × Str) ∈ tq from by simp [tq])) (zc (by kernel_rfl)) rfl (fun _ _ h => .inr ⟨by decide, _, rfl, h⟩)) z7)))
      (dsb_cons (ze (de_bm PySem.F.plainAttrs_list PySem.F.slot_list_append PySem.F.type_list_append md_append (z5 1) (z3 (de_lam0 (i := 1011) (TB _ (show (("_law_more_doors", none) : He.Defn) ∈ tf from by simp [tf, tq])) rfl (tab_mem (show ((("_law_more_doors", none), "_law_more_doors") : He.Defn × Str) ∈ tq from by simp [tq])) (tab_uniq T.tu (show ((("_law_more_doors", none), "_law_more_doors") : He.Defn × Str) ∈ tq from by simp [tq])) (zc (by kernel_rfl)) rfl (fun _ _ h => .inr ⟨by decide, _, rfl, h⟩)) z7)))
      (dsb_ret (z5 1)))))))))))))))
noncomputable def b_alike : Sl → Sto → Res Fl :=
  (sSeq (sExpr (dCallF 1 F_need_plain (dCons (dVar 0) dNil)))
  (sSeq (sExpr (dCallF 1 F_need_plain (dCons (dVar 1) dNil)))
  sDead))
noncomputable def F_alike : List D → Sto → Res D := cutF (dFn 2 b_alike)
theorem d_alike (T : Tx K mg w lm lb) : FnD P w (clL K w lm lb) K mg base 4 (He.ga K "alike") 2 F_alike := by
  obtain ⟨fd, Fu⟩ := T.f_alike
  exact (fnD_of Fu sc_alike (fun _ _ _ _ _ _ us hl => match us, hl with | [_, _], _ => rfl) (fun cdv A outer s H E co =>
      (z8 (ze (za (d_need_plain T) (co.hr.mono (by first | decide | omega)) co.px (by rfl) T.g_need_plain (z3 (z5 0) z7)))
      (z8 (ze (za (d_need_plain T) (co.hr.mono (by first | decide | omega)) co.px (by rfl) T.g_need_plain (z3 (z5 1) z7)))
      dss_dead)))).cut
noncomputable def b_need_few : Sl → Sto → Res Fl :=
  (sSeq (sExpr (dCallF 1 F_need_plain (dCons (dVar 0) dNil)))
  sDead)
noncomputable def F_need_few : List D → Sto → Res D := cutF (dFn 2 b_need_few)
theorem d_need_few (T : Tx K mg w lm lb) : FnD P w (clL K w lm lb) K mg base 4 (He.ga K "need_few") 2 F_need_few := by
  obtain ⟨fd, Fu⟩ := T.f_need_few
  exact (fnD_of Fu sc_need_few (fun _ _ _ _ _ _ us hl => match us, hl with | [_, _], _ => rfl) (fun cdv A outer s H E co =>
      (z8 (ze (za (d_need_plain T) (co.hr.mono (by first | decide | omega)) co.px (by rfl) T.g_need_plain (z3 (z5 0) z7)))
      dss_dead))).cut
noncomputable def b_parted : Sl → Sto → Res Fl :=
  (sSeq (sExpr (dCallF 2 F_need_few (dCons (dVar 0) (dCons (dC (.int 24)) dNil))))
  sDead)
noncomputable def F_parted : List D → Sto → Res D := cutF (dFn 7 b_parted)
theorem d_parted (T : Tx K mg w lm lb) : FnD P w (clL K w lm lb) K mg base 5 (He.ga K "parted") 1 F_parted := by
  obtain ⟨fd, Fu⟩ := T.f_parted
  exact (fnD_of Fu sc_parted (fun _ _ _ _ _ _ us hl => match us, hl with | [_], _ => rfl) (fun cdv A outer s H E co =>
      (z8 (ze (za (d_need_few T) (co.hr.mono (by first | decide | omega)) co.px (by rfl) T.g_need_few (z3 (z5 0) (z3 (de_con T.k_FEW (by rfl)) z7))))
      dss_dead))).cut
noncomputable def b_least : Sl → Sto → Res Fl :=
  (sSeq (sExpr (dCallF 1 F_need_plain (dCons (dVar 0) dNil)))
  sDead)
noncomputable def F_least : List D → Sto → Res D := cutF (dFn 1 b_least)
theorem d_least (T : Tx K mg w lm lb) : FnD P w (clL K w lm lb) K mg base 4 (He.ga K "least") 1 F_least := by
  obtain ⟨fd, Fu⟩ := T.f_least
  exact (fnD_of Fu sc_least (fun _ _ _ _ _ _ us hl => match us, hl with | [_], _ => rfl) (fun cdv A outer s H E co =>
      (z8 (ze (za (d_need_plain T) (co.hr.mono (by first | decide | omega)) co.px (by rfl) T.g_need_plain (z3 (z5 0) z7)))
      dss_dead))).cut
noncomputable def b_deeds_of : Sl → Sto → Res Fl :=
  (sSeq (sAsg (dC (.int 0)) (gVar 2))
  (sSeq (sAsg (dLst dNil) (gVar 3))
  (sSeq (sFor (iVal (dVar 1)) (gVar 4) (sSeq (sAsg (d2 ixD (d2 ixD (d2 ixD (dVar 0) (dC (.int 2))) (dVar 2)) (dCallF 1 F_number_of (dCons (dVar 4) dNil))) (gTupD 2 (gsCons (gVar 5) (gsCons (gVar 2) gsNil))))
  (sExpr (dBm "list" appendD (dVar 3) (dCons (dVar 5) dNil)))))
  (sRet (dFrz (dVar 3))))))
noncomputable def F_deeds_of : List D → Sto → Res D := cutF (dFn 6 b_deeds_of)
theorem d_deeds_of (T : Tx K mg w lm lb) : FnD P w (clL K w lm lb) K mg base 2 (He.ga K "deeds_of") 2 F_deeds_of := by
  obtain ⟨fd, Fu⟩ := T.f_deeds_of
  exact (fnD_of Fu sc_deeds_of (fun _ _ _ _ _ _ us hl => match us, hl with | [_, _], _ => rfl) (fun cdv A outer s H E co =>
      (z8 (zh (i := 2) co.nd rfl (Or.inl rfl) z9)
      (z8 (zh (i := 3) co.nd rfl (Or.inl rfl) (de_lst z7))
      (z8 (ds_for co.po co.calm (di_val (z5 1)) (dg_name (i := 4) co.nd rfl (Or.inl rfl)) (z8 (ds_asg (zi (zi (zi (z5 0) z9) (z5 2)) (za (d_number_of T) (co.hr.mono (by first | decide | omega)) co.px (by rfl) T.g_number_of (z3 (z5 4) z7))) (dg_tup co.calm (dgs_cons (dg_name (i := 5) co.nd rfl (Or.inl rfl)) (dgs_cons (dg_name (i := 2) co.nd rfl (Or.inl rfl)) dgs_nil))))
      (zb (ze (de_bm PySem.F.plainAttrs_list PySem.F.slot_list_append PySem.F.type_list_append md_append (z5 3) (z3 (z5 5) z7))))))
      (zb (ds_ret (de_frz (z5 3))))))))).cut
noncomputable def b_plain_run : Sl → Sto → Res Fl :=
  (sSeq (sExpr (dCallF 1 F_need_plain (dCons (dVar 0) dNil)))
  (sSeq (sExpr (dCallF 2 F_need_beats (dCons (d2 ixD (dVar 0) (dC (.int 0))) (dCons (dVar 1) dNil))))
  (sRet (dCallF 2 F_deeds_of (dCons (dVar 0) (dCons (dVar 1) dNil))))))
noncomputable def F_plain_run : List D → Sto → Res D := cutF (dFn 2 b_plain_run)
theorem d_plain_run (T : Tx K mg w lm lb) : FnD P w (clL K w lm lb) K mg base 4 (He.ga K "plain_run") 2 F_plain_run := by
  obtain ⟨fd, Fu⟩ := T.f_plain_run
  exact (fnD_of Fu sc_plain_run (fun _ _ _ _ _ _ us hl => match us, hl with | [_, _], _ => rfl) (fun cdv A outer s H E co =>
      (z8 (ze (za (d_need_plain T) (co.hr.mono (by first | decide | omega)) co.px (by rfl) T.g_need_plain (z3 (z5 0) z7)))
      (z8 (ze (za (d_need_beats T) (co.hr.mono (by first | decide | omega)) co.px (by rfl) T.g_need_beats (z3 (zi (z5 0) z9) (z3 (z5 1) z7))))
      (zb (ds_ret (za (d_deeds_of T) (co.hr.mono (by first | decide | omega)) co.px (by rfl) T.g_deeds_of (z3 (z5 0) (z3 (z5 1) z7))))))))).cut
noncomputable def b_need_tests : Sl → Sto → Res Fl :=
  (sSeq (sExpr (dCallF 2 F_need_few (dCons (dVar 0) (dCons (dC (.int 6)) dNil))))
  sDead)
noncomputable def F_need_tests : List D → Sto → Res D := cutF (dFn 5 b_need_tests)
theorem d_need_tests (T : Tx K mg w lm lb) : FnD P w (clL K w lm lb) K mg base 5 (He.ga K "need_tests") 2 F_need_tests := by
  obtain ⟨fd, Fu⟩ := T.f_need_tests
  exact (fnD_of Fu sc_need_tests (fun _ _ _ _ _ _ us hl => match us, hl with | [_, _], _ => rfl) (fun cdv A outer s H E co =>
      (z8 (ze (za (d_need_few T) (co.hr.mono (by first | decide | omega)) co.px (by rfl) T.g_need_few (z3 (z5 0) (z3 (de_con T.k_SMALL (by rfl)) z7))))
      dss_dead))).cut
noncomputable def b_lean : Sl → Sto → Res Fl :=
  (sSeq (sExpr (dCallF 2 F_need_tests (dCons (dVar 0) (dCons (dVar 1) dNil))))
  sDead)
noncomputable def F_lean : List D → Sto → Res D := cutF (dFn 8 b_lean)
theorem d_lean (T : Tx K mg w lm lb) : FnD P w (clL K w lm lb) K mg base 6 (He.ga K "lean") 2 F_lean := by
  obtain ⟨fd, Fu⟩ := T.f_lean
  exact (fnD_of Fu sc_lean (fun _ _ _ _ _ _ us hl => match us, hl with | [_, _], _ => rfl) (fun cdv A outer s H E co =>
      (z8 (ze (za (d_need_tests T) (co.hr.mono (by first | decide | omega)) co.px (by rfl) T.g_need_tests (z3 (z5 0) (z3 (z5 1) z7))))
      dss_dead))).cut
noncomputable def b_checks : Sl → Sto → Res Fl :=
  (sSeq (sExpr (dCallF 2 F_need_few (dCons (dVar 0) (dCons (dC (.int 6)) dNil))))
  sDead)
noncomputable def F_checks : List D → Sto → Res D := cutF (dFn 3 b_checks)
theorem d_checks (T : Tx K mg w lm lb) : FnD P w (clL K w lm lb) K mg base 5 (He.ga K "checks") 1 F_checks := by
  obtain ⟨fd, Fu⟩ := T.f_checks
  exact (fnD_of Fu sc_checks (fun _ _ _ _ _ _ us hl => match us, hl with | [_], _ => rfl) (fun cdv A outer s H E co =>
      (z8 (ze (za (d_need_few T) (co.hr.mono (by first | decide | omega)) co.px (by rfl) T.g_need_few (z3 (z5 0) (z3 (de_con T.k_SMALL (by rfl)) z7))))
      dss_dead))).cut
noncomputable def b_misses : Sl → Sto → Res Fl :=
  (sSeq (sExpr (dCallF 2 F_need_tests (dCons (dVar 0) (dCons (dVar 1) dNil))))
  sDead)
noncomputable def F_misses : List D → Sto → Res D := cutF (dFn 4 b_misses)
theorem d_misses (T : Tx K mg w lm lb) : FnD P w (clL K w lm lb) K mg base 6 (He.ga K "misses") 2 F_misses := by
  obtain ⟨fd, Fu⟩ := T.f_misses
  exact (fnD_of Fu sc_misses (fun _ _ _ _ _ _ us hl => match us, hl with | [_, _], _ => rfl) (fun cdv A outer s H E co =>
      (z8 (ze (za (d_need_tests T) (co.hr.mono (by first | decide | omega)) co.px (by rfl) T.g_need_tests (z3 (z5 0) (z3 (z5 1) z7))))
      dss_dead))).cut
noncomputable def b_need_numbers : Sl → Sto → Res Fl :=
  (sSeq (sIf (tOrD (d2T neD (dCall lenD (dCons (dVar 1) dNil)) (dCall lenD (dCons (d2 ixD (dVar 0) (dC (.int 2))) dNil))) (tOrD (d2T neD (dFrz (dComp [3] (iVal (dVar 1)) (gVar 3) (d2T ltD (dVar 3) (dC (.int 0))) (dVar 3))) (dLstF dNil)) (d2T neD (d2 ixD (dVar 1) (dC (.int 0))) (dC (.int 0))))) (sRaiseT 14) sNext)
  sDead)
noncomputable def F_need_numbers : List D → Sto → Res D := cutF (dFn 6 b_need_numbers)
theorem d_need_numbers (T : Tx K mg w lm lb) : FnD P w (clL K w lm lb) K mg base 3 (He.ga K "need_numbers") 2 F_need_numbers := by
  obtain ⟨fd, Fu⟩ := T.f_need_numbers
  exact (fnD_of Fu sc_need_numbers (fun _ _ _ _ _ _ us hl => match us, hl with | [_, _], _ => rfl) (fun cdv A outer s H E co =>
      (z8 (ds_if (dt_bool (dw_or (dt_cmp (op_neDD co.hu) (de_callB cd_len (by rfl) T.z_len (by decide +kernel) (z3 (z5 1) z7)) (de_callB cd_len (by rfl) T.z_len (by decide +kernel) (z3 (zi (z5 0) z9) z7)) (nomark _)) (dw_or (dt_cmp (op_neDD co.hu) (de_frz (de_comp (own := [("number", 3)]) co.calm co.nd (di_val (z5 1)) (blkOk_by (by kernel_rfl)) (fun _ _ _ _ _ => (dgw_name (i := 3) (by decide) (co.blk _ _ _ _ _).nd rfl (Or.inl rfl))) (fun _ _ _ _ _ => (dts_one (dt_cmp op_ltD (z5 3) z9 (nomark _)))) (fun _ _ _ _ _ => (z5 3)))) (de_lstF z7) (nomark _)) (dw_or1 (dt_cmp (op_neDD co.hu) (zi (z5 1) z9) z9 (nomark _)))))) (zb (ds_raiseT T.xt_BadNumbers co (by rfl) T.g_BadNumbers)) dss_nil)
      dss_dead))).cut
noncomputable def b_bound : Sl → Sto → Res Fl :=
  (sSeq (sExpr (dCallF 1 F_need_plain (dCons (dVar 0) dNil)))
  (sSeq (sExpr (dCallF 2 F_need_numbers (dCons (dVar 0) (dCons (dVar 1) dNil))))
  sDead))
noncomputable def F_bound : List D → Sto → Res D := cutF (dFn 6 b_bound)
theorem d_bound (T : Tx K mg w lm lb) : FnD P w (clL K w lm lb) K mg base 4 (He.ga K "bound") 2 F_bound := by
  obtain ⟨fd, Fu⟩ := T.f_bound
  exact (fnD_of Fu sc_bound (fun _ _ _ _ _ _ us hl => match us, hl with | [_, _], _ => rfl) (fun cdv A outer s H E co =>
      (z8 (ze (za (d_need_plain T) (co.hr.mono (by first | decide | omega)) co.px (by rfl) T.g_need_plain (z3 (z5 0) z7)))
      (z8 (ze (za (d_need_numbers T) (co.hr.mono (by first | decide | omega)) co.px (by rfl) T.g_need_numbers (z3 (z5 0) (z3 (z5 1) z7))))
      dss_dead)))).cut
noncomputable def b_tour_paper : Sl → Sto → Res Fl :=
  (sSeq (sExpr (dCallF 2 F_need_few (dCons (dVar 0) (dCons (dC (.int 24)) dNil))))
  sDead)
noncomputable def F_tour_paper : List D → Sto → Res D := cutF (dFn 3 b_tour_paper)
theorem d_tour_paper (T : Tx K mg w lm lb) : FnD P w (clL K w lm lb) K mg base 5 (He.ga K "tour_paper") 1 F_tour_paper := by
  obtain ⟨fd, Fu⟩ := T.f_tour_paper
  exact (fnD_of Fu sc_tour_paper (fun _ _ _ _ _ _ us hl => match us, hl with | [_], _ => rfl) (fun cdv A outer s H E co =>
      (z8 (ze (za (d_need_few T) (co.hr.mono (by first | decide | omega)) co.px (by rfl) T.g_need_few (z3 (z5 0) (z3 (de_con T.k_FEW (by rfl)) z7))))
      dss_dead))).cut
noncomputable def b_tour : Sl → Sto → Res Fl :=
  (sSeq (sExpr (dCallF 2 F_need_few (dCons (dVar 0) (dCons (dC (.int 24)) dNil))))
  sDead)
noncomputable def F_tour : List D → Sto → Res D := cutF (dFn 2 b_tour)
theorem d_tour (T : Tx K mg w lm lb) : FnD P w (clL K w lm lb) K mg base 5 (He.ga K "tour") 1 F_tour := by
  obtain ⟨fd, Fu⟩ := T.f_tour
  exact (fnD_of Fu sc_tour (fun _ _ _ _ _ _ us hl => match us, hl with | [_], _ => rfl) (fun cdv A outer s H E co =>
      (z8 (ze (za (d_need_few T) (co.hr.mono (by first | decide | omega)) co.px (by rfl) T.g_need_few (z3 (z5 0) (z3 (de_con T.k_FEW (by rfl)) z7))))
      dss_dead))).cut
noncomputable def b_need_pattern : Sl → Sto → Res Fl :=
  (sSeq (sExpr (dCallF 1 F_need_plain (dCons (dVar 0) dNil)))
  sDead)
noncomputable def F_need_pattern : List D → Sto → Res D := cutF (dFn 3 b_need_pattern)
theorem d_need_pattern (T : Tx K mg w lm lb) : FnD P w (clL K w lm lb) K mg base 4 (He.ga K "need_pattern") 2 F_need_pattern := by
  obtain ⟨fd, Fu⟩ := T.f_need_pattern
  exact (fnD_of Fu sc_need_pattern (fun _ _ _ _ _ _ us hl => match us, hl with | [_, _], _ => rfl) (fun cdv A outer s H E co =>
      (z8 (ze (za (d_need_plain T) (co.hr.mono (by first | decide | omega)) co.px (by rfl) T.g_need_plain (z3 (z5 0) z7)))
      dss_dead))).cut
noncomputable def b_shows : Sl → Sto → Res Fl :=
  (sSeq (sExpr (dCallF 2 F_need_pattern (dCons (dVar 0) (dCons (dVar 1) dNil))))
  sDead)
noncomputable def F_shows : List D → Sto → Res D := cutF (dFn 5 b_shows)
theorem d_shows (T : Tx K mg w lm lb) : FnD P w (clL K w lm lb) K mg base 5 (He.ga K "shows") 3 F_shows := by
  obtain ⟨fd, Fu⟩ := T.f_shows
  exact (fnD_of Fu sc_shows (fun _ _ _ _ _ _ us hl => match us, hl with | [_, _, _], _ => rfl) (fun cdv A outer s H E co =>
      (z8 (ze (za (d_need_pattern T) (co.hr.mono (by first | decide | omega)) co.px (by rfl) T.g_need_pattern (z3 (z5 0) (z3 (z5 1) z7))))
      dss_dead))).cut
noncomputable def b_never : Sl → Sto → Res Fl :=
  (sSeq (sExpr (dCallF 2 F_need_pattern (dCons (dVar 0) (dCons (dVar 1) dNil))))
  sDead)
noncomputable def F_never : List D → Sto → Res D := cutF (dFn 12 b_never)
theorem d_never (T : Tx K mg w lm lb) : FnD P w (clL K w lm lb) K mg base 5 (He.ga K "never") 2 F_never := by
  obtain ⟨fd, Fu⟩ := T.f_never
  exact (fnD_of Fu sc_never (fun _ _ _ _ _ _ us hl => match us, hl with | [_, _], _ => rfl) (fun cdv A outer s H E co =>
      (z8 (ze (za (d_need_pattern T) (co.hr.mono (by first | decide | omega)) co.px (by rfl) T.g_need_pattern (z3 (z5 0) (z3 (z5 1) z7))))
      dss_dead))).cut
noncomputable def b_made_circuit : Sl → Sto → Res Fl :=
  (sSeq (sExpr (dCallF 2 F_need_few (dCons (dVar 0) (dCons (dC (.int 24)) dNil))))
  sDead)
noncomputable def F_made_circuit : List D → Sto → Res D := cutF (dFn 19 b_made_circuit)
theorem d_made_circuit (T : Tx K mg w lm lb) : FnD P w (clL K w lm lb) K mg base 5 (He.ga K "made_circuit") 1 F_made_circuit := by
  obtain ⟨fd, Fu⟩ := T.f_made_circuit
  exact (fnD_of Fu sc_made_circuit (fun _ _ _ _ _ _ us hl => match us, hl with | [_], _ => rfl) (fun cdv A outer s H E co =>
      (z8 (ze (za (d_need_few T) (co.hr.mono (by first | decide | omega)) co.px (by rfl) T.g_need_few (z3 (z5 0) (z3 (de_con T.k_FEW (by rfl)) z7))))
      dss_dead))).cut
noncomputable def b_made_program : Sl → Sto → Res Fl :=
  (sSeq (sExpr (dCallF 1 F_need_plain (dCons (dVar 0) dNil)))
  sDead)
noncomputable def F_made_program : List D → Sto → Res D := cutF (dFn 8 b_made_program)
theorem d_made_program (T : Tx K mg w lm lb) : FnD P w (clL K w lm lb) K mg base 4 (He.ga K "made_program") 1 F_made_program := by
  obtain ⟨fd, Fu⟩ := T.f_made_program
  exact (fnD_of Fu sc_made_program (fun _ _ _ _ _ _ us hl => match us, hl with | [_], _ => rfl) (fun cdv A outer s H E co =>
      (z8 (ze (za (d_need_plain T) (co.hr.mono (by first | decide | omega)) co.px (by rfl) T.g_need_plain (z3 (z5 0) z7)))
      dss_dead))).cut
noncomputable def b_trees : Sl → Sto → Res Fl :=
  (sSeq (sExpr (dCallF 1 F_need_plain (dCons (dVar 0) dNil)))
  sDead)
noncomputable def F_trees : List D → Sto → Res D := cutF (dFn 2 b_trees)
theorem d_trees (T : Tx K mg w lm lb) : FnD P w (clL K w lm lb) K mg base 4 (He.ga K "trees") 1 F_trees := by
  obtain ⟨fd, Fu⟩ := T.f_trees
  exact (fnD_of Fu sc_trees (fun _ _ _ _ _ _ us hl => match us, hl with | [_], _ => rfl) (fun cdv A outer s H E co =>
      (z8 (ze (za (d_need_plain T) (co.hr.mono (by first | decide | omega)) co.px (by rfl) T.g_need_plain (z3 (z5 0) z7)))
      dss_dead))).cut
noncomputable def b_rules_of : Sl → Sto → Res Fl :=
  (sSeq (sExpr (dCallF 1 F_need_plain (dCons (dVar 0) dNil)))
  sDead)
noncomputable def F_rules_of : List D → Sto → Res D := cutF (dFn 2 b_rules_of)
theorem d_rules_of (T : Tx K mg w lm lb) : FnD P w (clL K w lm lb) K mg base 4 (He.ga K "rules_of") 1 F_rules_of := by
  obtain ⟨fd, Fu⟩ := T.f_rules_of
  exact (fnD_of Fu sc_rules_of (fun _ _ _ _ _ _ us hl => match us, hl with | [_], _ => rfl) (fun cdv A outer s H E co =>
      (z8 (ze (za (d_need_plain T) (co.hr.mono (by first | decide | omega)) co.px (by rfl) T.g_need_plain (z3 (z5 0) z7)))
      dss_dead))).cut
noncomputable def b_law : Sl → Sto → Res Fl :=
  (sSeq (sAsg (dCallF 1 Fr__law_start (dCons (dFrz (dVar 0)) dNil)) (gVar 1))
  (sSeq (sFor (iRngD1 (dC (.int 6))) (gVar 2) (sSeq (sAsg (dCallF 3 F__law_plain (dCons (dVar 1) (dCons (d2 ixD (dLstF (dCons (dC (.int 12)) (dCons (dC (.int 12)) (dCons (dC (.int 12)) (dCons (dC (.int 200)) dNil))))) (dCallF 2 F__law_drawn (dCons (dVar 1) (dCons (dC (.int 4)) dNil)))) (dCons (dC (.int 4)) dNil)))) (gVar 3))
  (sSeq (sAsg (dFrz (dComp [15] (iRngD1 (dCallF 2 F__law_drawn (dCons (dVar 1) (dCons (dC (.int 41)) dNil)))) (gVar 15) tYesD (dCallF 2 F__law_beat (dCons (dVar 1) (dCons (d2 ixD (dVar 3) (dC (.int 0))) dNil))))) (gVar 4))
  (sSeq (sAsg (dLst dNil) (gVar 5))
  (sSeq (sAsg (dC (.int 0)) (gVar 6))
  (sSeq (sFor (iVal (dVar 4)) (gVar 7) (sSeq (sAsg (dCallF 3 F__law_at (dCons (dVar 3) (dCons (dVar 6) (dCons (dVar 7) dNil)))) (gTupD 2 (gsCons (gVar 16) (gsCons (gVar 6) gsNil))))
  (sExpr (dBm "list" appendD (dVar 5) (dCons (dVar 16) dNil)))))
  (sSeq (sAsg (dCall listF (dCons (dVar 4) dNil)) (gVar 8))
  (sSeq (sFor (iRngD1 (dC (.int 2))) (gVar 9) (sSeq (sAsg (dCallF 2 Fr_plain_run (dCons (dVar 3) (dCons (dVar 8) dNil))) (gVar 12))
  (sSeq (sIf (tOrD (tNotD (tstB (dCallF 2 (F__law_same 40) (dCons (dVar 12) (dCons (dVar 5) dNil))))) (d2T neD (dVar 8) (dVar 4))) (sRet (dC (.bl false))) sNext)
  (sExpr (dBm "list" appendD (dVar 12) (dCons (dC (.str "")) dNil))))))
  (sSeq (sAsg (dCallF 2 F__law_odd (dCons (dVar 1) (dCons (dVar 3) dNil))) (gTupD 2 (gsCons (gVar 13) (gsCons (gVar 14) gsNil))))
  (sSeq (sAsg (dLstF (dCons (dLam 0) (dCons (dLam 1) (dCons (dLam 2) dNil)))) (gVar 10))
  (sSeq (sAsg (d2 addF (d2 addF (dVar 10) (dCallF 1 F__law_more_doors (dCons (dVar 13) dNil))) (dLstF (dCons (dLam 3) (dCons (dLam 4) dNil)))) (gVar 10))
  (sSeq (sIf (d2T neD (dFrz (dCompN [17] (iVal (dVar 10)) (gVar 17) (fun sd0 => (tNotD (tstB (dCallF 2 (F__law_same 40) (dCons (dKindX x_kind (fun i => [(dCallF 2 F_plain_run (dCons (dVar 13) (dCons (dLstF (dCons (dC (.str "x")) dNil)) dNil))), (dCallF 1 F_least (dCons (dVar 13) dNil)), (dCallF 1 F_parted (dCons (dVar 13) dNil)), (dCallF 2 F_alike (dCons (dVar 13) (dCons (dTup (dCons (dC (.int 0)) (dCons (dC (.int 0)) (dCons (dTup dNil) dNil)))) dNil))), (dCallF 2 F_alike (dCons (dVar 3) (dCons (dVar 13) dNil)))][i]?) (fun i => [(dCallF 1 F_rules_of (dCons (dVar 0) dNil)), (dCallF 1 F_trees (dCons (dVar 0) dNil)), (dCallF 1 F_made_program (dCons (dVar 0) dNil)), (dCallF 1 F_made_circuit (dCons (dVar 0) dNil)), (dCallF 2 F_never (dCons (dVar 0) (dCons (dLstF dNil) dNil))), (dCallF 3 F_shows (dCons (dVar 0) (dCons (dLstF dNil) (dCons (dLstF dNil) dNil)))), (dCallF 1 F_tour (dCons (dVar 0) dNil)), (dCallF 1 F_tour_paper (dCons (dVar 0) dNil)), (dCallF 2 F_bound (dCons (dVar 0) (dCons (dLstF dNil) dNil))), (dCallF 2 F_misses (dCons (dVar 0) (dCons (dLstF (dCons (dLstF (dCons (dC (.str "x")) dNil)) dNil)) dNil))), (dCallF 1 F_checks (dCons (dVar 0) dNil)), (dCallF 2 F_lean (dCons (dVar 0) (dCons (dLstF (dCons (dLstF (dCons (dC (.str "x")) dNil)) dNil)) dNil)))][i]?) (dVar 17) sd0) (dCons (dTup (dCons (dC (.str "BadPlain")) (dCons (dVar 14) dNil))) dNil)))))))) (dLstF dNil)) (sRet (dC (.bl false))) sNext)
  (sSeq (sAsg (d2 addF (dVar 4) (dLstF (dCons (d2 mulD (dC (.str "0")) (d2 addD (d2 ixD (dVar 3) (dC (.int 0))) (dC (.int 1)))) (dCons (dC (.str "x")) dNil)))) (gVar 11))
  (sIf (tNotD (tstB (dCallF 2 (F__law_same 40) (dCons (dKind x_kind (dCallF 2 F_plain_run (dCons (dVar 3) (dCons (dVar 11) dNil)))) (dCons (dTup (dCons (dC (.str "BadBeat")) (dCons (dCall lenD (dCons (dVar 4) dNil)) dNil))) dNil))))) (sRet (dC (.bl false))) sNext))))))))))))))
  (sRet (dC (.bl true)))))
noncomputable def F_law : List D → Sto → Res D := dFn 18 b_law
theorem tx_lm {K : PySem.W.Frag} {mg : Str → Option Value} {w : World} {l1 l2 : LamK1} {b1 b2 : LamK2} (T : Tx K mg w l1 b1) : Tx K mg w l2 b2 := { g__law_start := T.g__law_start, g__law_drawn := T.g__law_drawn, g__law_deed := T.g__law_deed, g__law_plain := T.g__law_plain, g__law_beat := T.g__law_beat, g__law_beats := T.g__law_beats, g__law_at := T.g__law_at, g_is_word := T.g_is_word, g_is_row := T.g_is_row, g_need_plain := T.g_need_plain, g_need_beats := T.g_need_beats, g_number_of := T.g_number_of, g_deeds_of := T.g_deeds_of, g_plain_run := T.g_plain_run, g__law_same := T.g__law_same, g__law_far := T.g__law_far, g__law_odd := T.g__law_odd, g_least := T.g_least, g_need_few := T.g_need_few, g_parted := T.g_parted, g_rules_of := T.g_rules_of, g_trees := T.g_trees, g_made_program := T.g_made_program, g_made_circuit := T.g_made_circuit, g_need_pattern := T.g_need_pattern, g_never := T.g_never, g_shows := T.g_shows, g_tour := T.g_tour, g_tour_paper := T.g_tour_paper, g_need_numbers := T.g_need_numbers, g_bound := T.g_bound, g_need_tests := T.g_need_tests, g_misses := T.g_misses, g_checks := T.g_checks, g_lean := T.g_lean, g__law_more_doors := T.g__law_more_doors, g_alike := T.g_alike, g__law_kind := T.g__law_kind, g_law := T.g_law, g_BeatError := T.g_BeatError, g_BadMachine := T.g_BadMachine, g_NotSound := T.g_NotSound, g_BadBeat := T.g_BadBeat, g_BadPlain := T.g_BadPlain, g_TooLarge := T.g_TooLarge, g_BadMatch := T.g_BadMatch, g_BadMarks := T.g_BadMarks, g_BadTree := T.g_BadTree, g_BadProgram := T.g_BadProgram, g_Stuck := T.g_Stuck, g_BadCircuit := T.g_BadCircuit, g_BadPattern := T.g_BadPattern, g_BadPairs := T.g_BadPairs, g_BadNumbers := T.g_BadNumbers, g_BadRows := T.g_BadRows, g_BadText := T.g_BadText, g_Cover := T.g_Cover, g_Maker := T.g_Maker, g_Grower := T.g_Grower, g_Flow := T.g_Flow, z_isinstance := T.z_isinstance, z_ValueError := T.z_ValueError, z_range := T.z_range, z_len := T.z_len, z_min := T.z_min, z_tuple := T.z_tuple, z_list := T.z_list, z_enumerate := T.z_enumerate, z_int := T.z_int, z_str := T.z_str, z_bool := T.z_bool, k_MOST_INS := T.k_MOST_INS, k_MOST_OUTS := T.k_MOST_OUTS, k_COUNTS := T.k_COUNTS, k_MOST_PLAIN := T.k_MOST_PLAIN, k_FEW := T.k_FEW, k_MOST_PATTERN := T.k_MOST_PATTERN, k_NEVER := T.k_NEVER, k_SMALL := T.k_SMALL, k_MOST_TESTS := T.k_MOST_TESTS, xb := T.xb, xo_BadMachine := T.xo_BadMachine, xi_BadMachine := T.xi_BadMachine, xt_NotSound := T.xt_NotSound, xo_BadBeat := T.xo_BadBeat, xi_BadBeat := T.xi_BadBeat, xo_BadPlain := T.xo_BadPlain, xi_BadPlain := T.xi_BadPlain, xt_TooLarge := T.xt_TooLarge, xt_BadMatch := T.xt_BadMatch, xt_BadMarks := T.xt_BadMarks, xt_BadTree := T.xt_BadTree, xo_BadProgram := T.xo_BadProgram, xi_BadProgram := T.xi_BadProgram, xt_Stuck := T.xt_Stuck, xo_BadCircuit := T.xo_BadCircuit, xi_BadCircuit := T.xi_BadCircuit, xt_BadPattern := T.xt_BadPattern, xt_BadPairs := T.xt_BadPairs, xt_BadNumbers := T.xt_BadNumbers, xo_BadRows := T.xo_BadRows, xi_BadRows := T.xi_BadRows, xo_BadText := T.xo_BadText, xi_BadText := T.xi_BadText, c_Cover := T.c_Cover, mk_Cover := T.mk_Cover, c_Maker := T.c_Maker, mk_Maker := T.mk_Maker, c_Grower := T.c_Grower, mk_Grower := T.mk_Grower, c_Flow := T.c_Flow, mk_Flow := T.mk_Flow, tu := T.tu, ea := ⟨T.ea.exc, T.ea.exm, T.ea.kv, T.ea.kit⟩, f__law_start := T.f__law_start, f__law_drawn := T.f__law_drawn, f__law_deed := T.f__law_deed, f__law_plain := T.f__law_plain, f__law_beat := T.f__law_beat, f__law_beats := T.f__law_beats, f__law_at := T.f__law_at, f_is_word := T.f_is_word, f_is_row := T.f_is_row, f_need_plain := T.f_need_plain, f_need_beats := T.f_need_beats, f_number_of := T.f_number_of, f_deeds_of := T.f_deeds_of, f_plain_run := T.f_plain_run, f__law_same := T.f__law_same, f__law_far := T.f__law_far, f__law_odd := T.f__law_odd, f_least := T.f_least, f_need_few := T.f_need_few, f_parted := T.f_parted, f_rules_of := T.f_rules_of, f_trees := T.f_trees, f_made_program := T.f_made_program, f_made_circuit := T.f_made_circuit, f_need_pattern := T.f_need_pattern, f_never := T.f_never, f_shows := T.f_shows, f_tour := T.f_tour, f_tour_paper := T.f_tour_paper, f_need_numbers := T.f_need_numbers, f_bound := T.f_bound, f_need_tests := T.f_need_tests, f_misses := T.f_misses, f_checks := T.f_checks, f_lean := T.f_lean, f__law_more_doors := T.f__law_more_doors, f_alike := T.f_alike, f__law_kind := T.f__law_kind, f_law := T.f_law, f_x_BadMachine := T.f_x_BadMachine, f_x_BadBeat := T.f_x_BadBeat, f_x_BadPlain := T.f_x_BadPlain, f_x_BadProgram := T.f_x_BadProgram, f_x_BadCircuit := T.f_x_BadCircuit, f_x_BadRows := T.f_x_BadRows, f_x_BadText := T.f_x_BadText }
theorem d_law (T : Tx K mg w lm0 lb0) {fd : FuncData} (Fu : FunD K "law" "law" (defArgs st_law) (defBody st_law) (defScope st_law) [] [] (He.fAd K ("law", none)) fd) : (∀ (s : Shared) (u : Value), BindsTo s fd ⟨[u], []⟩ [("_law_script", u)]) ∧ ∀ base : Heap, TbA K mg base → FnOk P w K mg base (L2.CX P w) 43 (He.ga K "law") fd ["_law_script"] (spL (cl K w) K 1 F_law) :=
  fnD_lawL (lm := fun L => lamT lamTab (defScope st_law).names L) Fu sc_law (fun _ _ _ _ _ _ us hl => match us, hl with | [_], _ => rfl) (fun _ _ _ h => h) (fun base TB A outer s H E co =>
      have T : Tx K mg w (lamT lamTab (defScope st_law).names s.heap.objs.size) lb0 := tx_lm T
      (z8 (zh (i := 1) co.nd rfl (Or.inr rfl) (za (dr__law_start T) (co.hr.mono (by first | decide | omega)) co.px (by rfl) T.g__law_start (z3 (de_frz (z5 0)) z7)))
      (z8 (ds_for co.po co.calm (di_range1 (by rfl) T.z_range z9) (dg_name (i := 2) co.nd rfl (Or.inl rfl)) (z8 (zh (i := 3) co.nd rfl (Or.inr rfl) (za (d__law_plain T) (co.hr.mono (by first | decide | omega)) co.px (by rfl) T.g__law_plain (z3 (z5 1) (z3 (zi (de_lstF (z3 z9 (z3 z9 (z3 z9 (z3 z9 z7))))) (za (d__law_drawn T) (co.hr.mono (by first | decide | omega)) co.px (by rfl) T.g__law_drawn (z3 (z5 1) (z3 z9 z7)))) (z3 z9 z7)))))
      (z8 (ds_compF (i := 4) (own := [("_law_k", 15)]) co.calm co.nd rfl rfl (sw_true rfl rfl rfl (by decide +kernel)) (di_range1 (by rfl) T.z_range (za (d__law_drawn T) (co.hr.mono (by first | decide | omega)) co.px (by rfl) T.g__law_drawn (z3 (z5 1) (z3 z9 z7)))) (blkOk_by (by kernel_rfl)) (fun _ _ _ _ _ => (dgw_name (i := 15) (by decide) (co.blk _ _ _ _ _).nd rfl (Or.inl rfl))) (fun _ _ _ _ _ => dts_nil) (fun _ _ _ _ _ => (za (d__law_beat T) ((co.blk _ _ _ _ _).hr.mono (by first | decide | omega)) (co.blk _ _ _ _ _).px (by rfl) T.g__law_beat (z3 (z5 1) (z3 (zi (z5 3) z9) z7)))))
      (z8 (zh (i := 5) co.nd rfl (Or.inl rfl) (de_lst z7))
      (z8 (zh (i := 6) co.nd rfl (Or.inl rfl) z9)
      (z8 (ds_for co.po co.calm (di_val (z5 4)) (dg_name (i := 7) co.nd rfl (Or.inl rfl)) (z8 (ds_asg (za (d__law_at T) (co.hr.mono (by first | decide | omega)) co.px (by rfl) T.g__law_at (z3 (z5 3) (z3 (z5 6) (z3 (z5 7) z7)))) (dg_tup co.calm (dgs_cons (dg_name (i := 16) co.nd rfl (Or.inl rfl)) (dgs_cons (dg_name (i := 6) co.nd rfl (Or.inl rfl)) dgs_nil))))
      (zb (ze (de_bm PySem.F.plainAttrs_list PySem.F.slot_list_append PySem.F.type_list_append md_append (z5 5) (z3 (z5 16) z7))))))
      (z8 (zh (i := 8) co.nd rfl (Or.inl rfl) (de_callTy cd_listF (by rfl) T.z_list (by decide +kernel) (z3 (z5 4) z7)))
      (z8 (ds_for co.po co.calm (di_range1 (by rfl) T.z_range z9) (dg_name (i := 9) co.nd rfl (Or.inl rfl)) (z8 (zh (i := 12) co.nd rfl (Or.inl rfl) (za (dr_plain_run T) (co.hr.mono (by first | decide | omega)) co.px (by rfl) T.g_plain_run (z3 (z5 3) (z3 (z5 8) z7))))
      (z8 (ds_if (dt_bool (dw_or (dt_not (dt_val (za (d__law_same T 40) (co.hr.mono (by first | decide | omega)) co.px (by rfl) T.g__law_same (z3 (z5 12) (z3 (z5 5) z7))))) (dw_or1 (dt_cmp (op_neDD co.hu) (z5 8) (z5 4) (nomark _))))) (zb (ds_ret de_bl)) dss_nil)
      (zb (ze (de_bm PySem.F.plainAttrs_list PySem.F.slot_list_append PySem.F.type_list_append md_append (z5 12) (z3 zg z7)))))))
      (z8 (ds_asg (za (d__law_odd T) (co.hr.mono (by first | decide | omega)) co.px (by rfl) T.g__law_odd (z3 (z5 1) (z3 (z5 3) z7))) (dg_tup co.calm (dgs_cons (dg_name (i := 13) co.nd rfl (Or.inr rfl)) (dgs_cons (dg_name (i := 14) co.nd rfl (Or.inr rfl)) dgs_nil))))
      (z8 (zh (i := 10) co.nd rfl (Or.inl rfl) (de_lstF (z3 (de_lam0 (i := 0) (TB _ (show (("law", none) : He.Defn) ∈ tf from by simp [tf, tq])) rfl (tab_mem (show ((("law", none), "law") : He.Defn × Str) ∈ tq from by simp [tq])) (tab_uniq T.tu (show ((("law", none), "law") : He.Defn × Str) ∈ tq from by simp [tq])) (zc (by kernel_rfl)) rfl (fun _ _ h => ⟨_, rfl, h⟩)) (z3 (de_lam1 (i := 1) (TB _ (show (("law", none) : He.Defn) ∈ tf from by simp [tf, tq])) rfl (tab_mem (show ((("law", none), "law") : He.Defn × Str) ∈ tq from by simp [tq])) (tab_uniq T.tu (show ((("law", none), "law") : He.Defn × Str) ∈ tq from by simp [tq])) (zc (by kernel_rfl)) rfl rfl (fun _ _ h => ⟨_, rfl, h⟩)) (z3 (de_lam1 (i := 2) (TB _ (show (("law", none) : He.Defn) ∈ tf from by simp [tf, tq])) rfl (tab_mem (show ((("law", none), "law") : He.Defn × Str) ∈ tq from by simp [tq])) (tab_uniq T.tu (show ((("law", none), "law") : He.Defn × Str) ∈ tq from by simp [tq])) (zc (by kernel_rfl)) rfl rfl (fun _ _ h => ⟨_, rfl, h⟩)) z7)))))
      (z8 (zh (i := 10) co.nd rfl (Or.inl rfl) (de_opL op_addF (zf op_addF (z5 10) (za (d__law_more_doors T TB (lmOk_law (by decide))) (co.hr.mono (by first | decide | omega)) co.px (by rfl) T.g__law_more_doors (z3 (z5 13) z7))) (de_lstF (z3 (de_lam1 (i := 3) (TB _ (show (("law", none) : He.Defn) ∈ tf from by simp [tf, tq])) rfl (tab_mem (show ((("law", none), "law") : He.Defn × Str) ∈ tq from by simp [tq])) (tab_uniq T.tu (show ((("law", none), "law") : He.Defn × Str) ∈ tq from by simp [tq])) (zc (by kernel_rfl)) rfl rfl (fun _ _ h => ⟨_, rfl, h⟩)) (z3 (de_lam1 (i := 4) (TB _ (show (("law", none) : He.Defn) ∈ tf from by simp [tf, tq])) rfl (tab_mem (show ((("law", none), "law") : He.Defn × Str) ∈ tq from by simp [tq])) (tab_uniq T.tu (show ((("law", none), "law") : He.Defn × Str) ∈ tq from by simp [tq])) (zc (by kernel_rfl)) rfl rfl (fun _ _ h => ⟨_, rfl, h⟩)) z7)))))
      (z8 (ds_if (dt_cmp (op_neDD co.hu) (de_frz (de_compN (own := [("_law_work", 17)]) co.calm co.nd (di_val (z5 10)) (blkOk_by (by kernel_rfl)) (fun _ _ _ _ _ => (dgw_name (i := 17) (by decide) (co.blk _ _ _ _ _).nd rfl (Or.inl rfl))) (fun sd0 m0 σ0 pins0 sX HX CX cX fpX I0 rl0 nx => (dts_one (dt_not (dt_val (za (d__law_same T 40) ((co.blk _ _ _ _ _).hr.mono (by first | decide | omega)) (co.blk _ _ _ _ _).px (by rfl) T.g__law_same (z3 (de_kindX (kA := 5) (kB := 6) (N := capsB) (sc := defScope st__law_more_doors) I0 rl0 nx ((co.blk _ _ _ _ _).at (by first | decide | omega)) ((co.blk _ _ _ _ _).at (by first | decide | omega)) (by rfl) T.g__law_kind T.f__law_kind.choose_spec sc__law_kind (fun _ _ _ _ _ _ us hl => match us, hl with | [_], _ => rfl) rfl (Or.inl rfl) (fun cdv _ => gives__law_kind (lm := lamT lamTab (defScope st_law).names s.heap.objs.size) (lb := lb0) (k := 0) T ((co.blk _ _ _ _ _).hr.mono (by first | decide | omega)) cdv) (lamL_set (lamL_cons lam_0 (fun _ _ h => lamT_at rfl h) (lamOk0 rfl (zc (by kernel_rfl)) (fun _ _ _ _ _ => rfl)) rfl (fun A2 outer2 s2 H2 E2 f2 c2 co2 => (za (d_plain_run T) (co2.hr.mono (by first | decide | omega)) co2.px (by rfl) T.g_plain_run (z3 (z5 13) (z3 (de_lstF (z3 zg z7)) z7)))) (lamL_cons lam_1 (fun _ _ h => lamT_at rfl h) (lamOk1 rfl (zc (by kernel_rfl)) rfl (fun _ _ _ _ _ _ _ _ e => BindsTo.of_defaults rfl e rfl rfl rfl)) rfl (fun A2 outer2 s2 H2 E2 f2 c2 co2 => (za (d_least T) (co2.hr.mono (by first | decide | omega)) co2.px (by rfl) T.g_least (z3 (z5 13) z7))) (lamL_cons lam_2 (fun _ _ h => lamT_at rfl h) (lamOk1 rfl (zc (by kernel_rfl)) rfl (fun _ _ _ _ _ _ _ _ e => BindsTo.of_defaults rfl e rfl rfl rfl)) rfl (fun A2 outer2 s2 H2 E2 f2 c2 co2 => (za (d_parted T) (co2.hr.mono (by first | decide | omega)) co2.px (by rfl) T.g_parted (z3 (z5 13) z7))) (lamL_cons lam_3 (fun _ _ h => lamT_at rfl h) (lamOk1 rfl (zc (by kernel_rfl)) rfl (fun _ _ _ _ _ _ _ _ e => BindsTo.of_defaults rfl e rfl rfl rfl)) rfl (fun A2 outer2 s2 H2 E2 f2 c2 co2 => (za (d_alike T) (co2.hr.mono (by first | decide | omega)) co2.px (by rfl) T.g_alike (z3 (z5 13) (z3 (de_tup (z3 z9 (z3 z9 (z3 (de_tup z7) z7)))) z7)))) (lamL_cons lam_4 (fun _ _ h => lamT_at rfl h) (lamOk1 rfl (zc (by kernel_rfl)) rfl (fun _ _ _ _ _ _ _ _ e => BindsTo.of_defaults rfl e rfl rfl rfl)) rfl (fun A2 outer2 s2 H2 E2 f2 c2 co2 => (za (d_alike T) (co2.hr.mono (by first | decide | omega)) co2.px (by rfl) T.g_alike (z3 (z5 3) (z3 (z5 13) z7)))) lamL_nil)))))) (by decide) (lamLB_set noC_law (lamLB_cons lamw_0 (fun _ _ _ h => lamB_at rfl h) (lamOk0 rfl (zc (by kernel_rfl)) (fun _ _ _ _ _ => rfl)) (fun H0 clo A2 outer2 s2 H2 E2 f2 c2 co2 =>
        have T : Tx K mg w (lmAt1 (lamT lamTab (defScope st_law).names s.heap.objs.size) H0) (lmAt2 lb0 H0) := tx_lm T
        (za (d_rules_of T) (co2.hr.mono (by first | decide | omega)) co2.px (by rfl) T.g_rules_of (z3 (z5 0) z7)))
        (lamLB_cons lamw_1 (fun _ _ _ h => lamB_at rfl h) (lamOk0 rfl (zc (by kernel_rfl)) (fun _ _ _ _ _ => rfl)) (fun H0 clo A2 outer2 s2 H2 E2 f2 c2 co2 =>
        have T : Tx K mg w (lmAt1 (lamT lamTab (defScope st_law).names s.heap.objs.size) H0) (lmAt2 lb0 H0) := tx_lm T
        (za (d_trees T) (co2.hr.mono (by first | decide | omega)) co2.px (by rfl) T.g_trees (z3 (z5 0) z7)))
        (lamLB_cons lamw_2 (fun _ _ _ h => lamB_at rfl h) (lamOk0 rfl (zc (by kernel_rfl)) (fun _ _ _ _ _ => rfl)) (fun H0 clo A2 outer2 s2 H2 E2 f2 c2 co2 =>
        have T : Tx K mg w (lmAt1 (lamT lamTab (defScope st_law).names s.heap.objs.size) H0) (lmAt2 lb0 H0) := tx_lm T
        (za (d_made_program T) (co2.hr.mono (by first | decide | omega)) co2.px (by rfl) T.g_made_program (z3 (z5 0) z7)))
        (lamLB_cons lamw_3 (fun _ _ _ h => lamB_at rfl h) (lamOk0 rfl (zc (by kernel_rfl)) (fun _ _ _ _ _ => rfl)) (fun H0 clo A2 outer2 s2 H2 E2 f2 c2 co2 =>
        have T : Tx K mg w (lmAt1 (lamT lamTab (defScope st_law).names s.heap.objs.size) H0) (lmAt2 lb0 H0) := tx_lm T
        (za (d_made_circuit T) (co2.hr.mono (by first | decide | omega)) co2.px (by rfl) T.g_made_circuit (z3 (z5 0) z7)))
        (lamLB_cons lamw_4 (fun _ _ _ h => lamB_at rfl h) (lamOk0 rfl (zc (by kernel_rfl)) (fun _ _ _ _ _ => rfl)) (fun H0 clo A2 outer2 s2 H2 E2 f2 c2 co2 =>
        have T : Tx K mg w (lmAt1 (lamT lamTab (defScope st_law).names s.heap.objs.size) H0) (lmAt2 lb0 H0) := tx_lm T
        (za (d_never T) (co2.hr.mono (by first | decide | omega)) co2.px (by rfl) T.g_never (z3 (z5 0) (z3 (de_lstF z7) z7))))
        (lamLB_cons lamw_5 (fun _ _ _ h => lamB_at rfl h) (lamOk0 rfl (zc (by kernel_rfl)) (fun _ _ _ _ _ => rfl)) (fun H0 clo A2 outer2 s2 H2 E2 f2 c2 co2 =>
        have T : Tx K mg w (lmAt1 (lamT lamTab (defScope st_law).names s.heap.objs.size) H0) (lmAt2 lb0 H0) := tx_lm T
        (za (d_shows T) (co2.hr.mono (by first | decide | omega)) co2.px (by rfl) T.g_shows (z3 (z5 0) (z3 (de_lstF z7) (z3 (de_lstF z7) z7)))))
        (lamLB_cons lamw_6 (fun _ _ _ h => lamB_at rfl h) (lamOk0 rfl (zc (by kernel_rfl)) (fun _ _ _ _ _ => rfl)) (fun H0 clo A2 outer2 s2 H2 E2 f2 c2 co2 =>
        have T : Tx K mg w (lmAt1 (lamT lamTab (defScope st_law).names s.heap.objs.size) H0) (lmAt2 lb0 H0) := tx_lm T
        (za (d_tour T) (co2.hr.mono (by first | decide | omega)) co2.px (by rfl) T.g_tour (z3 (z5 0) z7)))
        (lamLB_cons lamw_7 (fun _ _ _ h => lamB_at rfl h) (lamOk0 rfl (zc (by kernel_rfl)) (fun _ _ _ _ _ => rfl)) (fun H0 clo A2 outer2 s2 H2 E2 f2 c2 co2 =>
        have T : Tx K mg w (lmAt1 (lamT lamTab (defScope st_law).names s.heap.objs.size) H0) (lmAt2 lb0 H0) := tx_lm T
        (za (d_tour_paper T) (co2.hr.mono (by first | decide | omega)) co2.px (by rfl) T.g_tour_paper (z3 (z5 0) z7)))
        (lamLB_cons lamw_8 (fun _ _ _ h => lamB_at rfl h) (lamOk0 rfl (zc (by kernel_rfl)) (fun _ _ _ _ _ => rfl)) (fun H0 clo A2 outer2 s2 H2 E2 f2 c2 co2 =>
        have T : Tx K mg w (lmAt1 (lamT lamTab (defScope st_law).names s.heap.objs.size) H0) (lmAt2 lb0 H0) := tx_lm T
        (za (d_bound T) (co2.hr.mono (by first | decide | omega)) co2.px (by rfl) T.g_bound (z3 (z5 0) (z3 (de_lstF z7) z7))))
        (lamLB_cons lamw_9 (fun _ _ _ h => lamB_at rfl h) (lamOk0 rfl (zc (by kernel_rfl)) (fun _ _ _ _ _ => rfl)) (fun H0 clo A2 outer2 s2 H2 E2 f2 c2 co2 =>
        have T : Tx K mg w (lmAt1 (lamT lamTab (defScope st_law).names s.heap.objs.size) H0) (lmAt2 lb0 H0) := tx_lm T
        (za (d_misses T) (co2.hr.mono (by first | decide | omega)) co2.px (by rfl) T.g_misses (z3 (z5 0) (z3 (de_lstF (z3 (de_lstF (z3 zg z7)) z7)) z7))))
        (lamLB_cons lamw_10 (fun _ _ _ h => lamB_at rfl h) (lamOk0 rfl (zc (by kernel_rfl)) (fun _ _ _ _ _ => rfl)) (fun H0 clo A2 outer2 s2 H2 E2 f2 c2 co2 =>
        have T : Tx K mg w (lmAt1 (lamT lamTab (defScope st_law).names s.heap.objs.size) H0) (lmAt2 lb0 H0) := tx_lm T
        (za (d_checks T) (co2.hr.mono (by first | decide | omega)) co2.px (by rfl) T.g_checks (z3 (z5 0) z7)))
        (lamLB_cons lamw_11 (fun _ _ _ h => lamB_at rfl h) (lamOk0 rfl (zc (by kernel_rfl)) (fun _ _ _ _ _ => rfl)) (fun H0 clo A2 outer2 s2 H2 E2 f2 c2 co2 =>
        have T : Tx K mg w (lmAt1 (lamT lamTab (defScope st_law).names s.heap.objs.size) H0) (lmAt2 lb0 H0) := tx_lm T
        (za (d_lean T) (co2.hr.mono (by first | decide | omega)) co2.px (by rfl) T.g_lean (z3 (z5 0) (z3 (de_lstF (z3 (de_lstF (z3 zg z7)) z7)) z7))))
        lamLB_nil))))))))))))) (z5 17)) (z3 (de_tup (z3 zg (z3 (z5 14) z7))) z7))))))))) (de_lstF z7) (nomark _)) (zb (ds_ret de_bl)) dss_nil)
      (z8 (zh (i := 11) co.nd rfl (Or.inr rfl) (zf op_addF (z5 4) (de_lstF (z3 (zf op_mulD zg (zf op_addD (zi (z5 3) z9) z9)) (z3 zg z7)))))
      (zb (ds_if (dt_not (dt_val (za (d__law_same T 40) (co.hr.mono (by first | decide | omega)) co.px (by rfl) T.g__law_same (z3 (de_kind (k := 4) (co.at (by first | decide | omega)) (by rfl) T.g__law_kind T.f__law_kind.choose_spec sc__law_kind (fun _ _ _ _ _ _ us hl => match us, hl with | [_], _ => rfl) rfl (Or.inl rfl) (fun cdv => gives__law_kind (lm := lamT lamTab (defScope st_law).names s.heap.objs.size) (lb := lb0) (k := 0) T (co.hr.mono (by first | decide | omega)) cdv) (TB _ (show (("law", none) : He.Defn) ∈ tf from by simp [tf, tq])) rfl (tab_mem (show ((("law", none), "law") : He.Defn × Str) ∈ tq from by simp [tq])) (tab_uniq T.tu (show ((("law", none), "law") : He.Defn × Str) ∈ tq from by simp [tq])) (LamX.lamS_by (by kernel_rfl)) rfl (fun _ _ _ _ _ => rfl) (fun A2 outer2 s2 H2 E2 f2 c2 co2 => (za (d_plain_run T) (co2.hr.mono (by first | decide | omega)) co2.px (by rfl) T.g_plain_run (z3 (z5 3) (z3 (z5 11) z7))))) (z3 (de_tup (z3 zg (z3 (de_callB cd_len (by rfl) T.z_len (by decide +kernel) (z3 (z5 4) z7)) z7))) z7))))) (zb (ds_ret de_bl)) dss_nil)))))))))))))))
      (zb (ds_ret de_bl)))))
end
def fa : List He.Fa := [.glo "_law_start", .glo "_law_drawn", .glo "_law_deed", .glo "_law_plain", .glo "_law_beat", .glo "_law_beats", .glo "_law_at", .glo "is_word", .glo "is_row", .glo "need_plain", .glo "need_beats", .glo "number_of", .glo "deeds_of", .glo "plain_run", .glo "_law_same", .glo "_law_far", .glo "_law_odd", .glo "least", .glo "need_few", .glo "parted", .glo "rules_of", .glo "trees", .glo "made_program", .glo "made_circuit", .glo "need_pattern", .glo "never", .glo "shows", .glo "tour", .glo "tour_paper", .glo "need_numbers", .glo "bound", .glo "need_tests", .glo "misses", .glo "checks", .glo "lean", .glo "_law_more_doors", .glo "alike", .glo "_law_kind", .glo "law", .glo "BeatError", .glo "BadMachine", .glo "NotSound", .glo "BadBeat", .glo "BadPlain", .glo "TooLarge", .glo "BadMatch", .glo "BadMarks", .glo "BadTree", .glo "BadProgram", .glo "Stuck", .glo "BadCircuit", .glo "BadPattern", .glo "BadPairs", .glo "BadNumbers", .glo "BadRows", .glo "BadText", .glo "Cover", .glo "Maker", .glo "Grower", .glo "Flow", .free "isinstance", .free "ValueError", .free "range", .free "len", .free "min", .free "tuple", .free "list", .free "enumerate", .free "int", .free "str", .free "bool", .exc "NotSound", .exc "TooLarge", .exc "BadMatch", .exc "BadMarks", .exc "BadTree", .exc "Stuck", .exc "BadPattern", .exc "BadPairs", .exc "BadNumbers", .cls "Cover", .mkr "Cover", .cls "Maker", .mkr "Maker", .cls "Grower", .mkr "Grower", .cls "Flow", .mkr "Flow"]
def fn : List He.DefD := [⟨("_law_start", none), "_law_start", "_law_start", defArgs st__law_start, defBody st__law_start, defScope st__law_start, [], []⟩,
  ⟨("_law_drawn", none), "_law_drawn", "_law_drawn", defArgs st__law_drawn, defBody st__law_drawn, defScope st__law_drawn, [], []⟩,
  ⟨("_law_deed", none), "_law_deed", "_law_deed", defArgs st__law_deed, defBody st__law_deed, defScope st__law_deed, [], []⟩,
  ⟨("_law_plain", none), "_law_plain", "_law_plain", defArgs st__law_plain, defBody st__law_plain, defScope st__law_plain, [], []⟩,
  ⟨("_law_beat", none), "_law_beat", "_law_beat", defArgs st__law_beat, defBody st__law_beat, defScope st__law_beat, [], []⟩,
  ⟨("_law_beats", none), "_law_beats", "_law_beats", defArgs st__law_beats, defBody st__law_beats, defScope st__law_beats, [], []⟩,
  ⟨("_law_at", none), "_law_at", "_law_at", defArgs st__law_at, defBody st__law_at, defScope st__law_at, [], []⟩,
  ⟨("is_word", none), "is_word", "is_word", defArgs st_is_word, defBody st_is_word, defScope st_is_word, [], []⟩,
  ⟨("is_row", none), "is_row", "is_row", defArgs st_is_row, defBody st_is_row, defScope st_is_row, [], []⟩,
  ⟨("need_plain", none), "need_plain", "need_plain", defArgs st_need_plain, defBody st_need_plain, defScope st_need_plain, [], []⟩,
  ⟨("need_beats", none), "need_beats", "need_beats", defArgs st_need_beats, defBody st_need_beats, defScope st_need_beats, [], []⟩,
  ⟨("number_of", none), "number_of", "number_of", defArgs st_number_of, defBody st_number_of, defScope st_number_of, [], []⟩,
  ⟨("deeds_of", none), "deeds_of", "deeds_of", defArgs st_deeds_of, defBody st_deeds_of, defScope st_deeds_of, [], []⟩,
  ⟨("plain_run", none), "plain_run", "plain_run", defArgs st_plain_run, defBody st_plain_run, defScope st_plain_run, [], []⟩,
  ⟨("_law_same", none), "_law_same", "_law_same", defArgs st__law_same, defBody st__law_same, defScope st__law_same, [], []⟩,
  ⟨("_law_far", none), "_law_far", "_law_far", defArgs st__law_far, defBody st__law_far, defScope st__law_far, [], []⟩,
  ⟨("_law_odd", none), "_law_odd", "_law_odd", defArgs st__law_odd, defBody st__law_odd, defScope st__law_odd, [], []⟩,
  ⟨("least", none), "least", "least", defArgs st_least, defBody st_least, defScope st_least, [], []⟩,
  ⟨("need_few", none), "need_few", "need_few", defArgs st_need_few, defBody st_need_few, defScope st_need_few, [], []⟩,
  ⟨("parted", none), "parted", "parted", defArgs st_parted, defBody st_parted, defScope st_parted, [], []⟩,
  ⟨("rules_of", none), "rules_of", "rules_of", defArgs st_rules_of, defBody st_rules_of, defScope st_rules_of, [], []⟩,
  ⟨("trees", none), "trees", "trees", defArgs st_trees, defBody st_trees, defScope st_trees, [], []⟩,
  ⟨("made_program", none), "made_program", "made_program", defArgs st_made_program, defBody st_made_program, defScope st_made_program, [], []⟩,
  ⟨("made_circuit", none), "made_circuit", "made_circuit", defArgs st_made_circuit, defBody st_made_circuit, defScope st_made_circuit, [], []⟩,
  ⟨("need_pattern", none), "need_pattern", "need_pattern", defArgs st_need_pattern, defBody st_need_pattern, defScope st_need_pattern, [], []⟩,
  ⟨("never", none), "never", "never", defArgs st_never, defBody st_never, defScope st_never, [], []⟩,
  ⟨("shows", none), "shows", "shows", defArgs st_shows, defBody st_shows, defScope st_shows, [], []⟩,
  ⟨("tour", none), "tour", "tour", defArgs st_tour, defBody st_tour, defScope st_tour, [], []⟩,
  ⟨("tour_paper", none), "tour_paper", "tour_paper", defArgs st_tour_paper, defBody st_tour_paper, defScope st_tour_paper, [], []⟩,
  ⟨("need_numbers", none), "need_numbers", "need_numbers", defArgs st_need_numbers, defBody st_need_numbers, defScope st_need_numbers, [], []⟩,
  ⟨("bound", none), "bound", "bound", defArgs st_bound, defBody st_bound, defScope st_bound, [], []⟩,
  ⟨("need_tests", none), "need_tests", "need_tests", defArgs st_need_tests, defBody st_need_tests, defScope st_need_tests, [], []⟩,
  ⟨("misses", none), "misses", "misses", defArgs st_misses, defBody st_misses, defScope st_misses, [], []⟩,
  ⟨("checks", none), "checks", "checks", defArgs st_checks, defBody st_checks, defScope st_checks, [], []⟩,
  ⟨("lean", none), "lean", "lean", defArgs st_lean, defBody st_lean, defScope st_lean, [], []⟩,
  ⟨("_law_more_doors", none), "_law_more_doors", "_law_more_doors", defArgs st__law_more_doors, defBody st__law_more_doors, defScope st__law_more_doors, [], []⟩,
  ⟨("alike", none), "alike", "alike", defArgs st_alike, defBody st_alike, defScope st_alike, [], []⟩,
  ⟨("_law_kind", none), "_law_kind", "_law_kind", defArgs st__law_kind, defBody st__law_kind, defScope st__law_kind, [], []⟩,
  ⟨("law", none), "law", "law", defArgs st_law, defBody st_law, defScope st_law, [], []⟩,
  ⟨("BadMachine", some "__init__"), "__init__", "BadMachine.__init__", defArgs st_x_BadMachine, defBody st_x_BadMachine, defScope st_x_BadMachine, [], []⟩,
  ⟨("BadBeat", some "__init__"), "__init__", "BadBeat.__init__", defArgs st_x_BadBeat, defBody st_x_BadBeat, defScope st_x_BadBeat, [], []⟩,
  ⟨("BadPlain", some "__init__"), "__init__", "BadPlain.__init__", defArgs st_x_BadPlain, defBody st_x_BadPlain, defScope st_x_BadPlain, [], []⟩,
  ⟨("BadProgram", some "__init__"), "__init__", "BadProgram.__init__", defArgs st_x_BadProgram, defBody st_x_BadProgram, defScope st_x_BadProgram, [], []⟩,
  ⟨("BadCircuit", some "__init__"), "__init__", "BadCircuit.__init__", defArgs st_x_BadCircuit, defBody st_x_BadCircuit, defScope st_x_BadCircuit, [], []⟩,
  ⟨("BadRows", some "__init__"), "__init__", "BadRows.__init__", defArgs st_x_BadRows, defBody st_x_BadRows, defScope st_x_BadRows, [], []⟩,
  ⟨("BadText", some "__init__"), "__init__", "BadText.__init__", defArgs st_x_BadText, defBody st_x_BadText, defScope st_x_BadText, [], []⟩]
def exl (K : PySem.W.Frag) : List Bool := [globB K "MOST_INS" (.int 4),
  globB K "MOST_OUTS" (.int 3),
  globB K "COUNTS" (.tup [(.int 1), (.int 2), (.int 4), (.int 8), (.int 16)]),
  globB K "MOST_PLAIN" (.int 200),
  globB K "FEW" (.int 24),
  globB K "MOST_PATTERN" (.int 5),
  globB K "NEVER" (.int 1000000),
  globB K "SMALL" (.int 6),
  globB K "MOST_TESTS" (.int 200),
  exBB K (He.ga K "BeatError"),
  oexB K (He.ga K "BadMachine"),
  initB K (He.ga K "BadMachine") ["why", "spot"],
  oexB K (He.ga K "BadBeat"),
  initB K (He.ga K "BadBeat") ["number"],
  oexB K (He.ga K "BadPlain"),
  initB K (He.ga K "BadPlain") ["number"],
  oexB K (He.ga K "BadProgram"),
  initB K (He.ga K "BadProgram") ["number"],
  oexB K (He.ga K "BadCircuit"),
  initB K (He.ga K "BadCircuit") ["number"],
  oexB K (He.ga K "BadRows"),
  initB K (He.ga K "BadRows") ["number"],
  oexB K (He.ga K "BadText"),
  initB K (He.ga K "BadText") ["row"],
  tabU K tq,
  exAllB K (cl0 K) 17]
def exB (K : PySem.W.Frag) : Bool := (exl K).all id
def ts : List (Str × List Str) := []
theorem tx_of {K : PySem.W.Frag} {h : Heap} {mg : Str → Option Value} {w : World} (X : K.In h) (G : h.Ns mainGlobals mg) (c : He.SaysD fa fn K) (e : exB K = true) (ht : ∀ (i : Nat) (t : Str × List Str), ts[i]? = some t → He.dicW K (He.ga K t.1) = some (He.keysIn w.params t.2)) : Tx K mg w lm0 lb0 := by
  have exs : ∀ (i : Nat) {b : Bool}, (exl K)[i]? = some b → b = true := fun i b hb => List.all_eq_true.mp e b (List.mem_of_getElem? hb)
  refine {
    g__law_start := He.glo_ok X G (c.fact 0 rfl)
    g__law_drawn := He.glo_ok X G (c.fact 1 rfl)
    g__law_deed := He.glo_ok X G (c.fact 2 rfl)
    g__law_plain := He.glo_ok X G (c.fact 3 rfl)
    g__law_beat := He.glo_ok X G (c.fact 4 rfl)
    g__law_beats := He.glo_ok X G (c.fact 5 rfl)
    g__law_at := He.glo_ok X G (c.fact 6 rfl)
    g_is_word := He.glo_ok X G (c.fact 7 rfl)
    g_is_row := He.glo_ok X G (c.fact 8 rfl)
    g_need_plain := He.glo_ok X G (c.fact 9 rfl)
    g_need_beats := He.glo_ok X G (c.fact 10 rfl)
    g_number_of := He.glo_ok X G (c.fact 11 rfl)
    g_deeds_of := He.glo_ok X G (c.fact 12 rfl)
    g_plain_run := He.glo_ok X G (c.fact 13 rfl)
    g__law_same := He.glo_ok X G (c.fact 14 rfl)
    g__law_far := He.glo_ok X G (c.fact 15 rfl)
    g__law_odd := He.glo_ok X G (c.fact 16 rfl)
    g_least := He.glo_ok X G (c.fact 17 rfl)
    g_need_few := He.glo_ok X G (c.fact 18 rfl)
    g_parted := He.glo_ok X G (c.fact 19 rfl)
    g_rules_of := He.glo_ok X G (c.fact 20 rfl)
    g_trees := He.glo_ok X G (c.fact 21 rfl)
    g_made_program := He.glo_ok X G (c.fact 22 rfl)
    g_made_circuit := He.glo_ok X G (c.fact 23 rfl)
    g_need_pattern := He.glo_ok X G (c.fact 24 rfl)
    g_never := He.glo_ok X G (c.fact 25 rfl)
    g_shows := He.glo_ok X G (c.fact 26 rfl)
    g_tour := He.glo_ok X G (c.fact 27 rfl)
    g_tour_paper := He.glo_ok X G (c.fact 28 rfl)
    g_need_numbers := He.glo_ok X G (c.fact 29 rfl)
    g_bound := He.glo_ok X G (c.fact 30 rfl)
    g_need_tests := He.glo_ok X G (c.fact 31 rfl)
    g_misses := He.glo_ok X G (c.fact 32 rfl)
    g_checks := He.glo_ok X G (c.fact 33 rfl)
    g_lean := He.glo_ok X G (c.fact 34 rfl)
    g__law_more_doors := He.glo_ok X G (c.fact 35 rfl)
    g_alike := He.glo_ok X G (c.fact 36 rfl)
    g__law_kind := He.glo_ok X G (c.fact 37 rfl)
    g_law := He.glo_ok X G (c.fact 38 rfl)
    g_BeatError := He.glo_ok X G (c.fact 39 rfl)
    g_BadMachine := He.glo_ok X G (c.fact 40 rfl)
    g_NotSound := He.glo_ok X G (c.fact 41 rfl)
    g_BadBeat := He.glo_ok X G (c.fact 42 rfl)
    g_BadPlain := He.glo_ok X G (c.fact 43 rfl)
    g_TooLarge := He.glo_ok X G (c.fact 44 rfl)
    g_BadMatch := He.glo_ok X G (c.fact 45 rfl)
    g_BadMarks := He.glo_ok X G (c.fact 46 rfl)
    g_BadTree := He.glo_ok X G (c.fact 47 rfl)
    g_BadProgram := He.glo_ok X G (c.fact 48 rfl)
    g_Stuck := He.glo_ok X G (c.fact 49 rfl)
    g_BadCircuit := He.glo_ok X G (c.fact 50 rfl)
    g_BadPattern := He.glo_ok X G (c.fact 51 rfl)
    g_BadPairs := He.glo_ok X G (c.fact 52 rfl)
    g_BadNumbers := He.glo_ok X G (c.fact 53 rfl)
    g_BadRows := He.glo_ok X G (c.fact 54 rfl)
    g_BadText := He.glo_ok X G (c.fact 55 rfl)
    g_Cover := He.glo_ok X G (c.fact 56 rfl)
    g_Maker := He.glo_ok X G (c.fact 57 rfl)
    g_Grower := He.glo_ok X G (c.fact 58 rfl)
    g_Flow := He.glo_ok X G (c.fact 59 rfl)
    z_isinstance := He.free_ok X G (c.fact 60 rfl)
    z_ValueError := He.free_ok X G (c.fact 61 rfl)
    z_range := He.free_ok X G (c.fact 62 rfl)
    z_len := He.free_ok X G (c.fact 63 rfl)
    z_min := He.free_ok X G (c.fact 64 rfl)
    z_tuple := He.free_ok X G (c.fact 65 rfl)
    z_list := He.free_ok X G (c.fact 66 rfl)
    z_enumerate := He.free_ok X G (c.fact 67 rfl)
    z_int := He.free_ok X G (c.fact 68 rfl)
    z_str := He.free_ok X G (c.fact 69 rfl)
    z_bool := He.free_ok X G (c.fact 70 rfl)
    k_MOST_INS := globB_ok X G (exs 0 rfl)
    k_MOST_OUTS := globB_ok X G (exs 1 rfl)
    k_COUNTS := globB_ok X G (exs 2 rfl)
    k_MOST_PLAIN := globB_ok X G (exs 3 rfl)
    k_FEW := globB_ok X G (exs 4 rfl)
    k_MOST_PATTERN := globB_ok X G (exs 5 rfl)
    k_NEVER := globB_ok X G (exs 6 rfl)
    k_SMALL := globB_ok X G (exs 7 rfl)
    k_MOST_TESTS := globB_ok X G (exs 8 rfl)
    xb := exBB_ok (exs 9 rfl)
    xo_BadMachine := oexB_ok (exs 10 rfl)
    xi_BadMachine := initB_ok (exs 11 rfl)
    xt_NotSound := exT_ok (c.fact 71 rfl)
    xo_BadBeat := oexB_ok (exs 12 rfl)
    xi_BadBeat := initB_ok (exs 13 rfl)
    xo_BadPlain := oexB_ok (exs 14 rfl)
    xi_BadPlain := initB_ok (exs 15 rfl)
    xt_TooLarge := exT_ok (c.fact 72 rfl)
    xt_BadMatch := exT_ok (c.fact 73 rfl)
    xt_BadMarks := exT_ok (c.fact 74 rfl)
    xt_BadTree := exT_ok (c.fact 75 rfl)
    xo_BadProgram := oexB_ok (exs 16 rfl)
    xi_BadProgram := initB_ok (exs 17 rfl)
    xt_Stuck := exT_ok (c.fact 76 rfl)
    xo_BadCircuit := oexB_ok (exs 18 rfl)
    xi_BadCircuit := initB_ok (exs 19 rfl)
    xt_BadPattern := exT_ok (c.fact 77 rfl)
    xt_BadPairs := exT_ok (c.fact 78 rfl)
    xt_BadNumbers := exT_ok (c.fact 79 rfl)
    xo_BadRows := oexB_ok (exs 20 rfl)
    xi_BadRows := initB_ok (exs 21 rfl)
    xo_BadText := oexB_ok (exs 22 rfl)
    xi_BadText := initB_ok (exs 23 rfl)
    c_Cover := He.cls_ok (c.fact 80 rfl)
    mk_Cover := He.mkr_ok (c.fact 81 rfl)
    c_Maker := He.cls_ok (c.fact 82 rfl)
    mk_Maker := He.mkr_ok (c.fact 83 rfl)
    c_Grower := He.cls_ok (c.fact 84 rfl)
    mk_Grower := He.mkr_ok (c.fact 85 rfl)
    c_Flow := He.cls_ok (c.fact 86 rfl)
    mk_Flow := He.mkr_ok (c.fact 87 rfl)
    tu := exs 24 rfl
    ea := exAllB_ok (exs 25 rfl)
    f__law_start := c.def_ 0 rfl
    f__law_drawn := c.def_ 1 rfl
    f__law_deed := c.def_ 2 rfl
    f__law_plain := c.def_ 3 rfl
    f__law_beat := c.def_ 4 rfl
    f__law_beats := c.def_ 5 rfl
    f__law_at := c.def_ 6 rfl
    f_is_word := c.def_ 7 rfl
    f_is_row := c.def_ 8 rfl
    f_need_plain := c.def_ 9 rfl
    f_need_beats := c.def_ 10 rfl
    f_number_of := c.def_ 11 rfl
    f_deeds_of := c.def_ 12 rfl
    f_plain_run := c.def_ 13 rfl
    f__law_same := c.def_ 14 rfl
    f__law_far := c.def_ 15 rfl
    f__law_odd := c.def_ 16 rfl
    f_least := c.def_ 17 rfl
    f_need_few := c.def_ 18 rfl
    f_parted := c.def_ 19 rfl
    f_rules_of := c.def_ 20 rfl
    f_trees := c.def_ 21 rfl
    f_made_program := c.def_ 22 rfl
    f_made_circuit := c.def_ 23 rfl
    f_need_pattern := c.def_ 24 rfl
    f_never := c.def_ 25 rfl
    f_shows := c.def_ 26 rfl
    f_tour := c.def_ 27 rfl
    f_tour_paper := c.def_ 28 rfl
    f_need_numbers := c.def_ 29 rfl
    f_bound := c.def_ 30 rfl
    f_need_tests := c.def_ 31 rfl
    f_misses := c.def_ 32 rfl
    f_checks := c.def_ 33 rfl
    f_lean := c.def_ 34 rfl
    f__law_more_doors := c.def_ 35 rfl
    f_alike := c.def_ 36 rfl
    f__law_kind := c.def_ 37 rfl
    f_law := c.def_ 38 rfl
    f_x_BadMachine := c.def_ 39 rfl
    f_x_BadBeat := c.def_ 40 rfl
    f_x_BadPlain := c.def_ 41 rfl
    f_x_BadProgram := c.def_ 42 rfl
    f_x_BadCircuit := c.def_ 43 rfl
    f_x_BadRows := c.def_ 44 rfl
    f_x_BadText := c.def_ 45 rfl }
abbrev R : PySem.W.OpenRow := PySem.W.OpenLaw.row PySem.Challenge.rw_tablebeat_k05_plain_machines
abbrev hk : PySem.W.Hook := hookV 5 fa fn tf ts exB
def ob (s : PySem.W.SharedT) : AlV := obV 5 fa fn tf ts exB (HandSHeadRun.getT s)
def loose0 : List Str := ["__name__", "BeatError", "BadMachine", "NotSound", "BadBeat", "BadPlain", "TooLarge", "BadMatch", "BadMarks", "BadTree", "BadProgram", "Stuck"]
def loose1 : List Str := ["BadCircuit", "BadPattern", "BadPairs", "BadNumbers", "BadRows", "BadText", "MOST_INS", "MOST_OUTS", "COUNTS", "is_word", "all_beats", "number_of"]
def loose2 : List Str := ["need_beats", "fits", "MOST_PLAIN", "is_row", "need_plain", "need_few", "plain_run", "deeds_of", "FEW", "met_from", "finer", "parts_of"]
def loose3 : List Str := ["least_of", "least", "row_between", "parted", "alike", "all_marks", "wider", "marks_of", "Cover", "fewest_of", "rules_in", "rules_of"]
def loose4 : List Str := ["Maker", "text_of", "bits_for", "made_circuit", "MOST_PATTERN", "need_pattern", "grown", "pair_behind", "never", "is_pair", "shows", "Grower"]
def loose5 : List Str := ["tree_of", "trees", "size_of", "steps_of", "made_program", "NEVER", "Flow", "flow_of", "arms_of", "walk_of", "rows_of", "tour"]
def loose6 : List Str := ["tour_paper", "need_numbers", "bound", "SMALL", "MOST_TESTS", "need_tests", "changed", "is_gone", "all_wrong", "road_to", "finding", "is_found"]
def loose7 : List Str := ["misses", "checks", "lean", "_law_start", "_law_drawn", "_law_same", "_law_kind", "_law_far", "_law_plain", "_law_deed", "_law_beats", "_law_beat"]
def loose8 : List Str := ["_law_at", "_law_odd", "_law_more_doors"]
def loose : List Str := loose0 ++ loose1 ++ loose2 ++ loose3 ++ loose4 ++ loose5 ++ loose6 ++ loose7 ++ loose8
end Lw

namespace Lw
open PySem PySem.Spec PyProof.Rows L2 DL
def isSt (o : DO) : Prop := ∃ (ns : List Int) (i mx lf : Int), o = .lst [.frl (ns.map .int), .int i, .int mx, .int lf] ∧ 0 ≤ i
def At (l : Nat) (S : Sto) : Prop := ∃ o, S[l]? = some o ∧ isSt o
def Dr (l : Nat) (S S' : Sto) : Prop := ∃ o, S' = S.set l o ∧ isSt o ∧ l < S.length
theorem At.lt {l : Nat} {S : Sto} (h : At l S) : l < S.length := by
  obtain ⟨o, e, _⟩ := h
  exact (List.getElem?_eq_some_iff.mp e).1
theorem At.self {l : Nat} {S : Sto} (h : At l S) : Dr l S S := by
  have hl := h.lt
  obtain ⟨o, e, hs⟩ := h
  refine ⟨o, ?_, hs, hl⟩
  obtain ⟨_, e2⟩ := List.getElem?_eq_some_iff.mp e
  rw [← e2, List.set_getElem_self]
theorem Dr.at {l : Nat} {S S' : Sto} (h : Dr l S S') : At l S' := by
  obtain ⟨o, rfl, hs, hl⟩ := h
  exact ⟨o, List.getElem?_set_self hl, hs⟩
theorem Dr.len {l : Nat} {S S' : Sto} (h : Dr l S S') : S'.length = S.length := by
  obtain ⟨o, rfl, _, _⟩ := h
  simp
theorem Dr.lt {l : Nat} {S S' : Sto} (h : Dr l S S') : l < S.length := h.choose_spec.2.2
theorem Dr.trans {l : Nat} {A B C : Sto} (a : Dr l A B) (b : Dr l B C) : Dr l A C := by
  obtain ⟨o, rfl, _, hl⟩ := a
  obtain ⟨o', rfl, hs, _⟩ := b
  exact ⟨o', by rw [List.set_set], hs, hl⟩
theorem Dr.get {l k : Nat} {S S' : Sto} (h : Dr l S S') (n : k ≠ l) : S'[k]? = S[k]? := by
  obtain ⟨o, rfl, _, _⟩ := h
  rw [List.getElem?_set_ne (Ne.symm n)]
theorem At.app {l : Nat} {S : Sto} (T : Sto) (h : At l S) : At l (S ++ T) := by
  have hl := h.lt
  obtain ⟨o, e, hs⟩ := h
  exact ⟨o, by rw [List.getElem?_append_left hl]; exact e, hs⟩
theorem Dr.app {l : Nat} {S T S' : Sto} (h : Dr l (S ++ T) S') (hl : l < S.length) : ∃ S1, S' = S1 ++ T ∧ Dr l S S1 := by
  obtain ⟨o, rfl, hs, _⟩ := h
  exact ⟨S.set l o, by rw [List.set_append_left _ _ hl], o, rfl, hs, hl⟩
theorem st_blw {n : Nat} {o : DO} (h : isSt o) : o.blw n = true := by
  obtain ⟨ns, i, mx, lf, rfl, _⟩ := h
  show (D.blw n (.frl (ns.map .int)) && _) = true
  have : D.blw n (.frl (ns.map .int)) = true := gd_blw (n := 1) _ (fun d hd => by obtain ⟨k, _, rfl⟩ := List.mem_map.mp hd; exact gd_int)
  rw [this]; rfl
def Gn (l : Nat) (S : Sto) (r : Res D) (P : D → Prop) : Prop := ∃ d S', r = .ok d S' ∧ Dr l S S' ∧ P d
theorem Gn.w {l : Nat} {S : Sto} {r : Res D} {P : D → Prop} {Q : D → Sto → Prop} {X : Exc → Sto → Prop} (h : Gn l S r P) (hq : ∀ d S', Dr l S S' → P d → Q d S') : Wp r Q X := by
  obtain ⟨d, S', rfl, hd, hp⟩ := h
  exact hq d S' hd hp
theorem Gn.wT {l : Nat} {S T : Sto} {r : Res D} {P : D → Prop} {Q : D → Sto → Prop} {X : Exc → Sto → Prop} (h : Gn l (S ++ T) r P) (hl : l < S.length) (hq : ∀ d S', Dr l S S' → P d → Q d (S' ++ T)) : Wp r Q X := by
  obtain ⟨d, S', rfl, hd, hp⟩ := h
  obtain ⟨S1, rfl, hd1⟩ := hd.app hl
  exact hq d S1 hd1 hp
theorem Gn.mono {l : Nat} {S : Sto} {r : Res D} {P P' : D → Prop} (h : Gn l S r P) (hp : ∀ d, P d → P' d) : Gn l S r P' := by
  obtain ⟨d, S', e, hd, h⟩ := h
  exact ⟨d, S', e, hd, hp d h⟩
theorem fn_gn {n l : Nat} {b : Sl → Sto → Res Fl} {ds : List D} {S : Sto} {P : D → Prop} (h : Wp (b (startD n ds) S) (kFn fun d S' => ∃ S1 T, S' = S1 ++ T ∧ Dr l S S1 ∧ d.blw S.length = true ∧ P d) NX) : Gn l S (cutF (dFn n b) ds S) P := by
  have h' : Wp (dFn n b ds S) (fun d S' => ∃ S1 T, S' = S1 ++ T ∧ Dr l S S1 ∧ d.blw S.length = true ∧ P d) NX := by rw [w_dFn]; exact h
  obtain ⟨d, S', e, S1, T, rfl, hd, hb, hp⟩ := Wp.ok h'
  refine ⟨d, S1, ?_, hd, hp⟩
  obtain ⟨o, rfl, hs, hl⟩ := hd
  unfold cutF
  rw [e, cut_set hb (st_blw hs)]
theorem Dr.out {l : Nat} {S S' : Sto} {d : D} {P : D → Prop} (h : Dr l S S') (hb : d.blw S.length = true) (hp : P d) : ∃ S1 T, S' = S1 ++ T ∧ Dr l S S1 ∧ d.blw S.length = true ∧ P d := ⟨S', [], by simp, h, hb, hp⟩
theorem pow18 {S : Sto} {Q : D → Sto → Prop} {X : Exc → Sto → Prop} : Wp (powD (.int 10) (.int 18) S) Q X = Q (.int 1000000000000000000) S := by
  have e : powD (.int 10) (.int 18) S = .ok (.int 1000000000000000000) S := by
    simp only [powD]
    rw [if_pos (powOk_of (by decide))]
    rfl
  rw [e]; rfl
theorem draw {l : Nat} {S : Sto} {many : Int} (h : At l S) (hm : 0 < many := by omega) (hl : many < 10 ^ 40 := by omega) :
    Gn l S (F__law_drawn [.ref l, .int many] S) (fun d => ∃ v, d = .int v ∧ 0 ≤ v ∧ v < many) := by
  have hlt := h.lt
  have hlg := fd_ok hm hl
  obtain ⟨o, hS, ns, i, mx, lf, rfl, hi⟩ := h
  have x1 : ixN 4 1 = some 1 := rfl
  have x2 : ixN 4 2 = some 2 := rfl
  have x3 : ixN 4 3 = some 3 := rfl
  have fin : ∀ (i' mx' lf' v : Int), 0 ≤ i' → 0 ≤ v → v < many → ∃ S1 T, (S.set l (.lst [.frl (ns.map .int), .int i', .int mx', .int lf'])) = S1 ++ T ∧ Dr l S S1 ∧ (D.int v).blw S.length = true ∧ ∃ w, D.int v = .int w ∧ 0 ≤ w ∧ w < many := fun i' mx' lf' v h h0 h1 =>
    Dr.out (P := fun d => ∃ w, d = .int w ∧ 0 ≤ w ∧ w < many) ⟨_, rfl, ⟨ns, i', mx', lf', rfl, h⟩, hlt⟩ rfl ⟨v, rfl, h0, h1⟩
  unfold F__law_drawn
  refine fn_gn ?_
  unfold b__law_drawn
  simp only [z6, z4, wq_a, wq_b, wq_c, wq_d, wq_e, wq_f, wq_g, Int.reduceToNat, Int.reduceLE, Int.reduceLT, Int.reduceNeg, startD, List.replicate, Nat.reduceAdd, Nat.reduceSub, Nat.reduceEqDiff, if_true, if_false, Int.reduceEq, Int.reduceAdd, Int.reduceSub, Int.reduceMul, eq_self, w_ixL2 hS]
  by_cases h1 : (0 : Int) < lf
  · simp only [h1, z6, z4, wq_a, wq_b, wq_c, wq_d, wq_e, wq_f, wq_g, Int.reduceToNat, Int.reduceLE, Int.reduceLT, Int.reduceNeg, startD, List.replicate, Nat.reduceAdd, Nat.reduceSub, Nat.reduceEqDiff, if_true, if_false, Int.reduceEq, Int.reduceAdd, Int.reduceSub, Int.reduceMul, eq_self, w_ixL2 hS, w_modI hm, w_fdivI hlg, w_setL2 hS, x3]
    exact fin i mx _ _ hi (Int.emod_nonneg _ (by omega)) (Int.emod_lt_of_pos _ hm)
  · have hS1 : (S.set l (.lst [.frl (ns.map .int), .int (i + 1), .int mx, .int lf]))[l]? = some (.lst [.frl (ns.map .int), .int (i + 1), .int mx, .int lf]) := set_same hlt
    simp only [h1, z6, z4, wq_a, wq_b, wq_c, wq_d, wq_e, wq_f, wq_g, Int.reduceToNat, Int.reduceLE, Int.reduceLT, Int.reduceNeg, startD, List.replicate, Nat.reduceAdd, Nat.reduceSub, Nat.reduceEqDiff, if_true, if_false, Int.reduceEq, Int.reduceAdd, Int.reduceSub, Int.reduceMul, eq_self, w_ixL2 hS, w_setL2 hS, x1, w_ixL2 hS1, w_lenF, List.length_map]
    by_cases h2 : i + 1 ≤ ((ns.length : Nat) : Int)
    · have h2' : i.toNat < ns.length := by omega
      have ea : atI (ns.map D.int) (i + 1 - 1) = some (.int ns[i.toNat]) := by
        rw [show i + 1 - 1 = i by omega, atI_pos hi]
        simp [h2']
      simp only [h2, z6, z4, wq_a, wq_b, wq_c, wq_d, wq_e, wq_f, wq_g, Int.reduceToNat, Int.reduceLE, Int.reduceLT, Int.reduceNeg, startD, List.replicate, Nat.reduceAdd, Nat.reduceSub, Nat.reduceEqDiff, if_true, if_false, Int.reduceEq, Int.reduceAdd, Int.reduceSub, Int.reduceMul, eq_self, w_ixL2 hS1, ea, pow18]
      generalize ns[i.toNat] = cc
      by_cases h3 : (1000000000000000000 : Int) ≤ cc
      · simp only [h3, z6, z4, wq_a, wq_b, wq_c, wq_d, wq_e, wq_f, wq_g, Int.reduceToNat, Int.reduceLE, Int.reduceLT, Int.reduceNeg, startD, List.replicate, Nat.reduceAdd, Nat.reduceSub, Nat.reduceEqDiff, if_true, if_false, Int.reduceEq, Int.reduceAdd, Int.reduceSub, Int.reduceMul, eq_self, w_fdivI hlg, w_setL2 hS1, x3, w_modI hm, List.set_set]
        exact fin (i + 1) mx _ _ (by omega) (Int.emod_nonneg _ (by omega)) (Int.emod_lt_of_pos _ hm)
      · simp only [h3, z6, z4, wq_a, wq_b, wq_c, wq_d, wq_e, wq_f, wq_g, Int.reduceToNat, Int.reduceLE, Int.reduceLT, Int.reduceNeg, startD, List.replicate, Nat.reduceAdd, Nat.reduceSub, Nat.reduceEqDiff, if_true, if_false, Int.reduceEq, Int.reduceAdd, Int.reduceSub, Int.reduceMul, eq_self, w_setL2 hS1, x3, w_modI hm, List.set_set]
        exact fin (i + 1) mx _ _ (by omega) (Int.emod_nonneg _ (by omega)) (Int.emod_lt_of_pos _ hm)
    · have hS2 : ∀ m, (S.set l (.lst [.frl (ns.map .int), .int (i + 1), .int m, .int lf]))[l]? = some (.lst [.frl (ns.map .int), .int (i + 1), .int m, .int lf]) := fun m => set_same hlt
      simp only [h2, z6, z4, wq_a, wq_b, wq_c, wq_d, wq_e, wq_f, wq_g, Int.reduceToNat, Int.reduceLE, Int.reduceLT, Int.reduceNeg, startD, List.replicate, Nat.reduceAdd, Nat.reduceSub, Nat.reduceEqDiff, if_true, if_false, Int.reduceEq, Int.reduceAdd, Int.reduceSub, Int.reduceMul, eq_self, w_ixL2 hS1, w_mulI (a := mx) (b := 48271) (mul_r (mul_okI (by decide) (by decide))), w_modI (show (0 : Int) < 2147483647 by decide), w_setL2 hS1, x2, List.set_set, w_ixL2 (hS2 _), w_fdivI (fd_ok (b := 7) (by decide) (by decide)), w_modI hm]
      exact fin (i + 1) _ lf _ (by omega) (Int.emod_nonneg _ (by omega)) (Int.emod_lt_of_pos _ hm)
theorem start_ok {ns : List Int} {S : Sto} : ∃ o, Fr__law_start [.frl (ns.map .int)] S = .ok (.ref S.length) (S ++ [o]) ∧ isSt o := by
  have h : Wp (dFn 3 br__law_start [.frl (ns.map .int)] S) (fun d S' => ∃ mx, d = .ref S.length ∧ S' = S ++ [.lst [.frl (ns.map .int), .int 0, .int mx, .int 0]]) NX := by
    rw [w_dFn]
    unfold br__law_start
    simp only [z6, z4, wq_a, wq_b, wq_c, wq_d, wq_e, wq_f, wq_g, Int.reduceToNat, Int.reduceLE, Int.reduceLT, Int.reduceNeg, startD, List.replicate, Nat.reduceAdd, Nat.reduceSub, Nat.reduceEqDiff, if_true, if_false, Int.reduceEq, Int.reduceAdd, Int.reduceSub, Int.reduceMul, eq_self, itemsD]
    refine w_loopP D.int (fun _ sd S' => S' = S ∧ ∃ a v, sd = [some (.frl (ns.map .int)), some (.int v), a]) ns (fun _ _ _ _ _ _ => rfl) ⟨rfl, none, 1, rfl⟩ ?_ ?_
    · rintro sd S' ⟨rfl, a, v, rfl⟩
      simp only [z6, z4, wq_a, wq_b, wq_c, wq_d, wq_e, wq_f, wq_g, Int.reduceToNat, Int.reduceLE, Int.reduceLT, Int.reduceNeg, startD, List.replicate, Nat.reduceAdd, Nat.reduceSub, Nat.reduceEqDiff, if_true, if_false, Int.reduceEq, Int.reduceAdd, Int.reduceSub, Int.reduceMul, eq_self]
      exact ⟨v, trivial, rfl⟩
    · rintro pre c post sd S' e ⟨rfl, a, v, rfl⟩
      simp only [z6, z4, wq_a, wq_b, wq_c, wq_d, wq_e, wq_f, wq_g, Int.reduceToNat, Int.reduceLE, Int.reduceLT, Int.reduceNeg, startD, List.replicate, Nat.reduceAdd, Nat.reduceSub, Nat.reduceEqDiff, if_true, if_false, Int.reduceEq, Int.reduceAdd, Int.reduceSub, Int.reduceMul, eq_self, w_mulI (a := v) (b := 48271) (mul_r (mul_okI (by decide) (by decide))), w_modI (show (0 : Int) < 2147483647 by decide)]
      exact ⟨trivial, _, _, rfl⟩
  obtain ⟨d, S', e, mx, rfl, rfl⟩ := Wp.ok h
  refine ⟨_, ?_, ns, 0, mx, 0, rfl, by decide⟩
  unfold Fr__law_start cutF
  rw [e]
  have hb : D.blws S.length [.frl (ns.map .int), .int 0, .int mx, .int 0] = true := st_blw (o := .lst [.frl (ns.map .int), .int 0, .int mx, .int 0]) ⟨ns, 0, mx, 0, rfl, by decide⟩
  simp only [cutR]
  rw [if_pos (cutOk_app S _), if_neg (by simp [D.blw]), get_last]
  simp only
  rw [if_pos ⟨hb, Nat.le_refl _⟩, List.take_left]
theorem compG {l : Nat} (P : D → D → Prop) {vs : List Nat} {fi : Sl → Sto → Res ItD} {ga : D → Sl → Sto → Res Sl} {ft : Sl → Sto → Res Bool} {fe : Sl → Sto → Res D} {sd : Sl} {S : Sto} {Q : D → Sto → Prop} {X : Exc → Sto → Prop} (hlt : l < S.length)
    (hi : Wp (fi sd S) (fun it S1 => Dr l S S1 ∧ it.items.length ≤ sizeLine ∧ (∀ S', it.chk S' = true) ∧
      (∀ x ∈ it.items, ∀ S' T, Dr l S S' → Wp (ga x (wipeD sd vs) (S' ++ T)) (fun sd1 S2 => S2 = S' ++ T ∧ Wp (ft sd1 (S' ++ T)) (fun b S3 => b = true ∧ S3 = S' ++ T ∧ Wp (fe sd1 (S' ++ T)) (fun y S4 => ∃ S5, S4 = S5 ++ T ∧ Dr l S' S5 ∧ P x y) NX) NX) NX) ∧
      (∀ x ∈ it.items, ∀ y, P x y → y.blw S.length = true) ∧ ∀ ys S', Dr l S S' → All2 P it.items ys → Q (.frl ys) S') NX) : Wp (dFrz (dComp vs fi ga ft fe) sd S) Q X := by
  obtain ⟨it, S1, e1, d1, hl, hc, hx, hb, hq⟩ := ok_of_wp hi
  have key : ∀ (ys : List D) (acc : List D) (S2 : Sto), (∀ a ∈ ys, a ∈ it.items) → acc.length + ys.length ≤ sizeLine → Dr l S S2 → ∃ zs S3, compD it.chk ga ft fe S1.length (wipeD sd vs) ys (S2 ++ [.lst acc]) = .ok () (S3 ++ [.lst (acc ++ zs)]) ∧ Dr l S S3 ∧ All2 P ys zs := by
    intro ys
    induction ys with
    | nil =>
      intro acc S2 _ _ hd
      refine ⟨[], S2, ?_, hd, .nil⟩
      show (if it.chk (S2 ++ [.lst acc]) = true then Res.ok () (S2 ++ [.lst acc]) else .stuck) = _
      rw [if_pos (hc _)]
      simp
    | cons a ys ih =>
      intro acc S2 hm hlen hd
      have hlen' : acc.length + 1 + ys.length ≤ sizeLine := by simp at hlen; omega
      obtain ⟨sd1, S3, g1, rfl, h2⟩ := ok_of_wp (hx a (hm a (by simp)) S2 [.lst acc] hd)
      obtain ⟨b, S4, g2, rfl, rfl, h3⟩ := ok_of_wp h2
      obtain ⟨y, S5, g3, S6, rfl, d6, hy⟩ := ok_of_wp h3
      have hS : S6.length = S1.length := by rw [(hd.trans d6).len, d1.len]
      obtain ⟨zs, S7, g4, d7, f7⟩ := ih (acc ++ [y]) S6 (fun z hz => hm z (by simp [hz])) (by simp; omega) (hd.trans d6)
      refine ⟨y :: zs, S7, ?_, d7, .cons hy f7⟩
      unfold compD
      rw [if_pos (hc _), g1]
      simp only [Res.noExc, Res.bind, g2, if_true, g3]
      rw [← hS, get_last]
      simp only
      rw [if_pos (by omega), set_last, hS, g4]
      simp
  obtain ⟨zs, S3, g, d3, f3⟩ := key it.items [] S1 (fun _ h => h) (by simpa using hl) d1
  have hS : S3.length = S1.length := by rw [d3.len, d1.len]
  have e : dFrz (dComp vs fi ga ft fe) sd S = .ok (.frl zs) S3 := by
    unfold dFrz dComp
    rw [e1]
    show ((compD it.chk ga ft fe S1.length (wipeD sd vs) it.items (S1 ++ [.lst []])).bind fun _ S2 => Res.ok (D.ref S1.length) S2).bind _ = _
    rw [g]
    show frzD S (.ref S1.length) (S3 ++ [.lst ([] ++ zs)]) = _
    unfold frzD
    rw [← hS, List.nil_append]
    simp only [get_last]
    have hbz : D.blws S.length zs = true := by
      refine blws_all fun d hd => ?_
      obtain ⟨a, ha, hp⟩ := f3.mem d hd
      exact hb a ha d hp
    obtain ⟨o, rfl, hs, _⟩ := d3
    have hL : (S.set l o).length = S.length := by simp
    rw [hL]
    rw [if_pos ⟨Nat.le_refl _, cutOk_set S _ l o (st_blw hs), hbz⟩]
    congr 1
    rw [List.take_append_of_le_length (by simp)]
    exact List.take_of_length_le (by simp)
  rw [e]
  exact hq zs S3 d3 f3

def cb (b : Bool) : Nat := if b then 49 else 48
def wB (l : List Bool) : List Nat := l.map cb
theorem wB_len (l : List Bool) : (wB l).length = l.length := by simp [wB]
theorem cb_lt (b : Bool) : cb b < 1114112 := by cases b <;> decide
theorem wB_ok (l : List Bool) : Wok (wB l) := fun c hc => by
  obtain ⟨b, _, rfl⟩ := List.mem_map.mp hc
  exact cb_lt b
theorem cb_mem (b : Bool) : cb b ∈ [48, 49] := by cases b <;> decide
theorem cb_inj {a b : Bool} (h : cb a = cb b) : a = b := by cases a <;> cases b <;> first | rfl | cases h
theorem wB_inj {a b : List Bool} (h : wB a = wB b) : a = b := List.map_inj_right (fun _ _ => cb_inj) |>.mp h
theorem strsD_W : ∀ ws : List (List Nat), strsD (ws.map fun w => D.str (W w)) = some (ws.map W)
  | [] => rfl
  | w :: ws => by
    rw [List.map_cons]
    show (strsD _).map _ = _
    rw [strsD_W ws]; rfl
theorem join_W : ∀ ws : List (List Nat), Str.join (W []) (ws.map W) = W ws.flatten
  | [] => rfl
  | [w] => by simp [Str.join]
  | w :: v :: ws => by
    have ih := join_W (v :: ws)
    show W w ++ W [] ++ Str.join (W []) ((v :: ws).map W) = _
    rw [ih, W_app, W_app]; simp
theorem sum_W (ws : List (List Nat)) : ((ws.map W).map (·.length)).sum = ws.flatten.length := by
  induction ws with
  | nil => rfl
  | cons w ws ih => simp only [List.map_cons, List.sum_cons, List.flatten_cons, List.length_append, ih, W_len]
theorem join_ok {ws : List (List Nat)} {S : Sto} (h : ws.flatten.length ≤ 16777216) : joinD (.str (W [])) [.frl (ws.map fun w => .str (W w))] S = .ok (.str (W ws.flatten)) S := by
  simp only [joinD, seqD, strsD_W]
  have hz : ((ws.map W).map (·.length)).sum + (ws.map W).length * (W []).length ≤ 16777216 := by rw [sum_W, W_len]; simpa using h
  rw [if_pos hz]
  have hj : Txt.join (W []) (ws.map W) = Str.join (W []) (ws.map W) := StrLaws.glued_eq_join _ _
  rw [hj, join_W]
theorem flat_one (cs : List Nat) : (cs.map fun c => [c]).flatten = cs := by
  induction cs with
  | nil => rfl
  | cons c cs ih => simp [ih]
theorem join_signs {cs : List Nat} {S : Sto} (h : cs.length ≤ 16777216) : joinD (.str (W [])) [.frl (cs.map fun c => .str (W [c]))] S = .ok (.str (W cs)) S := by
  have e : (cs.map fun c => D.str (W [c])) = (cs.map fun c => [c]).map fun w => D.str (W w) := by simp
  rw [e, join_ok (by rw [flat_one]; exact h), flat_one]
theorem ix_W {l : List Nat} {i : Int} {S : Sto} {c : Nat} (hl : l.length ≤ sizeLine) (h : atI l i = some c) : ixD (.str (W l)) (.int i) S = .ok (.str (W [c])) S := by
  simp only [ixD]
  rw [if_pos (by rw [W_len]; exact hl), W_cps, h]
  rfl
theorem szn {n : Nat} (h : n ≤ 16777216) : n ≤ sizeLine := by rw [sizeLine_eq]; exact h
theorem at01 {v : Int} (h0 : 0 ≤ v) (h1 : v < 2) : atI [48, 49] v = some (cb (decide (v = 1))) := by
  have : v = 0 ∨ v = 1 := by omega
  rcases this with rfl | rfl <;> rfl
def isWord (w : List Nat) (many : Int) (signs : List Nat) : Bool := decide ((w.length : Int) = many) && w.all fun c => decide (c ∈ signs)
theorem is_word_ok {w signs : List Nat} {many : Int} {S : Sto} (hw : Wok w) (h : w.length ≤ 16777216) : F_is_word [.str (W w), .int many, .str (W signs)] S = .ok (.bl (isWord w many signs)) S := by
  unfold F_is_word
  refine fn_ok rfl ?_
  unfold b_is_word
  simp only [z6, z4, wq_a, wq_b, wq_c, wq_d, wq_e, wq_f, wq_g, Int.reduceToNat, Int.reduceLE, Int.reduceLT, Int.reduceNeg, startD, List.replicate, Nat.reduceAdd, Nat.reduceSub, Nat.reduceEqDiff, if_true, if_false, Int.reduceEq, Int.reduceAdd, Int.reduceSub, Int.reduceMul, eq_self, w_lenS (show (W w).length ≤ sizeLine by rw [W_len]; exact szn h), W_len]
  by_cases e : (w.length : Int) = many
  · simp only [e, z6, z4, wq_a, wq_b, wq_c, wq_d, wq_e, wq_f, wq_g, Int.reduceToNat, Int.reduceLE, Int.reduceLT, Int.reduceNeg, startD, List.replicate, Nat.reduceAdd, Nat.reduceSub, Nat.reduceEqDiff, if_true, if_false, Int.reduceEq, Int.reduceAdd, Int.reduceSub, Int.reduceMul, eq_self]
    have hc : dFrz (dComp [3] (iVal (dVar 0)) (gVar 3) (d2T notInD (dVar 3) (dVar 2)) (dVar 3)) [some (.str (W w)), some (.int many), some (.str (W signs)), none] S = .ok (.frl ((w.filter fun c => !decide (c ∈ signs)).map fun c => .str (W [c]))) S := by
      refine compF w (fun c => .str (W [c])) _ _ ?_ (Nat.le_trans (List.length_filter_le _ _) (szn h)) ?_ ?_
      · simp only [z6, z4, wq_a, wq_b, wq_c, wq_d, wq_e, wq_f, wq_g, Int.reduceToNat, Int.reduceLE, Int.reduceLT, Int.reduceNeg, startD, List.replicate, Nat.reduceAdd, Nat.reduceSub, Nat.reduceEqDiff, if_true, if_false, Int.reduceEq, Int.reduceAdd, Int.reduceSub, Int.reduceMul, eq_self, itemsD, signsD, W_cps]
        exact ⟨trivial, rfl, fun _ _ => rfl⟩
      · intro c _ S' _
        simp only [z6, z4, wq_a, wq_b, wq_c, wq_d, wq_e, wq_f, wq_g, Int.reduceToNat, Int.reduceLE, Int.reduceLT, Int.reduceNeg, startD, List.replicate, Nat.reduceAdd, Nat.reduceSub, Nat.reduceEqDiff, if_true, if_false, Int.reduceEq, Int.reduceAdd, Int.reduceSub, Int.reduceMul, eq_self, wipeD, notInD, has_sign]
        exact ⟨trivial, trivial, trivial, fun _ => ⟨trivial, trivial⟩⟩
      · intro c _ _; rfl
    simp only [hc, z6, z4, wq_a, wq_b, wq_c, wq_d, wq_e, wq_f, wq_g, Int.reduceToNat, Int.reduceLE, Int.reduceLT, Int.reduceNeg, startD, List.replicate, Nat.reduceAdd, Nat.reduceSub, Nat.reduceEqDiff, if_true, if_false, Int.reduceEq, Int.reduceAdd, Int.reduceSub, Int.reduceMul, eq_self]
    rw [w_eqNil (n := 0) fun c hc => gd_W fun x hx => by rw [List.mem_singleton] at hx; rw [hx]; exact hw c hc]
    simp only [z6, z4, wq_a, wq_b, wq_c, wq_d, wq_e, wq_f, wq_g, Int.reduceToNat, Int.reduceLE, Int.reduceLT, Int.reduceNeg, startD, List.replicate, Nat.reduceAdd, Nat.reduceSub, Nat.reduceEqDiff, if_true, if_false, Int.reduceEq, Int.reduceAdd, Int.reduceSub, Int.reduceMul, eq_self]
    refine ⟨?_, zd S⟩
    simp [isWord, e]
  · simp only [e, z6, z4, wq_a, wq_b, wq_c, wq_d, wq_e, wq_f, wq_g, Int.reduceToNat, Int.reduceLE, Int.reduceLT, Int.reduceNeg, startD, List.replicate, Nat.reduceAdd, Nat.reduceSub, Nat.reduceEqDiff, if_true, if_false, Int.reduceEq, Int.reduceAdd, Int.reduceSub, Int.reduceMul, eq_self]
    refine ⟨?_, zd S⟩
    simp [isWord, e]

theorem deed_ok {l : Nat} {S : Sto} {outs : Int} (h : At l S) (h0 : 0 ≤ outs := by omega) (h1 : outs ≤ 1000 := by omega) :
    Gn l S (F__law_deed [.ref l, .int outs] S) (fun d => ∃ w : List Bool, d = .str (W (wB w)) ∧ (w.length : Int) = outs) := by
  unfold F__law_deed
  refine fn_gn ?_
  unfold b__law_deed
  simp only [z6, z4, wq_a, wq_b, wq_c, wq_d, wq_e, wq_f, wq_g, Int.reduceToNat, Int.reduceLE, Int.reduceLT, Int.reduceNeg, startD, List.replicate, Nat.reduceAdd, Nat.reduceSub, Nat.reduceEqDiff, if_true, if_false, Int.reduceEq, Int.reduceAdd, Int.reduceSub, Int.reduceMul, eq_self]
  rw [w_ite (show isTy "str" (.str (Str.ofString "")) S = true from rfl)]
  simp only [z6, z4, wq_a, wq_b, wq_c, wq_d, wq_e, wq_f, wq_g, Int.reduceToNat, Int.reduceLE, Int.reduceLT, Int.reduceNeg, startD, List.replicate, Nat.reduceAdd, Nat.reduceSub, Nat.reduceEqDiff, if_true, if_false, Int.reduceEq, Int.reduceAdd, Int.reduceSub, Int.reduceMul, eq_self]
  refine compG (fun _ y => ∃ b, y = .str (W [cb b])) h.lt ?_
  simp only [z6, z4, wq_a, wq_b, wq_c, wq_d, wq_e, wq_f, wq_g, Int.reduceToNat, Int.reduceLE, Int.reduceLT, Int.reduceNeg, startD, List.replicate, Nat.reduceAdd, Nat.reduceSub, Nat.reduceEqDiff, if_true, if_false, Int.reduceEq, Int.reduceAdd, Int.reduceSub, Int.reduceMul, eq_self]
  rw [w_ite (rng_okI (by omega) (by omega))]
  simp only [z6, z4, wq_a, wq_b, wq_c, wq_d, wq_e, wq_f, wq_g, Int.reduceToNat, Int.reduceLE, Int.reduceLT, Int.reduceNeg, startD, List.replicate, Nat.reduceAdd, Nat.reduceSub, Nat.reduceEqDiff, if_true, if_false, Int.reduceEq, Int.reduceAdd, Int.reduceSub, Int.reduceMul, eq_self]
  refine ⟨h.self, szn (by rw [rangeL_len]; omega), fun _ => rfl, fun x hx S' T hd => ?_, ?_, ?_⟩
  · simp only [z6, z4, wq_a, wq_b, wq_c, wq_d, wq_e, wq_f, wq_g, Int.reduceToNat, Int.reduceLE, Int.reduceLT, Int.reduceNeg, startD, List.replicate, Nat.reduceAdd, Nat.reduceSub, Nat.reduceEqDiff, if_true, if_false, Int.reduceEq, Int.reduceAdd, Int.reduceSub, Int.reduceMul, eq_self, wipeD]
    refine ⟨trivial, trivial, trivial, ?_⟩
    refine (draw (hd.at.app T)).wT hd.at.lt ?_
    rintro _ S2 d2 ⟨v, rfl, v0, v1⟩
    simp only [z6, z4, wq_a, wq_b, wq_c, wq_d, wq_e, wq_f, wq_g, Int.reduceToNat, Int.reduceLE, Int.reduceLT, Int.reduceNeg, startD, List.replicate, Nat.reduceAdd, Nat.reduceSub, Nat.reduceEqDiff, if_true, if_false, Int.reduceEq, Int.reduceAdd, Int.reduceSub, Int.reduceMul, eq_self, W_01]
    rw [ix_W (by decide) (at01 v0 v1)]
    exact ⟨S2, rfl, d2, _, rfl⟩
  · rintro x _ y ⟨b, rfl⟩
    rfl
  · intro ys S' hd f
    obtain ⟨cs, rfl⟩ := f.ex (f := fun b : Bool => D.str (W [cb b])) fun a _ b hb => hb
    have hlen := f.len
    rw [rangeL_len, List.length_map] at hlen
    have e : (cs.map fun b => D.str (W [cb b])) = (wB cs).map fun c => D.str (W [c]) := by simp [wB]
    simp only [z6, z4, wq_a, wq_b, wq_c, wq_d, wq_e, wq_f, wq_g, Int.reduceToNat, Int.reduceLE, Int.reduceLT, Int.reduceNeg, startD, List.replicate, Nat.reduceAdd, Nat.reduceSub, Nat.reduceEqDiff, if_true, if_false, Int.reduceEq, Int.reduceAdd, Int.reduceSub, Int.reduceMul, eq_self, W_empty]
    rw [e, join_signs (by rw [wB_len]; omega)]
    simp only [z6, z4, wq_a, wq_b, wq_c, wq_d, wq_e, wq_f, wq_g, Int.reduceToNat, Int.reduceLE, Int.reduceLT, Int.reduceNeg, startD, List.replicate, Nat.reduceAdd, Nat.reduceSub, Nat.reduceEqDiff, if_true, if_false, Int.reduceEq, Int.reduceAdd, Int.reduceSub, Int.reduceMul, eq_self]
    exact Dr.out (P := fun d => ∃ w : List Bool, d = .str (W (wB w)) ∧ (w.length : Int) = outs) hd rfl ⟨cs, rfl, by omega⟩

theorem beat_ok {l : Nat} {S : Sto} {outs : Int} (h : At l S) (h0 : 0 ≤ outs := by omega) (h1 : outs ≤ 1000 := by omega) :
    Gn l S (F__law_beat [.ref l, .int outs] S) (fun d => ∃ w : List Bool, d = .str (W (wB w)) ∧ (w.length : Int) = outs) := by
  unfold F__law_beat
  refine fn_gn ?_
  unfold b__law_beat
  simp only [z6, z4, wq_a, wq_b, wq_c, wq_d, wq_e, wq_f, wq_g, Int.reduceToNat, Int.reduceLE, Int.reduceLT, Int.reduceNeg, startD, List.replicate, Nat.reduceAdd, Nat.reduceSub, Nat.reduceEqDiff, if_true, if_false, Int.reduceEq, Int.reduceAdd, Int.reduceSub, Int.reduceMul, eq_self]
  rw [w_ite (show isTy "str" (.str (Str.ofString "")) S = true from rfl)]
  simp only [z6, z4, wq_a, wq_b, wq_c, wq_d, wq_e, wq_f, wq_g, Int.reduceToNat, Int.reduceLE, Int.reduceLT, Int.reduceNeg, startD, List.replicate, Nat.reduceAdd, Nat.reduceSub, Nat.reduceEqDiff, if_true, if_false, Int.reduceEq, Int.reduceAdd, Int.reduceSub, Int.reduceMul, eq_self]
  refine compG (fun _ y => ∃ b, y = .str (W [cb b])) h.lt ?_
  simp only [z6, z4, wq_a, wq_b, wq_c, wq_d, wq_e, wq_f, wq_g, Int.reduceToNat, Int.reduceLE, Int.reduceLT, Int.reduceNeg, startD, List.replicate, Nat.reduceAdd, Nat.reduceSub, Nat.reduceEqDiff, if_true, if_false, Int.reduceEq, Int.reduceAdd, Int.reduceSub, Int.reduceMul, eq_self]
  rw [w_ite (rng_okI (by omega) (by omega))]
  simp only [z6, z4, wq_a, wq_b, wq_c, wq_d, wq_e, wq_f, wq_g, Int.reduceToNat, Int.reduceLE, Int.reduceLT, Int.reduceNeg, startD, List.replicate, Nat.reduceAdd, Nat.reduceSub, Nat.reduceEqDiff, if_true, if_false, Int.reduceEq, Int.reduceAdd, Int.reduceSub, Int.reduceMul, eq_self]
  refine ⟨h.self, szn (by rw [rangeL_len]; omega), fun _ => rfl, fun x hx S' T hd => ?_, ?_, ?_⟩
  · simp only [z6, z4, wq_a, wq_b, wq_c, wq_d, wq_e, wq_f, wq_g, Int.reduceToNat, Int.reduceLE, Int.reduceLT, Int.reduceNeg, startD, List.replicate, Nat.reduceAdd, Nat.reduceSub, Nat.reduceEqDiff, if_true, if_false, Int.reduceEq, Int.reduceAdd, Int.reduceSub, Int.reduceMul, eq_self, wipeD]
    refine ⟨trivial, trivial, trivial, ?_⟩
    refine (draw (hd.at.app T)).wT hd.at.lt ?_
    rintro _ S2 d2 ⟨v, rfl, v0, v1⟩
    simp only [z6, z4, wq_a, wq_b, wq_c, wq_d, wq_e, wq_f, wq_g, Int.reduceToNat, Int.reduceLE, Int.reduceLT, Int.reduceNeg, startD, List.replicate, Nat.reduceAdd, Nat.reduceSub, Nat.reduceEqDiff, if_true, if_false, Int.reduceEq, Int.reduceAdd, Int.reduceSub, Int.reduceMul, eq_self, W_01]
    rw [ix_W (by decide) (at01 v0 v1)]
    exact ⟨S2, rfl, d2, _, rfl⟩
  · rintro x _ y ⟨b, rfl⟩
    rfl
  · intro ys S' hd f
    obtain ⟨cs, rfl⟩ := f.ex (f := fun b : Bool => D.str (W [cb b])) fun a _ b hb => hb
    have hlen := f.len
    rw [rangeL_len, List.length_map] at hlen
    have e : (cs.map fun b => D.str (W [cb b])) = (wB cs).map fun c => D.str (W [c]) := by simp [wB]
    simp only [z6, z4, wq_a, wq_b, wq_c, wq_d, wq_e, wq_f, wq_g, Int.reduceToNat, Int.reduceLE, Int.reduceLT, Int.reduceNeg, startD, List.replicate, Nat.reduceAdd, Nat.reduceSub, Nat.reduceEqDiff, if_true, if_false, Int.reduceEq, Int.reduceAdd, Int.reduceSub, Int.reduceMul, eq_self, W_empty]
    rw [e, join_signs (by rw [wB_len]; omega)]
    simp only [z6, z4, wq_a, wq_b, wq_c, wq_d, wq_e, wq_f, wq_g, Int.reduceToNat, Int.reduceLE, Int.reduceLT, Int.reduceNeg, startD, List.replicate, Nat.reduceAdd, Nat.reduceSub, Nat.reduceEqDiff, if_true, if_false, Int.reduceEq, Int.reduceAdd, Int.reduceSub, Int.reduceMul, eq_self]
    exact Dr.out (P := fun d => ∃ w : List Bool, d = .str (W (wB w)) ∧ (w.length : Int) = outs) hd rfl ⟨cs, rfl, by omega⟩

def b01 : List Nat := [48, 49]
theorem isWord_wB {b : List Bool} {n : Int} (h : (b.length : Int) = n) : isWord (wB b) n b01 = true := by
  unfold isWord
  rw [wB_len, decide_eq_true h, Bool.true_and, List.all_eq_true]
  intro c hc
  obtain ⟨x, _, rfl⟩ := List.mem_map.mp hc
  exact decide_eq_true (cb_mem x)
theorem need_beats_ok {ins : Int} {ws : List (List Nat)} {S : Sto} (hw : ∀ w ∈ ws, Wok w ∧ w.length ≤ 16777216) (h : ∀ w ∈ ws, isWord w ins b01 = true) : F_need_beats [.int ins, .frl (ws.map fun w => .str (W w))] S = .ok .non S := by
  unfold F_need_beats
  refine fn_ok rfl ?_
  unfold b_need_beats
  simp only [z6, z4, wq_a, wq_b, wq_c, wq_d, wq_e, wq_f, wq_g, Int.reduceToNat, Int.reduceLE, Int.reduceLT, Int.reduceNeg, startD, List.replicate, Nat.reduceAdd, Nat.reduceSub, Nat.reduceEqDiff, if_true, if_false, Int.reduceEq, Int.reduceAdd, Int.reduceSub, Int.reduceMul, eq_self, itemsD]
  refine w_enumP (fun w => D.str (W w)) (fun _ sd S' => S' = S ∧ ∃ a b, sd = [some (.int ins), some (.frl (ws.map fun w => .str (W w))), a, b]) ws (fun _ _ _ _ _ _ => rfl) ⟨rfl, none, none, rfl⟩ ?_ ?_
  · rintro sd S' ⟨rfl, a, b, rfl⟩
    exact ⟨rfl, zd _⟩
  · rintro pre w post sd S' e ⟨rfl, a, b, rfl⟩
    have hm : w ∈ ws := by rw [e]; simp
    simp only [z6, z4, wq_a, wq_b, wq_c, wq_d, wq_e, wq_f, wq_g, Int.reduceToNat, Int.reduceLE, Int.reduceLT, Int.reduceNeg, startD, List.replicate, Nat.reduceAdd, Nat.reduceSub, Nat.reduceEqDiff, if_true, if_false, Int.reduceEq, Int.reduceAdd, Int.reduceSub, Int.reduceMul, eq_self, gTupD, W_01]
    rw [is_word_ok (hw w hm).1 (hw w hm).2]
    have e1 : isWord w ins [48, 49] = true := h w hm
    simp only [z6, z4, wq_a, wq_b, wq_c, wq_d, wq_e, wq_f, wq_g, Int.reduceToNat, Int.reduceLE, Int.reduceLT, Int.reduceNeg, startD, List.replicate, Nat.reduceAdd, Nat.reduceSub, Nat.reduceEqDiff, if_true, if_false, Int.reduceEq, Int.reduceAdd, Int.reduceSub, Int.reduceMul, eq_self, e1]
    exact ⟨trivial, _, _, rfl⟩
theorem need_beats_bad {ins : Int} {pre post : List (List Nat)} {w : List Nat} {S : Sto} (hw : ∀ v ∈ pre ++ w :: post, Wok v ∧ v.length ≤ 16777216) (h : ∀ v ∈ pre, isWord v ins b01 = true) (hb : isWord w ins b01 = false) :
    F_need_beats [.int ins, .frl ((pre ++ w :: post).map fun w => .str (W w))] S = .exc ⟨3, some [("number", .int (pre.length : Nat))]⟩ S := by
  unfold F_need_beats
  refine fn_exc rfl ?_
  unfold b_need_beats
  simp only [z6, z4, wq_a, wq_b, wq_c, wq_d, wq_e, wq_f, wq_g, Int.reduceToNat, Int.reduceLE, Int.reduceLT, Int.reduceNeg, startD, List.replicate, Nat.reduceAdd, Nat.reduceSub, Nat.reduceEqDiff, if_true, if_false, Int.reduceEq, Int.reduceAdd, Int.reduceSub, Int.reduceMul, eq_self, itemsD]
  refine w_enumP (fun w => D.str (W w)) (fun p sd S' => S' = S ∧ p.length ≤ pre.length ∧ ∃ a b, sd = [some (.int ins), some (.frl ((pre ++ w :: post).map fun w => .str (W w))), a, b]) (pre ++ w :: post) (fun _ _ _ _ _ _ => rfl) ⟨rfl, by simp, none, none, rfl⟩ ?_ ?_
  · rintro sd S' ⟨rfl, hl, _⟩
    simp at hl
    omega
  · rintro p v q sd S' e ⟨rfl, hl, a, b, rfl⟩
    have hm : v ∈ pre ++ w :: post := by rw [e]; simp
    simp only [z6, z4, wq_a, wq_b, wq_c, wq_d, wq_e, wq_f, wq_g, Int.reduceToNat, Int.reduceLE, Int.reduceLT, Int.reduceNeg, startD, List.replicate, Nat.reduceAdd, Nat.reduceSub, Nat.reduceEqDiff, if_true, if_false, Int.reduceEq, Int.reduceAdd, Int.reduceSub, Int.reduceMul, eq_self, gTupD, W_01]
    rw [is_word_ok (hw v hm).1 (hw v hm).2]
    have hv : (pre ++ w :: post)[p.length]? = some v := by rw [e]; simp
    by_cases hlt : p.length < pre.length
    · have hm2 : v ∈ pre := by
        rw [List.getElem?_append_left hlt] at hv
        exact List.mem_of_getElem? hv
      have e1 : isWord v ins [48, 49] = true := h v hm2
      simp only [z6, z4, wq_a, wq_b, wq_c, wq_d, wq_e, wq_f, wq_g, Int.reduceToNat, Int.reduceLE, Int.reduceLT, Int.reduceNeg, startD, List.replicate, Nat.reduceAdd, Nat.reduceSub, Nat.reduceEqDiff, if_true, if_false, Int.reduceEq, Int.reduceAdd, Int.reduceSub, Int.reduceMul, eq_self, e1]
      exact ⟨trivial, by simp; omega, _, _, rfl⟩
    · have hp : p.length = pre.length := by omega
      rw [hp, List.getElem?_append_right (Nat.le_refl _)] at hv
      simp at hv
      subst hv
      have e1 : isWord w ins [48, 49] = false := hb
      simp only [z6, z4, wq_a, wq_b, wq_c, wq_d, wq_e, wq_f, wq_g, Int.reduceToNat, Int.reduceLE, Int.reduceLT, Int.reduceNeg, startD, List.replicate, Nat.reduceAdd, Nat.reduceSub, Nat.reduceEqDiff, if_true, if_false, Int.reduceEq, Int.reduceAdd, Int.reduceSub, Int.reduceMul, eq_self, e1, hp]
      exact ⟨trivial, zd _⟩
def allB : Nat → List (List Bool)
  | 0 => [[]]
  | n + 1 => (allB n).map (false :: ·) ++ (allB n).map (true :: ·)
theorem allB_len : ∀ (n : Nat) (b : List Bool), b ∈ allB n → b.length = n
  | 0, b, h => by simp [allB] at h; simp [h]
  | n + 1, b, h => by
    simp only [allB, List.mem_append, List.mem_map] at h
    rcases h with ⟨a, ha, rfl⟩ | ⟨a, ha, rfl⟩ <;> simp [allB_len n a ha]
theorem allB_many : ∀ n : Nat, (allB n).length = 2 ^ n
  | 0 => rfl
  | n + 1 => by simp only [allB, List.length_append, List.length_map, allB_many n]; omega
def sW (b : List Bool) : D := .str (W (wB b))

abbrev En : Type := List Bool × Nat
def enD (e : En) : D := .tup [.str (W (wB e.1)), .int ((e.2 : Nat) : Int)]
def rowD (r : List En) : D := .tup (r.map enD)
def plD (ins outs : Nat) (rows : List (List En)) : D := .tup [.int ((ins : Nat) : Int), .int ((outs : Nat) : Int), .tup (rows.map rowD)]
structure PM (ins outs : Nat) (rows : List (List En)) : Prop where
  i1 : 1 ≤ ins
  i4 : ins ≤ 4
  o1 : 1 ≤ outs
  o3 : outs ≤ 3
  n1 : 1 ≤ rows.length
  n200 : rows.length ≤ 200
  len : ∀ r ∈ rows, r.length = 2 ^ ins
  deed : ∀ r ∈ rows, ∀ e ∈ r, e.1.length = outs
  nxt : ∀ r ∈ rows, ∀ e ∈ r, e.2 < rows.length
theorem enD_gd (e : En) : GD 1 (enD e) := gd_tup fun d hd => by
  have : d = .str (W (wB e.1)) ∨ d = .int ((e.2 : Nat) : Int) := by simpa using hd
  rcases this with rfl | rfl
  · exact gd_W (wB_ok _)
  · exact gd_int
theorem rowD_gd (r : List En) : GD 2 (rowD r) := gd_tup (gd_map fun e _ => enD_gd e)
theorem plD_gd {ins outs : Nat} {rows : List (List En)} : GD 4 (plD ins outs rows) := gd_tup fun d hd => by
  have : d = .int ((ins : Nat) : Int) ∨ d = .int ((outs : Nat) : Int) ∨ d = .tup (rows.map rowD) := by simpa using hd
  rcases this with rfl | rfl | rfl
  · exact gd_int
  · exact gd_int
  · exact gd_tup (gd_map fun r _ => rowD_gd r)
theorem pow_le {ins : Nat} (h : ins ≤ 4) : 2 ^ ins ≤ 16 := by
  have : ins = 0 ∨ ins = 1 ∨ ins = 2 ∨ ins = 3 ∨ ins = 4 := by omega
  rcases this with rfl | rfl | rfl | rfl | rfl <;> decide
theorem at_counts {ins : Nat} (h : ins ≤ 4) : atI [D.int 1, .int 2, .int 4, .int 8, .int 16] ((ins : Nat) : Int) = some (.int ((2 ^ ins : Nat) : Int)) := by
  have : ins = 0 ∨ ins = 1 ∨ ins = 2 ∨ ins = 3 ∨ ins = 4 := by omega
  rcases this with rfl | rfl | rfl | rfl | rfl <;> rfl
theorem get_mid {A T : Sto} {o : DO} {n : Nat} (h : A.length = n) : (A ++ o :: T)[n]? = some o := by
  subst h; simp
theorem set_mid {A T : Sto} {o o' : DO} {n : Nat} (h : A.length = n) : (A ++ o :: T).set n o' = A ++ o' :: T := by
  subst h
  rw [List.set_append_right _ _ (Nat.le_refl _)]
  simp
theorem w_tupL {l : Nat} {xs : List D} {S : Sto} {Q : D → Sto → Prop} {X : Exc → Sto → Prop} (h : S[l]? = some (.lst xs)) : Wp (tupleD [.ref l] S) Q X = Q (.tup xs) S := by
  simp only [tupleD, seqD, lsD, h]
  rfl
theorem isTy_lst {l : Nat} {xs : List D} {S : Sto} (h : S[l]? = some (.lst xs)) : isTy "list" (.ref l) S = true := by
  simp only [isTy, h]
  rfl
theorem w_min2 {a b : Int} {S : Sto} {Q : D → Sto → Prop} {X : Exc → Sto → Prop} : Wp (min2D [.int a, .int b] S) Q X = Q (.int (if b < a then b else a)) S := rfl
def PL (most wires : Int) (d : D) : Prop := ∃ ins outs rows, d = plD ins outs rows ∧ PM ins outs rows ∧ ((rows.length : Nat) : Int) ≤ most ∧ ((ins : Nat) : Int) ≤ wires
theorem few_ok {l : Nat} {S : Sto} {outs : Int} {sd : Sl} {fi : Sl → Sto → Res ItD} {Q : D → Sto → Prop} {X : Exc → Sto → Prop} (v : Nat) (fe : Sl → Sto → Res D) (hlt : l < S.length)
    (hi : Wp (fi sd S) (fun it S1 => Dr l S S1 ∧ (1 ≤ it.items.length ∧ it.items.length ≤ 3) ∧ (∀ S', it.chk S' = true)) NX)
    (hx : ∀ x S' T, Dr l S S' → Wp (fe ((wipeD sd [v]).set v (some x)) (S' ++ T)) (fun y S4 => ∃ S5, S4 = S5 ++ T ∧ Dr l S' S5 ∧ ∃ w : List Bool, y = .str (W (wB w)) ∧ (w.length : Int) = outs) NX)
    (hq : ∀ (ws : List (List Bool)) S', Dr l S S' → 1 ≤ ws.length → ws.length ≤ 3 → (∀ w ∈ ws, (w.length : Int) = outs) → Q (.frl (ws.map sW)) S') : Wp (dFrz (dComp [v] fi (gVar v) tYesD fe) sd S) Q X := by
  refine compG (fun _ y => ∃ w : List Bool, y = .str (W (wB w)) ∧ (w.length : Int) = outs) hlt (Wp.mono hi (fun it S1 ⟨d1, hl, hc⟩ => ?_) fun _ _ z => z)
  refine ⟨d1, szn (by omega), hc, fun x _ S' T hd => ?_, ?_, fun ys S' hd f => ?_⟩
  · simp only [z6, z4, wq_a, wq_b, wq_c, wq_d, wq_e, wq_f, wq_g, Int.reduceToNat, Int.reduceLE, Int.reduceLT, Int.reduceNeg, startD, List.replicate, Nat.reduceAdd, Nat.reduceSub, Nat.reduceEqDiff, if_true, if_false, Int.reduceEq, Int.reduceAdd, Int.reduceSub, Int.reduceMul, eq_self]
    exact ⟨trivial, trivial, trivial, hx x S' T hd⟩
  · rintro x _ y ⟨u, rfl, _⟩
    rfl
  · obtain ⟨us, rfl⟩ := f.ex (f := sW) fun a _ b hb => ⟨hb.choose, hb.choose_spec.1⟩
    have hlen := f.len
    rw [List.length_map] at hlen
    refine hq us S' hd (by omega) (by omega) fun u hu => ?_
    obtain ⟨a, _, u', e, h0⟩ := f.mem (sW u) (List.mem_map.mpr ⟨u, hu, rfl⟩)
    have : u = u' := by
      unfold sW at e
      injection e with e
      exact wB_inj (W_inj.mp e)
    subst this
    exact h0
theorem plain_ok {l : Nat} {S : Sto} {most wires : Int} (h : At l S) (hm : 1 ≤ most := by omega) (hm2 : most ≤ 200 := by omega) (hw : 1 ≤ wires := by omega) (hw4 : wires ≤ 4 := by omega) : Gn l S (F__law_plain [.ref l, .int most, .int wires] S) (PL most wires) := by
  unfold F__law_plain
  refine fn_gn ?_
  unfold b__law_plain
  simp only [z6, z4, wq_a, wq_b, wq_c, wq_d, wq_e, wq_f, wq_g, Int.reduceToNat, Int.reduceLE, Int.reduceLT, Int.reduceNeg, startD, List.replicate, Nat.reduceAdd, Nat.reduceSub, Nat.reduceEqDiff, if_true, if_false, Int.reduceEq, Int.reduceAdd, Int.reduceSub, Int.reduceMul, eq_self]
  refine (draw h (many := wires)).w ?_
  rintro _ S1 d1 ⟨a, rfl, a0, a1⟩
  simp only [z6, z4, wq_a, wq_b, wq_c, wq_d, wq_e, wq_f, wq_g, Int.reduceToNat, Int.reduceLE, Int.reduceLT, Int.reduceNeg, startD, List.replicate, Nat.reduceAdd, Nat.reduceSub, Nat.reduceEqDiff, if_true, if_false, Int.reduceEq, Int.reduceAdd, Int.reduceSub, Int.reduceMul, eq_self]
  refine (draw d1.at).w ?_
  rintro _ S2 d2 ⟨b, rfl, b0, b1⟩
  simp only [z6, z4, wq_a, wq_b, wq_c, wq_d, wq_e, wq_f, wq_g, Int.reduceToNat, Int.reduceLE, Int.reduceLT, Int.reduceNeg, startD, List.replicate, Nat.reduceAdd, Nat.reduceSub, Nat.reduceEqDiff, if_true, if_false, Int.reduceEq, Int.reduceAdd, Int.reduceSub, Int.reduceMul, eq_self]
  refine (draw d2.at (many := most)).w ?_
  rintro _ S3 d3 ⟨c, rfl, c0, c1⟩
  obtain ⟨ins, hins⟩ : ∃ ins : Nat, 1 + a = ((ins : Nat) : Int) := ⟨(1 + a).toNat, by omega⟩
  obtain ⟨outs, houts⟩ : ∃ outs : Nat, 1 + b = ((outs : Nat) : Int) := ⟨(1 + b).toNat, by omega⟩
  obtain ⟨many, hmany⟩ : ∃ many : Nat, 1 + c = ((many : Nat) : Int) := ⟨(1 + c).toNat, by omega⟩
  simp only [z6, z4, wq_a, wq_b, wq_c, wq_d, wq_e, wq_f, wq_g, Int.reduceToNat, Int.reduceLE, Int.reduceLT, Int.reduceNeg, startD, List.replicate, Nat.reduceAdd, Nat.reduceSub, Nat.reduceEqDiff, if_true, if_false, Int.reduceEq, Int.reduceAdd, Int.reduceSub, Int.reduceMul, eq_self, hins, houts, hmany]
  refine few_ok (l := l) (outs := ((outs : Nat) : Int)) 11 _ d3.at.lt ?_ ?_ ?_
  · simp only [z6, z4, wq_a, wq_b, wq_c, wq_d, wq_e, wq_f, wq_g, Int.reduceToNat, Int.reduceLE, Int.reduceLT, Int.reduceNeg, startD, List.replicate, Nat.reduceAdd, Nat.reduceSub, Nat.reduceEqDiff, if_true, if_false, Int.reduceEq, Int.reduceAdd, Int.reduceSub, Int.reduceMul, eq_self]
    refine (draw d3.at).w ?_
    rintro _ S5 d5 ⟨t, rfl, t0, t1⟩
    simp only [z6, z4, wq_a, wq_b, wq_c, wq_d, wq_e, wq_f, wq_g, Int.reduceToNat, Int.reduceLE, Int.reduceLT, Int.reduceNeg, startD, List.replicate, Nat.reduceAdd, Nat.reduceSub, Nat.reduceEqDiff, if_true, if_false, Int.reduceEq, Int.reduceAdd, Int.reduceSub, Int.reduceMul, eq_self]
    rw [w_ite (rng_okI (by omega) (by omega))]
    simp only [z6, z4, wq_a, wq_b, wq_c, wq_d, wq_e, wq_f, wq_g, Int.reduceToNat, Int.reduceLE, Int.reduceLT, Int.reduceNeg, startD, List.replicate, Nat.reduceAdd, Nat.reduceSub, Nat.reduceEqDiff, if_true, if_false, Int.reduceEq, Int.reduceAdd, Int.reduceSub, Int.reduceMul, eq_self]
    exact ⟨d5, by rw [rangeL_len]; omega, fun _ => rfl⟩
  · intro x S' T hd
    simp only [z6, z4, wq_a, wq_b, wq_c, wq_d, wq_e, wq_f, wq_g, Int.reduceToNat, Int.reduceLE, Int.reduceLT, Int.reduceNeg, startD, List.replicate, Nat.reduceAdd, Nat.reduceSub, Nat.reduceEqDiff, if_true, if_false, Int.reduceEq, Int.reduceAdd, Int.reduceSub, Int.reduceMul, eq_self, wipeD]
    refine (deed_ok (hd.at.app T) (outs := ((outs : Nat) : Int))).wT hd.at.lt ?_
    rintro _ S6 d6 ⟨u, rfl, hu⟩
    exact ⟨S6, rfl, d6, u, rfl, hu⟩
  intro few S4 d4 f1 f3 fd
  simp only [z6, z4, wq_a, wq_b, wq_c, wq_d, wq_e, wq_f, wq_g, Int.reduceToNat, Int.reduceLE, Int.reduceLT, Int.reduceNeg, startD, List.replicate, Nat.reduceAdd, Nat.reduceSub, Nat.reduceEqDiff, if_true, if_false, Int.reduceEq, Int.reduceAdd, Int.reduceSub, Int.reduceMul, eq_self]
  refine (draw d4.at).w ?_
  rintro _ S5 d5 ⟨near, rfl, n0, n1⟩
  have dA := (((d1.trans d2).trans d3).trans d4).trans d5
  simp only [z6, z4, wq_a, wq_b, wq_c, wq_d, wq_e, wq_f, wq_g, Int.reduceToNat, Int.reduceLE, Int.reduceLT, Int.reduceNeg, startD, List.replicate, Nat.reduceAdd, Nat.reduceSub, Nat.reduceEqDiff, if_true, if_false, Int.reduceEq, Int.reduceAdd, Int.reduceSub, Int.reduceMul, eq_self]
  rw [w_ite (rng_okI (by omega) (by omega))]
  have hlenA : S5.length = S.length := dA.len
  simp only [z6, z4, wq_a, wq_b, wq_c, wq_d, wq_e, wq_f, wq_g, Int.reduceToNat, Int.reduceLE, Int.reduceLT, Int.reduceNeg, startD, List.replicate, Nat.reduceAdd, Nat.reduceSub, Nat.reduceEqDiff, if_true, if_false, Int.reduceEq, Int.reduceAdd, Int.reduceSub, Int.reduceMul, eq_self, Int.toNat_natCast]
  have i4 : ins ≤ 4 := by omega
  have p16 := pow_le i4
  refine w_rangeP (fun i sd S' => ∃ (SA T : Sto) (rs : List (List En)) (a9 a10 a11 a12 a13 : Option D), S' = SA ++ .lst (rs.map rowD) :: T ∧ Dr l S SA ∧ rs.length = i ∧ (∀ r ∈ rs, r.length = 2 ^ ins ∧ ∀ e ∈ r, e.1.length = outs ∧ e.2 < many) ∧ sd = [some (.ref l), some (.int most), some (.int wires), some (.int ((ins : Nat) : Int)), some (.int ((outs : Nat) : Int)), some (.int ((many : Nat) : Int)), some (.frl (few.map sW)), some (.int near), some (.ref S.length), a9, a10, a11, a12, a13]) 0 many (fun _ _ _ _ _ => rfl) ⟨S5, [], [], _, _, _, _, _, rfl, dA, rfl, (fun _ h => by cases h), by rw [hlenA]⟩ ?_ ?_
  · rintro sd S' ⟨SA, T, rs, a9, a10, a11, a12, a13, rfl, hd, hl, hg, rfl⟩
    simp only [z6, z4, wq_a, wq_b, wq_c, wq_d, wq_e, wq_f, wq_g, Int.reduceToNat, Int.reduceLE, Int.reduceLT, Int.reduceNeg, startD, List.replicate, Nat.reduceAdd, Nat.reduceSub, Nat.reduceEqDiff, if_true, if_false, Int.reduceEq, Int.reduceAdd, Int.reduceSub, Int.reduceMul, eq_self]
    rw [w_tupL (get_mid hd.len)]
    simp only [z6, z4, wq_a, wq_b, wq_c, wq_d, wq_e, wq_f, wq_g, Int.reduceToNat, Int.reduceLE, Int.reduceLT, Int.reduceNeg, startD, List.replicate, Nat.reduceAdd, Nat.reduceSub, Nat.reduceEqDiff, if_true, if_false, Int.reduceEq, Int.reduceAdd, Int.reduceSub, Int.reduceMul, eq_self]
    have hp : PM ins outs rs := ⟨by omega, i4, by omega, by omega, by omega, by omega, fun r hr => (hg r hr).1, fun r hr e he => ((hg r hr).2 e he).1, fun r hr e he => by rw [hl]; exact ((hg r hr).2 e he).2⟩
    exact ⟨SA, _, rfl, hd, gd_blw _ (plD_gd (ins := ins) (outs := outs) (rows := rs)), ins, outs, rs, rfl, hp, by omega, by omega⟩
  · rintro i sd S' hi ⟨SA, T, rs, a9, a10, a11, a12, a13, rfl, hd, hl, hg, rfl⟩
    simp only [z6, z4, wq_a, wq_b, wq_c, wq_d, wq_e, wq_f, wq_g, Int.reduceToNat, Int.reduceLE, Int.reduceLT, Int.reduceNeg, startD, List.replicate, Nat.reduceAdd, Nat.reduceSub, Nat.reduceEqDiff, if_true, if_false, Int.reduceEq, Int.reduceAdd, Int.reduceSub, Int.reduceMul, eq_self, at_counts i4]
    rw [w_ite (rng_okI (Int.le_trans (by decide) (Int.natCast_nonneg _)) (Int.le_trans (Int.ofNat_le.mpr p16) (by decide)))]
    simp only [z6, z4, wq_a, wq_b, wq_c, wq_d, wq_e, wq_f, wq_g, Int.reduceToNat, Int.reduceLE, Int.reduceLT, Int.reduceNeg, startD, List.replicate, Nat.reduceAdd, Nat.reduceSub, Nat.reduceEqDiff, if_true, if_false, Int.reduceEq, Int.reduceAdd, Int.reduceSub, Int.reduceMul, eq_self, Int.toNat_natCast]
    have eL : (SA ++ DO.lst (rs.map rowD) :: T).length = S.length + 1 + T.length := by rw [List.length_append, hd.len, List.length_cons]; omega
    rw [eL]
    refine w_rangeP (fun j sd S' => ∃ (SB : Sto) (r : List En) (a11 a12 a13 : Option D), S' = (SB ++ .lst (rs.map rowD) :: T) ++ [.lst (r.map enD)] ∧ Dr l S SB ∧ r.length = j ∧ (∀ e ∈ r, e.1.length = outs ∧ e.2 < many) ∧ sd = [some (.ref l), some (.int most), some (.int wires), some (.int ((ins : Nat) : Int)), some (.int ((outs : Nat) : Int)), some (.int ((many : Nat) : Int)), some (.frl (few.map sW)), some (.int near), some (.ref S.length), some (.int (0 + ((i : Nat) : Int))), some (.ref (S.length + 1 + T.length)), a11, a12, a13]) 0 (2 ^ ins) (fun _ _ _ _ _ => rfl) ⟨SA, [], _, _, _, rfl, hd, rfl, (fun _ h => by cases h), rfl⟩ ?_ ?_
    · rintro sd S' ⟨SB, r, b11, b12, b13, rfl, hdB, hlr, hgr, rfl⟩
      have hX : ((SB ++ DO.lst (rs.map rowD) :: T) ++ [.lst (r.map enD)])[S.length]? = some (.lst (rs.map rowD)) := by
        rw [List.append_assoc]
        exact get_mid hdB.len
      have eB : (SB ++ DO.lst (rs.map rowD) :: T).length = S.length + 1 + T.length := by rw [List.length_append, hdB.len, List.length_cons]; omega
      have hY : ((SB ++ DO.lst (rs.map rowD) :: T) ++ [.lst (r.map enD)])[S.length + 1 + T.length]? = some (.lst (r.map enD)) := by
        rw [← eB]; exact get_last
      simp only [z6, z4, wq_a, wq_b, wq_c, wq_d, wq_e, wq_f, wq_g, Int.reduceToNat, Int.reduceLE, Int.reduceLT, Int.reduceNeg, startD, List.replicate, Nat.reduceAdd, Nat.reduceSub, Nat.reduceEqDiff, if_true, if_false, Int.reduceEq, Int.reduceAdd, Int.reduceSub, Int.reduceMul, eq_self]
      rw [w_ite (isTy_lst hX)]
      simp only [z6, z4, wq_a, wq_b, wq_c, wq_d, wq_e, wq_f, wq_g, Int.reduceToNat, Int.reduceLE, Int.reduceLT, Int.reduceNeg, startD, List.replicate, Nat.reduceAdd, Nat.reduceSub, Nat.reduceEqDiff, if_true, if_false, Int.reduceEq, Int.reduceAdd, Int.reduceSub, Int.reduceMul, eq_self]
      rw [w_tupL hY]
      simp only [z6, z4, wq_a, wq_b, wq_c, wq_d, wq_e, wq_f, wq_g, Int.reduceToNat, Int.reduceLE, Int.reduceLT, Int.reduceNeg, startD, List.replicate, Nat.reduceAdd, Nat.reduceSub, Nat.reduceEqDiff, if_true, if_false, Int.reduceEq, Int.reduceAdd, Int.reduceSub, Int.reduceMul, eq_self]
      rw [w_appL hX (by rw [List.length_map, sizeLine_eq]; omega), List.append_assoc, List.cons_append, set_mid hdB.len]
      refine ⟨SB, T ++ [.lst (r.map enD)], rs ++ [r], _, _, _, _, _, by rw [List.map_append]; rfl, hdB, by simp [hl], fun x hx => ?_, rfl⟩
      rcases List.mem_append.mp hx with hx | hx
      · exact hg x hx
      · rw [List.mem_singleton] at hx
        subst hx
        exact ⟨hlr, hgr⟩
    · rintro j sd S' hj ⟨SB, r, b11, b12, b13, rfl, hdB, hlr, hgr, rfl⟩
      have reX : ∀ (A : Sto) (r : List En), (A ++ DO.lst (rs.map rowD) :: T) ++ [.lst (r.map enD)] = A ++ (DO.lst (rs.map rowD) :: (T ++ [.lst (r.map enD)])) := fun A r => by rw [List.append_assoc]; rfl
      rw [reX]
      simp only [z6, z4, wq_a, wq_b, wq_c, wq_d, wq_e, wq_f, wq_g, Int.reduceToNat, Int.reduceLE, Int.reduceLT, Int.reduceNeg, startD, List.replicate, Nat.reduceAdd, Nat.reduceSub, Nat.reduceEqDiff, if_true, if_false, Int.reduceEq, Int.reduceAdd, Int.reduceSub, Int.reduceMul, eq_self]
      refine (draw (hdB.at.app _) (many := ((many : Nat) : Int))).wT hdB.at.lt ?_
      rintro _ SC dC ⟨x, rfl, x0, x1⟩
      simp only [z6, z4, wq_a, wq_b, wq_c, wq_d, wq_e, wq_f, wq_g, Int.reduceToNat, Int.reduceLE, Int.reduceLT, Int.reduceNeg, startD, List.replicate, Nat.reduceAdd, Nat.reduceSub, Nat.reduceEqDiff, if_true, if_false, Int.reduceEq, Int.reduceAdd, Int.reduceSub, Int.reduceMul, eq_self]
      refine (draw (dC.at.app _)).wT dC.at.lt ?_
      rintro _ SD dD ⟨y, rfl, y0, y1⟩
      simp only [z6, z4, wq_a, wq_b, wq_c, wq_d, wq_e, wq_f, wq_g, Int.reduceToNat, Int.reduceLE, Int.reduceLT, Int.reduceNeg, startD, List.replicate, Nat.reduceAdd, Nat.reduceSub, Nat.reduceEqDiff, if_true, if_false, Int.reduceEq, Int.reduceAdd, Int.reduceSub, Int.reduceMul, eq_self, w_modI (show (0 : Int) < ((many : Nat) : Int) by omega)]
      refine (draw (dD.at.app _)).wT dD.at.lt ?_
      rintro _ SE dE ⟨z, rfl, z0, z1⟩
      have hmod0 := Int.emod_nonneg (0 + ((i : Nat) : Int) + y) (show ((many : Nat) : Int) ≠ 0 by omega)
      have hmod1 := Int.emod_lt_of_pos (0 + ((i : Nat) : Int) + y) (show (0 : Int) < ((many : Nat) : Int) by omega)
      obtain ⟨bh, hbh, hbl⟩ : ∃ bh : Nat, atI [D.int x, .int ((0 + ((i : Nat) : Int) + y) % ((many : Nat) : Int)), .int (0 + ((i : Nat) : Int))] (if z < near then z else near) = some (.int ((bh : Nat) : Int)) ∧ bh < many := by
        have hq : ∃ q : Int, (if z < near then z else near) = q ∧ 0 ≤ q ∧ q < 3 := ⟨_, rfl, by split <;> omega, by split <;> omega⟩
        obtain ⟨q, eq, q0, q1⟩ := hq
        rw [eq]
        have : q = 0 ∨ q = 1 ∨ q = 2 := by omega
        rcases this with rfl | rfl | rfl
        · exact ⟨x.toNat, by show some (D.int x) = _; rw [Int.toNat_of_nonneg x0], by omega⟩
        · exact ⟨((0 + ((i : Nat) : Int) + y) % ((many : Nat) : Int)).toNat, by show some (D.int _) = _; rw [Int.toNat_of_nonneg hmod0], by omega⟩
        · exact ⟨i, by show some (D.int _) = _; rw [Int.zero_add], by omega⟩
      simp only [z6, z4, wq_a, wq_b, wq_c, wq_d, wq_e, wq_f, wq_g, Int.reduceToNat, Int.reduceLE, Int.reduceLT, Int.reduceNeg, startD, List.replicate, Nat.reduceAdd, Nat.reduceSub, Nat.reduceEqDiff, if_true, if_false, Int.reduceEq, Int.reduceAdd, Int.reduceSub, Int.reduceMul, eq_self, w_min2, hbh]
      have dBE := ((hdB.trans dC).trans dD).trans dE
      have hYE : (SE ++ (DO.lst (rs.map rowD) :: (T ++ [.lst (r.map enD)])))[S.length + 1 + T.length]? = some (.lst (r.map enD)) := by
        have eB : (SE ++ DO.lst (rs.map rowD) :: T).length = S.length + 1 + T.length := by rw [List.length_append, dBE.len, List.length_cons]; omega
        rw [← reX, ← eB]; exact get_last
      rw [w_ite (isTy_lst hYE)]
      simp only [z6, z4, wq_a, wq_b, wq_c, wq_d, wq_e, wq_f, wq_g, Int.reduceToNat, Int.reduceLE, Int.reduceLT, Int.reduceNeg, startD, List.replicate, Nat.reduceAdd, Nat.reduceSub, Nat.reduceEqDiff, if_true, if_false, Int.reduceEq, Int.reduceAdd, Int.reduceSub, Int.reduceMul, eq_self, List.length_map]
      refine (draw (dE.at.app _) (many := ((few.length : Nat) : Int))).wT dE.at.lt ?_
      rintro _ SF dF ⟨u, rfl, u0, u1⟩
      obtain ⟨w, hw0, hwm⟩ : ∃ w : List Bool, atI (few.map sW) u = some (.str (W (wB w))) ∧ w ∈ few := by
        have hl : u.toNat < few.length := by omega
        exact ⟨few[u.toNat], by rw [atI_pos u0]; simp [hl, sW], List.getElem_mem hl⟩
      simp only [z6, z4, wq_a, wq_b, wq_c, wq_d, wq_e, wq_f, wq_g, Int.reduceToNat, Int.reduceLE, Int.reduceLT, Int.reduceNeg, startD, List.replicate, Nat.reduceAdd, Nat.reduceSub, Nat.reduceEqDiff, if_true, if_false, Int.reduceEq, Int.reduceAdd, Int.reduceSub, Int.reduceMul, eq_self, hw0]
      have dBF := dBE.trans dF
      have eF : (SF ++ DO.lst (rs.map rowD) :: T).length = S.length + 1 + T.length := by rw [List.length_append, dBF.len, List.length_cons]; omega
      have hYF : (SF ++ (DO.lst (rs.map rowD) :: (T ++ [.lst (r.map enD)])))[S.length + 1 + T.length]? = some (.lst (r.map enD)) := by
        rw [← reX, ← eF]; exact get_last
      rw [w_appL hYF (by rw [List.length_map, sizeLine_eq]; omega), ← reX, ← eF, set_last, eF]
      refine ⟨SF, r ++ [(w, bh)], _, _, _, by rw [List.map_append]; rfl, dBF, by simp [hlr], fun e he => ?_, rfl⟩
      rcases List.mem_append.mp he with he | he
      · exact hgr e he
      · rw [List.mem_singleton] at he
        subst he
        have := fd w hwm
        exact ⟨by show w.length = outs; omega, hbl⟩

theorem filt_none {α : Type} (l : List α) : l.filter (fun _ => false) = [] := List.filter_eq_nil_iff.mpr fun _ _ => by simp
theorem is_row_ok {ins outs many : Nat} {r : List En} {S : Sto} (i4 : ins ≤ 4) (hl : r.length = 2 ^ ins) (hd : ∀ e ∈ r, e.1.length = outs ∧ e.2 < many) (ho : outs ≤ 100) :
    F_is_row [.int ((ins : Nat) : Int), .int ((outs : Nat) : Int), .int ((many : Nat) : Int), rowD r] S = .ok (.bl true) S := by
  unfold F_is_row
  refine fn_ok rfl ?_
  unfold b_is_row
  have p16 := pow_le i4
  simp only [z6, z4, wq_a, wq_b, wq_c, wq_d, wq_e, wq_f, wq_g, Int.reduceToNat, Int.reduceLE, Int.reduceLT, Int.reduceNeg, startD, List.replicate, Nat.reduceAdd, Nat.reduceSub, Nat.reduceEqDiff, if_true, if_false, Int.reduceEq, Int.reduceAdd, Int.reduceSub, Int.reduceMul, eq_self, rowD, List.length_map, hl, at_counts i4]
  have hc : dFrz (dComp [4] (iVal (dVar 3)) (gVar 4) (tOrD (tNotD (tstB (dCallF 3 F_is_word (dCons (d2 ixD (dVar 4) (dC (.int 0))) (dCons (dVar 1) (dCons (dC (.str "01")) dNil)))))) (tNotD (d3T leD ltD (dC (.int 0)) (d2 ixD (dVar 4) (dC (.int 1))) (dVar 2)))) (dVar 4)) [some (.int ((ins : Nat) : Int)), some (.int ((outs : Nat) : Int)), some (.int ((many : Nat) : Int)), some (.tup (r.map enD)), none] S = .ok (.frl ((r.filter fun _ => false).map enD)) S := by
    refine compF r enD (fun _ => false) _ ?_ (by rw [filt_none]; exact Nat.zero_le _) ?_ ?_
    · simp only [z6, z4, wq_a, wq_b, wq_c, wq_d, wq_e, wq_f, wq_g, Int.reduceToNat, Int.reduceLE, Int.reduceLT, Int.reduceNeg, startD, List.replicate, Nat.reduceAdd, Nat.reduceSub, Nat.reduceEqDiff, if_true, if_false, Int.reduceEq, Int.reduceAdd, Int.reduceSub, Int.reduceMul, eq_self, itemsD]
      exact ⟨trivial, trivial, fun _ _ => rfl⟩
    · intro e he S' _
      obtain ⟨h1, h2⟩ := hd e he
      have z1 : (0 : Int) ≤ ((e.2 : Nat) : Int) := by omega
      have z2 : ((e.2 : Nat) : Int) < ((many : Nat) : Int) := by omega
      simp only [z6, z4, wq_a, wq_b, wq_c, wq_d, wq_e, wq_f, wq_g, Int.reduceToNat, Int.reduceLE, Int.reduceLT, Int.reduceNeg, startD, List.replicate, Nat.reduceAdd, Nat.reduceSub, Nat.reduceEqDiff, if_true, if_false, Int.reduceEq, Int.reduceAdd, Int.reduceSub, Int.reduceMul, eq_self, wipeD, enD, W_01]
      rw [is_word_ok (wB_ok _) (by rw [wB_len]; omega), show ([48, 49] : List Nat) = b01 from rfl, isWord_wB (by rw [h1])]
      simp only [z6, z4, wq_a, wq_b, wq_c, wq_d, wq_e, wq_f, wq_g, Int.reduceToNat, Int.reduceLE, Int.reduceLT, Int.reduceNeg, startD, List.replicate, Nat.reduceAdd, Nat.reduceSub, Nat.reduceEqDiff, if_true, if_false, Int.reduceEq, Int.reduceAdd, Int.reduceSub, Int.reduceMul, eq_self, z1, z2]
      exact ⟨trivial, trivial, trivial, fun z => by cases z⟩
    · intro a _ _; rfl
  simp only [hc, z6, z4, wq_a, wq_b, wq_c, wq_d, wq_e, wq_f, wq_g, Int.reduceToNat, Int.reduceLE, Int.reduceLT, Int.reduceNeg, startD, List.replicate, Nat.reduceAdd, Nat.reduceSub, Nat.reduceEqDiff, if_true, if_false, Int.reduceEq, Int.reduceAdd, Int.reduceSub, Int.reduceMul, eq_self]
  rw [w_eqNil (n := 1) fun a _ => enD_gd a]
  simp only [z6, z4, wq_a, wq_b, wq_c, wq_d, wq_e, wq_f, wq_g, Int.reduceToNat, Int.reduceLE, Int.reduceLT, Int.reduceNeg, startD, List.replicate, Nat.reduceAdd, Nat.reduceSub, Nat.reduceEqDiff, if_true, if_false, Int.reduceEq, Int.reduceAdd, Int.reduceSub, Int.reduceMul, eq_self]
  exact ⟨by simp, zd S⟩
theorem need_plain_ok {ins outs : Nat} {rows : List (List En)} {S : Sto} (P : PM ins outs rows) : F_need_plain [plD ins outs rows] S = .ok .non S := by
  unfold F_need_plain
  refine fn_ok rfl ?_
  unfold b_need_plain
  have h1 := P.i1; have h2 := P.i4; have h3 := P.o1; have h4 := P.o3; have h5 := P.n1; have h6 := P.n200
  have c1 : (1 : Int) ≤ ((ins : Nat) : Int) := by omega
  have c2 : ((ins : Nat) : Int) ≤ 4 := by omega
  have c3 : (1 : Int) ≤ ((outs : Nat) : Int) := by omega
  have c4 : ((outs : Nat) : Int) ≤ 3 := by omega
  have c5 : (1 : Int) ≤ ((rows.length : Nat) : Int) := by omega
  have c6 : ((rows.length : Nat) : Int) ≤ 200 := by omega
  simp only [z6, z4, wq_a, wq_b, wq_c, wq_d, wq_e, wq_f, wq_g, Int.reduceToNat, Int.reduceLE, Int.reduceLT, Int.reduceNeg, startD, List.replicate, Nat.reduceAdd, Nat.reduceSub, Nat.reduceEqDiff, if_true, if_false, Int.reduceEq, Int.reduceAdd, Int.reduceSub, Int.reduceMul, eq_self, plD, List.length_map, c1, c2, c3, c4, c5, c6, itemsD]
  generalize D.tup [.int ((ins : Nat) : Int), .int ((outs : Nat) : Int), .tup (rows.map rowD)] = C
  refine w_enumP rowD (fun pre sd S' => S' = S ∧ ∃ a b, sd = [some C, some (.int ((ins : Nat) : Int)), some (.int ((outs : Nat) : Int)), some (.tup (rows.map rowD)), a, b]) rows (fun _ _ _ _ _ _ => rfl) ⟨rfl, _, _, rfl⟩ ?_ ?_
  · rintro sd S' ⟨rfl, a, b, rfl⟩
    simp only [z6, z4, wq_a, wq_b, wq_c, wq_d, wq_e, wq_f, wq_g, Int.reduceToNat, Int.reduceLE, Int.reduceLT, Int.reduceNeg, startD, List.replicate, Nat.reduceAdd, Nat.reduceSub, Nat.reduceEqDiff, if_true, if_false, Int.reduceEq, Int.reduceAdd, Int.reduceSub, Int.reduceMul, eq_self]
    exact ⟨trivial, zd _⟩
  · rintro pre r post sd S' e ⟨rfl, a, b, rfl⟩
    have hr : r ∈ rows := by rw [e]; simp
    simp only [z6, z4, wq_a, wq_b, wq_c, wq_d, wq_e, wq_f, wq_g, Int.reduceToNat, Int.reduceLE, Int.reduceLT, Int.reduceNeg, startD, List.replicate, Nat.reduceAdd, Nat.reduceSub, Nat.reduceEqDiff, if_true, if_false, Int.reduceEq, Int.reduceAdd, Int.reduceSub, Int.reduceMul, eq_self, gTupD, List.length_map]
    rw [is_row_ok P.i4 (P.len r hr) (fun e he => ⟨P.deed r hr e he, P.nxt r hr e he⟩) (by omega)]
    simp only [z6, z4, wq_a, wq_b, wq_c, wq_d, wq_e, wq_f, wq_g, Int.reduceToNat, Int.reduceLE, Int.reduceLT, Int.reduceNeg, startD, List.replicate, Nat.reduceAdd, Nat.reduceSub, Nat.reduceEqDiff, if_true, if_false, Int.reduceEq, Int.reduceAdd, Int.reduceSub, Int.reduceMul, eq_self]
    exact ⟨trivial, _, _, rfl⟩

theorem law_beats_ok {S : Sto} : ∀ (n j : Nat), n ≤ 10 → F__law_beats (n + 1 + j) [.int (n : Nat)] S = .ok (.frl ((allB n).map sW)) S := by
  intro n
  induction n with
  | zero =>
    intro j _
    rw [show 0 + 1 + j = j + 1 by omega]
    unfold F__law_beats
    refine fn_ok rfl ?_
    unfold b__law_beats
    simp only [z6, z4, wq_a, wq_b, wq_c, wq_d, wq_e, wq_f, wq_g, Int.reduceToNat, Int.reduceLE, Int.reduceLT, Int.reduceNeg, startD, List.replicate, Nat.reduceAdd, Nat.reduceSub, Nat.reduceEqDiff, if_true, if_false, Int.reduceEq, Int.reduceAdd, Int.reduceSub, Int.reduceMul, eq_self, W_empty]
    exact ⟨rfl, zd S⟩
  | succ n ih =>
    intro j hn
    rw [show n + 1 + 1 + j = (n + 1 + j) + 1 by omega]
    unfold F__law_beats
    have hne : ¬ ((n + 1 : Nat) : Int) = 0 := by omega
    have hsub : ((n + 1 : Nat) : Int) - 1 = (n : Nat) := by omega
    have h2 : (allB n).length ≤ 1024 := by
      rw [allB_many]
      have : 2 ^ n ≤ 2 ^ 10 := Nat.pow_le_pow_right (by decide) (by omega)
      omega
    have hc : ∀ (c : Bool) (cs : Str) (o2 : Option D), cs = W [cb c] → dFrz (dComp [2] (iVal (dVar 1)) (gVar 2) tYesD (d2 addD (dC (.str cs)) (dVar 2))) [some (.int ((n + 1 : Nat) : Int)), some (.frl ((allB n).map sW)), o2] S = .ok (.frl (((allB n).map (c :: ·)).map sW)) S := by
      intro c cs o2 hcs
      subst hcs
      rw [List.map_map]
      refine compM (allB n) sW _ ?_ (szn (by omega)) ?_ ?_
      · simp only [z6, z4, wq_a, wq_b, wq_c, wq_d, wq_e, wq_f, wq_g, Int.reduceToNat, Int.reduceLE, Int.reduceLT, Int.reduceNeg, startD, List.replicate, Nat.reduceAdd, Nat.reduceSub, Nat.reduceEqDiff, if_true, if_false, Int.reduceEq, Int.reduceAdd, Int.reduceSub, Int.reduceMul, eq_self, itemsD]
        exact ⟨trivial, trivial, fun _ _ => rfl⟩
      · intro b hb S' _
        simp only [z6, z4, wq_a, wq_b, wq_c, wq_d, wq_e, wq_f, wq_g, Int.reduceToNat, Int.reduceLE, Int.reduceLT, Int.reduceNeg, startD, List.replicate, Nat.reduceAdd, Nat.reduceSub, Nat.reduceEqDiff, if_true, if_false, Int.reduceEq, Int.reduceAdd, Int.reduceSub, Int.reduceMul, eq_self, wipeD, sW]
        refine ⟨trivial, ?_⟩
        rw [w_addS (by rw [W_len, W_len, wB_len, allB_len n b hb]; exact szn (by simp; omega)), W_app]
        exact ⟨rfl, rfl⟩
      · intro b _; rfl
    refine fn_ok (gd_blw (n := 1) _ (gd_frl (gd_map fun b _ => gd_W (wB_ok b)))) ?_
    unfold b__law_beats
    simp only [z6, z4, wq_a, wq_b, wq_c, wq_d, wq_e, wq_f, wq_g, Int.reduceToNat, Int.reduceLE, Int.reduceLT, Int.reduceNeg, startD, List.replicate, Nat.reduceAdd, Nat.reduceSub, Nat.reduceEqDiff, if_true, if_false, Int.reduceEq, Int.reduceAdd, Int.reduceSub, Int.reduceMul, eq_self, hne, hsub, ih j (by omega), hc false _ _ W_0, hc true _ _ W_1, List.length_map]
    rw [w_ite (szn (by omega))]
    simp only [z6, z4, wq_a, wq_b, wq_c, wq_d, wq_e, wq_f, wq_g, Int.reduceToNat, Int.reduceLE, Int.reduceLT, Int.reduceNeg, startD, List.replicate, Nat.reduceAdd, Nat.reduceSub, Nat.reduceEqDiff, if_true, if_false, Int.reduceEq, Int.reduceAdd, Int.reduceSub, Int.reduceMul, eq_self]
    refine ⟨?_, zd S⟩
    simp [allB]

theorem allB_nodup : ∀ n : Nat, (allB n).Nodup
  | 0 => by simp [allB]
  | n + 1 => by
    have ih := allB_nodup n
    rw [allB, List.nodup_append]
    refine ⟨List.Pairwise.map _ (fun a b h z => h (List.cons.inj z).2) ih, List.Pairwise.map _ (fun a b h z => h (List.cons.inj z).2) ih, fun a ha b hb z => ?_⟩
    obtain ⟨x, _, rfl⟩ := List.mem_map.mp ha
    obtain ⟨y, _, rfl⟩ := List.mem_map.mp hb
    cases (List.cons.inj z).1
theorem findIdx_at {bs : List (List Bool)} {k : Nat} (hn : bs.Nodup) (hk : k < bs.length) : (bs.findIdx? fun b => decide (b = bs.getD k [])) = some k := by
  rw [List.findIdx?_eq_some_iff_getElem]
  have e : bs.getD k [] = bs[k] := by rw [List.getD_eq_getElem?_getD, List.getElem?_eq_getElem hk]; rfl
  refine ⟨hk, by rw [e]; simp, fun j hj => ?_⟩
  rw [e]
  have := List.pairwise_iff_getElem.mp hn j k (by omega) hk hj
  simpa using this
theorem index_ok {bs : List (List Bool)} {k : Nat} {S : Sto} {Q : D → Sto → Prop} {X : Exc → Sto → Prop} (hn : bs.Nodup) (hk : k < bs.length) : Wp (indexD (.frl (bs.map sW)) [sW (bs.getD k [])] S) Q X = Q (.int ((k : Nat) : Int)) S := by
  have g1 : ∀ b : List Bool, GD 0 (sW b) := fun b => gd_W (wB_ok _)
  have e1 : ∀ b : List Bool, toP S 60 (sW b) = some (.str (W (wB b))) := fun b => rfl
  have e2 : ∀ bs : List (List Bool), mapO (toP S 60) (bs.map sW) = some (bs.map fun b => PyData.str (W (wB b))) := fun bs => by
    induction bs with
    | nil => rfl
    | cons b bs ih => simp only [List.map_cons, mapO, e1, ih]
  have s1 : ∀ b : List Bool, SeqAt.shaped (.str (W (wB b))) = true := fun b => gd_shaped (d := sW b) (g1 b) (by decide)
  have s2 : SeqAt.shaped (.list (bs.map fun b => PyData.str (W (wB b)))) = true := by
    have := gd_shaped (d := .frl (bs.map sW)) (n := 1) (gd_frl (gd_map fun b _ => g1 b)) (by decide)
    have ep : pd (.frl (bs.map sW)) = .list (bs.map fun b => PyData.str (W (wB b))) := by
      show PyData.list (pds (bs.map sW)) = _
      congr 1
      clear hk hn this
      induction bs with
      | nil => rfl
      | cons b bs ih => rw [List.map_cons, List.map_cons, ← ih]; rfl
    rwa [ep] at this
  have e3 : ((bs.map fun b => PyData.str (W (wB b))).findIdx? fun z => PyData.eqv z (.str (W (wB (bs.getD k []))))) = some k := by
    rw [List.findIdx?_map, ← findIdx_at hn hk]
    congr 1
    funext b
    show PyData.eqv (.str (W (wB b))) (.str (W (wB (bs.getD k [])))) = _
    have := eqv_pd (sW b) (sW (bs.getD k [])) (g1 b) (g1 _)
    have e4 : PyData.eqv (.str (W (wB b))) (.str (W (wB (bs.getD k [])))) = decide (sW b = sW (bs.getD k [])) := this
    rw [e4]
    apply decide_eq_decide.mpr
    constructor
    · intro z
      unfold sW at z
      injection z with z
      exact wB_inj (W_inj.mp z)
    · intro z; rw [z]
  simp only [indexD, lsD, e1, e2, s1, s2, Bool.and_self, if_true, e3]
  rfl
def rowAt (rows : List (List En)) (i : Nat) : List En := rows.getD i []
theorem row_mem {rows : List (List En)} {i : Nat} (h : i < rows.length) : rowAt rows i ∈ rows := by
  unfold rowAt
  rw [List.getD_eq_getElem?_getD, List.getElem?_eq_getElem h]
  exact List.getElem_mem h
theorem at_row {rows : List (List En)} {k : Nat} (h : k < rows.length) : atI (rows.map rowD) ((k : Nat) : Int) = some (rowD (rowAt rows k)) := by
  rw [atI_pos (by omega)]
  simp [h, List.getD, rowAt]
def ansAt (rows : List (List En)) (i k : Nat) : En := (rowAt rows i).getD k ([], 0)
theorem at_ans {rows : List (List En)} {i k : Nat} (h : k < (rowAt rows i).length) : atI ((rowAt rows i).map enD) ((k : Nat) : Int) = some (enD (ansAt rows i k)) := by
  rw [atI_pos (by omega)]
  simp [h, List.getD, ansAt]
theorem ans_mem {rows : List (List En)} {i k : Nat} (h : k < (rowAt rows i).length) : ansAt rows i k ∈ rowAt rows i := by
  unfold ansAt
  rw [List.getD_eq_getElem?_getD, List.getElem?_eq_getElem h]
  exact List.getElem_mem h
theorem law_at_ok {ins outs i k : Nat} {rows : List (List En)} {S : Sto} (P : PM ins outs rows) (hi : i < rows.length) (hk : k < 2 ^ ins) : F__law_at [plD ins outs rows, .int ((i : Nat) : Int), sW ((allB ins).getD k [])] S = .ok (enD (ansAt rows i k)) S := by
  have i4 := P.i4
  have hl : (rowAt rows i).length = 2 ^ ins := P.len _ (row_mem hi)
  unfold F__law_at
  refine fn_ok (gd_blw _ (enD_gd _)) ?_
  unfold b__law_at
  have x2 : ∀ {S : Sto}, Wp (ixD (plD ins outs rows) (.int 2) S) = Wp (.ok (.tup (rows.map rowD)) S) := rfl
  have x0 : ∀ {S : Sto}, Wp (ixD (plD ins outs rows) (.int 0) S) = Wp (.ok (.int ((ins : Nat) : Int)) S) := rfl
  have hlb := law_beats_ok (S := S) ins (39 - ins) (by omega)
  rw [show ins + 1 + (39 - ins) = 40 by omega] at hlb
  simp only [z6, z4, wq_a, wq_b, wq_c, wq_d, wq_e, wq_f, wq_g, Int.reduceToNat, Int.reduceLE, Int.reduceLT, Int.reduceNeg, startD, List.replicate, Nat.reduceAdd, Nat.reduceSub, Nat.reduceEqDiff, if_true, if_false, Int.reduceEq, Int.reduceAdd, Int.reduceSub, Int.reduceMul, eq_self, x2, at_row hi, x0, hlb]
  have ity : isTy "list" (.frl ((allB ins).map sW)) S = true := rfl
  rw [w_ite ity]
  simp only [z6, z4, wq_a, wq_b, wq_c, wq_d, wq_e, wq_f, wq_g, Int.reduceToNat, Int.reduceLE, Int.reduceLT, Int.reduceNeg, startD, List.replicate, Nat.reduceAdd, Nat.reduceSub, Nat.reduceEqDiff, if_true, if_false, Int.reduceEq, Int.reduceAdd, Int.reduceSub, Int.reduceMul, eq_self]
  rw [index_ok (allB_nodup ins) (by rw [allB_many]; exact hk)]
  simp only [z6, z4, wq_a, wq_b, wq_c, wq_d, wq_e, wq_f, wq_g, Int.reduceToNat, Int.reduceLE, Int.reduceLT, Int.reduceNeg, startD, List.replicate, Nat.reduceAdd, Nat.reduceSub, Nat.reduceEqDiff, if_true, if_false, Int.reduceEq, Int.reduceAdd, Int.reduceSub, Int.reduceMul, eq_self, rowD]
  rw [at_ans (by rw [hl]; exact hk)]
  exact ⟨rfl, zd S⟩

theorem pow29 {S : Sto} {Q : D → Sto → Prop} {X : Exc → Sto → Prop} : Wp (powD (.int 10) (.int 29) S) Q X = Q (.int 100000000000000000000000000000) S := by
  have e : powD (.int 10) (.int 29) S = .ok (.int 100000000000000000000000000000) S := by
    simp only [powD]
    rw [if_pos (powOk_of (by decide))]
    rfl
  rw [e]; rfl
theorem far_ok {l : Nat} {S : Sto} {lo hi : Int} (h : At l S) : Gn l S (F__law_far [.ref l, .int lo, .int hi] S) (fun d => ∃ v, d = .int v ∧ (v < lo ∨ hi < v)) := by
  unfold F__law_far
  refine fn_gn ?_
  unfold b__law_far
  simp only [z6, z4, wq_a, wq_b, wq_c, wq_d, wq_e, wq_f, wq_g, Int.reduceToNat, Int.reduceLE, Int.reduceLT, Int.reduceNeg, startD, List.replicate, Nat.reduceAdd, Nat.reduceSub, Nat.reduceEqDiff, if_true, if_false, Int.reduceEq, Int.reduceAdd, Int.reduceSub, Int.reduceMul, eq_self, pow29]
  refine (draw h).w ?_
  rintro _ S1 d1 ⟨v, rfl, v0, v1⟩
  obtain ⟨m, hm, hm1, hm2⟩ : ∃ m : Int, atI [D.int 1, .int 20, .int 100000000000000000000000000000] v = some (.int m) ∧ 0 < m ∧ m < 10 ^ 40 := by
    have : v = 0 ∨ v = 1 ∨ v = 2 := by omega
    rcases this with rfl | rfl | rfl
    · exact ⟨1, rfl, by decide, by decide⟩
    · exact ⟨20, rfl, by decide, by decide⟩
    · exact ⟨_, rfl, by decide, by decide⟩
  simp only [z6, z4, wq_a, wq_b, wq_c, wq_d, wq_e, wq_f, wq_g, Int.reduceToNat, Int.reduceLE, Int.reduceLT, Int.reduceNeg, startD, List.replicate, Nat.reduceAdd, Nat.reduceSub, Nat.reduceEqDiff, if_true, if_false, Int.reduceEq, Int.reduceAdd, Int.reduceSub, Int.reduceMul, eq_self, hm]
  refine (draw d1.at hm1 hm2).w ?_
  rintro _ S2 d2 ⟨u, rfl, u0, u1⟩
  simp only [z6, z4, wq_a, wq_b, wq_c, wq_d, wq_e, wq_f, wq_g, Int.reduceToNat, Int.reduceLE, Int.reduceLT, Int.reduceNeg, startD, List.replicate, Nat.reduceAdd, Nat.reduceSub, Nat.reduceEqDiff, if_true, if_false, Int.reduceEq, Int.reduceAdd, Int.reduceSub, Int.reduceMul, eq_self]
  refine (draw d2.at hm1 hm2).w ?_
  rintro _ S3 d3 ⟨u', rfl, u0', u1'⟩
  simp only [z6, z4, wq_a, wq_b, wq_c, wq_d, wq_e, wq_f, wq_g, Int.reduceToNat, Int.reduceLE, Int.reduceLT, Int.reduceNeg, startD, List.replicate, Nat.reduceAdd, Nat.reduceSub, Nat.reduceEqDiff, if_true, if_false, Int.reduceEq, Int.reduceAdd, Int.reduceSub, Int.reduceMul, eq_self]
  refine (draw d3.at).w ?_
  rintro _ S4 d4 ⟨z, rfl, z0, z1⟩
  have hd := ((d1.trans d2).trans d3).trans d4
  have : z = 0 ∨ z = 1 := by omega
  rcases this with rfl | rfl
  · simp only [z6, z4, wq_a, wq_b, wq_c, wq_d, wq_e, wq_f, wq_g, Int.reduceToNat, Int.reduceLE, Int.reduceLT, Int.reduceNeg, startD, List.replicate, Nat.reduceAdd, Nat.reduceSub, Nat.reduceEqDiff, if_true, if_false, Int.reduceEq, Int.reduceAdd, Int.reduceSub, Int.reduceMul, eq_self]
    exact Dr.out (P := fun d => ∃ v, d = .int v ∧ (v < lo ∨ hi < v)) hd rfl ⟨_, rfl, by omega⟩
  · simp only [z6, z4, wq_a, wq_b, wq_c, wq_d, wq_e, wq_f, wq_g, Int.reduceToNat, Int.reduceLE, Int.reduceLT, Int.reduceNeg, startD, List.replicate, Nat.reduceAdd, Nat.reduceSub, Nat.reduceEqDiff, if_true, if_false, Int.reduceEq, Int.reduceAdd, Int.reduceSub, Int.reduceMul, eq_self]
    exact Dr.out (P := fun d => ∃ v, d = .int v ∧ (v < lo ∨ hi < v)) hd rfl ⟨_, rfl, by omega⟩

end Lw

namespace Lw
open PySem PySem.Spec PyProof.Rows L2 DL
theorem int_0 : PySem.intText? (W [48]) = some 0 := by decide +kernel
theorem int_1 : PySem.intText? (W [49]) = some 1 := by decide +kernel
theorem int_sign {S : Sto} (c : Bool) : DL.intD [.str (W [cb c])] S = .ok (.int (if c then 1 else 0)) S := by
  simp only [DL.intD]
  cases c with
  | true =>
    show (match PySem.intText? (W [49]) with | some n => if (W [49]).length ≤ 640 then Res.ok (D.int n) S else .stuck | none => .stuck) = _
    rw [int_1]
    simp only
    rw [if_pos (by rw [W_len]; decide)]
    rfl
  | false =>
    show (match PySem.intText? (W [48]) with | some n => if (W [48]).length ≤ 640 then Res.ok (D.int n) S else .stuck | none => .stuck) = _
    rw [int_0]
    simp only
    rw [if_pos (by rw [W_len]; decide)]
    rfl

def nb : List Bool → Nat
  | [] => 0
  | x :: b => (if x then 2 ^ b.length else 0) + nb b
theorem nb_lt : ∀ b : List Bool, nb b < 2 ^ b.length
  | [] => by simp [nb]
  | x :: b => by
    have := nb_lt b
    rw [List.length_cons, Nat.pow_succ]
    unfold nb
    cases x <;> simp <;> omega
theorem nb_snoc {x : Bool} : ∀ b : List Bool, nb (b ++ [x]) = 2 * nb b + (if x then 1 else 0)
  | [] => by cases x <;> rfl
  | y :: b => by
    have := nb_snoc (x := x) b
    show (if y then 2 ^ (b ++ [x]).length else 0) + nb (b ++ [x]) = 2 * ((if y then 2 ^ b.length else 0) + nb b) + _
    rw [this, List.length_append, List.length_singleton, Nat.pow_succ]
    cases y <;> simp <;> omega
theorem allB_nb : ∀ b : List Bool, (allB b.length)[nb b]? = some b
  | [] => rfl
  | x :: b => by
    have ih := allB_nb b
    have hl := nb_lt b
    show ((allB b.length).map (false :: ·) ++ (allB b.length).map (true :: ·))[(if x then 2 ^ b.length else 0) + nb b]? = _
    cases x with
    | false =>
      rw [if_neg (by simp), Nat.zero_add, List.getElem?_append_left (by rw [List.length_map, allB_many]; exact hl), List.getElem?_map, ih]
      rfl
    | true =>
      rw [if_pos rfl, List.getElem?_append_right (by rw [List.length_map, allB_many]; omega), List.length_map, allB_many, Nat.add_sub_cancel_left, List.getElem?_map, ih]
      rfl
theorem allB_getD {ins : Nat} {b : List Bool} (h : b.length = ins) : (allB ins).getD (nb b) [] = b := by
  rw [← h, List.getD_eq_getElem?_getD, allB_nb]; rfl
theorem number_ok {b : List Bool} {S : Sto} (h : b.length ≤ 20) : F_number_of [sW b] S = .ok (.int ((nb b : Nat) : Int)) S := by
  unfold F_number_of
  refine fn_ok rfl ?_
  unfold b_number_of
  have esg : signsD (W (wB b)) = b.map fun x => D.str (W [cb x]) := by
    unfold signsD
    rw [W_cps]
    simp [wB, W]
  simp only [z6, z4, wq_a, wq_b, wq_c, wq_d, wq_e, wq_f, wq_g, Int.reduceToNat, Int.reduceLE, Int.reduceLT, Int.reduceNeg, startD, List.replicate, Nat.reduceAdd, Nat.reduceSub, Nat.reduceEqDiff, if_true, if_false, Int.reduceEq, Int.reduceAdd, Int.reduceSub, Int.reduceMul, eq_self, sW, itemsD, esg]
  refine w_loopP (fun x : Bool => D.str (W [cb x])) (fun pre sd S' => S' = S ∧ ∃ a2, sd = [some (.str (W (wB b))), some (.int ((nb pre : Nat) : Int)), a2]) b (fun _ _ _ _ _ _ => rfl) ⟨rfl, _, rfl⟩ ?_ ?_
  · rintro sd S' ⟨rfl, a2, rfl⟩
    simp only [z6, z4, wq_a, wq_b, wq_c, wq_d, wq_e, wq_f, wq_g, Int.reduceToNat, Int.reduceLE, Int.reduceLT, Int.reduceNeg, startD, List.replicate, Nat.reduceAdd, Nat.reduceSub, Nat.reduceEqDiff, if_true, if_false, Int.reduceEq, Int.reduceAdd, Int.reduceSub, Int.reduceMul, eq_self]
    exact ⟨trivial, zd _⟩
  · rintro pre x post sd S' e ⟨rfl, a2, rfl⟩
    have hb := nb_lt pre
    have hpl : pre.length ≤ 20 := by have := congrArg List.length e; simp at this; omega
    have h2 : 2 ^ pre.length ≤ 2 ^ 20 := Nat.pow_le_pow_right (by decide) hpl
    have h3 : (2 : Nat) ^ 20 = 1048576 := rfl
    simp only [z6, z4, wq_a, wq_b, wq_c, wq_d, wq_e, wq_f, wq_g, Int.reduceToNat, Int.reduceLE, Int.reduceLT, Int.reduceNeg, startD, List.replicate, Nat.reduceAdd, Nat.reduceSub, Nat.reduceEqDiff, if_true, if_false, Int.reduceEq, Int.reduceAdd, Int.reduceSub, Int.reduceMul, eq_self, w_mulI (a := 2) (b := ((nb pre : Nat) : Int)) (mul_l (mul_okI (by decide) (by decide))), int_sign]
    have e9 : 2 * ((nb pre : Nat) : Int) + (if x = true then 1 else 0) = ((nb (pre ++ [x]) : Nat) : Int) := by
      rw [nb_snoc]
      cases x <;> simp
    rw [e9]
    exact ⟨trivial, _, rfl⟩
def prun (rows : List (List En)) : Nat → List (List Bool) → List (List Bool)
  | _, [] => []
  | i, b :: bs => (ansAt rows i (nb b)).1 :: prun rows (ansAt rows i (nb b)).2 bs
def pend (rows : List (List En)) : Nat → List (List Bool) → Nat
  | i, [] => i
  | i, b :: bs => pend rows (ansAt rows i (nb b)).2 bs
theorem pend_snoc {rows : List (List En)} {b : List Bool} : ∀ (bs : List (List Bool)) (i : Nat), pend rows i (bs ++ [b]) = (ansAt rows (pend rows i bs) (nb b)).2
  | [], _ => rfl
  | _ :: bs, i => pend_snoc bs _
theorem prun_snoc {rows : List (List En)} {b : List Bool} : ∀ (bs : List (List Bool)) (i : Nat), prun rows i (bs ++ [b]) = prun rows i bs ++ [(ansAt rows (pend rows i bs) (nb b)).1]
  | [], _ => rfl
  | c :: bs, i => by
    show _ :: prun rows _ (bs ++ [b]) = _ :: (prun rows _ bs ++ _)
    rw [prun_snoc bs]
    rfl
theorem prun_len {rows : List (List En)} : ∀ (bs : List (List Bool)) (i : Nat), (prun rows i bs).length = bs.length
  | [], _ => rfl
  | _ :: bs, i => by
    show (prun rows _ bs).length + 1 = _
    rw [prun_len bs]
    rfl
theorem PM.ans {ins outs : Nat} {rows : List (List En)} (P : PM ins outs rows) {i : Nat} (hi : i < rows.length) {b : List Bool} (hb : b.length = ins) : nb b < (rowAt rows i).length ∧ (ansAt rows i (nb b)).1.length = outs ∧ (ansAt rows i (nb b)).2 < rows.length := by
  have hl := P.len _ (row_mem hi)
  have hn : nb b < (rowAt rows i).length := by rw [hl, ← hb]; exact nb_lt b
  exact ⟨hn, P.deed _ (row_mem hi) _ (ans_mem hn), P.nxt _ (row_mem hi) _ (ans_mem hn)⟩
theorem pend_lt {ins outs : Nat} {rows : List (List En)} (P : PM ins outs rows) : ∀ {bs : List (List Bool)} {i : Nat}, i < rows.length → (∀ b ∈ bs, b.length = ins) → pend rows i bs < rows.length
  | [], _, hi, _ => hi
  | b :: bs, i, hi, hb => pend_lt P (bs := bs) (P.ans hi (hb b (by simp))).2.2 fun x hx => hb x (List.mem_cons_of_mem _ hx)
theorem need_bsp_ok {ins : Nat} {bs : List (List Bool)} {S : Sto} (i4 : ins ≤ 4) (h : ∀ b ∈ bs, b.length = ins) : F_need_beats [.int ((ins : Nat) : Int), .frl (bs.map sW)] S = .ok .non S := by
  have := need_beats_ok (ins := ((ins : Nat) : Int)) (ws := bs.map wB) (S := S) (fun w hw => by
    obtain ⟨b, hb, rfl⟩ := List.mem_map.mp hw
    exact ⟨wB_ok b, by rw [wB_len, h b hb]; omega⟩) (fun w hw => by
    obtain ⟨b, hb, rfl⟩ := List.mem_map.mp hw
    exact isWord_wB (by rw [h b hb]))
  rw [List.map_map] at this
  exact this
theorem sWs_blw {k : Nat} {bs : List (List Bool)} : (D.frl (bs.map sW)).blw k = true := gd_blw (n := 1) _ (gd_frl (gd_map fun _ _ => gd_W (wB_ok _)))
theorem deeds_okR {ins outs : Nat} {rows : List (List En)} {bs : List (List Bool)} {S : Sto} (P : PM ins outs rows) (hb : ∀ b ∈ bs, b.length = ins) (hl : bs.length ≤ 100000) : Fr_deeds_of [plD ins outs rows, .frl (bs.map sW)] S = .ok (.ref S.length) (S ++ [.lst ((prun rows 0 bs).map sW)]) := by
  unfold Fr_deeds_of
  refine fn_new (sWs_blw (k := S.length) (bs := prun rows 0 bs)) ?_
  unfold br_deeds_of
  have x2 : ∀ {S : Sto}, Wp (ixD (plD ins outs rows) (.int 2) S) = Wp (.ok (.tup (rows.map rowD)) S) := rfl
  generalize plD ins outs rows = PP at x2 ⊢
  simp only [z6, z4, wq_a, wq_b, wq_c, wq_d, wq_e, wq_f, wq_g, Int.reduceToNat, Int.reduceLE, Int.reduceLT, Int.reduceNeg, startD, List.replicate, Nat.reduceAdd, Nat.reduceSub, Nat.reduceEqDiff, if_true, if_false, Int.reduceEq, Int.reduceAdd, Int.reduceSub, Int.reduceMul, eq_self, itemsD]
  refine w_loopP sW (fun pre sd S' => ∃ (a4 a5 : Option D), S' = S ++ [.lst ((prun rows 0 pre).map sW)] ∧ sd = [some PP, some (.frl (bs.map sW)), some (.int ((pend rows 0 pre : Nat) : Int)), some (.ref S.length), a4, a5]) bs (fun _ _ _ _ _ _ => rfl) ⟨_, _, rfl, rfl⟩ ?_ ?_
  · rintro sd S' ⟨a4, a5, rfl, rfl⟩
    simp only [z6, z4, wq_a, wq_b, wq_c, wq_d, wq_e, wq_f, wq_g, Int.reduceToNat, Int.reduceLE, Int.reduceLT, Int.reduceNeg, startD, List.replicate, Nat.reduceAdd, Nat.reduceSub, Nat.reduceEqDiff, if_true, if_false, Int.reduceEq, Int.reduceAdd, Int.reduceSub, Int.reduceMul, eq_self]
    exact ⟨_, _, rfl, rfl, get_last, Nat.le_refl _⟩
  · rintro pre b post sd S' e ⟨a4, a5, rfl, rfl⟩
    have hbl := hb b (by rw [e]; simp)
    have hpe := pend_lt P (bs := pre) (i := 0) (by have := P.n1; omega) fun x hx => hb x (by rw [e]; simp [hx])
    have ha := P.ans hpe hbl
    have hpl : pre.length ≤ 100000 := by have := congrArg List.length e; simp at this; omega
    simp only [z6, z4, wq_a, wq_b, wq_c, wq_d, wq_e, wq_f, wq_g, Int.reduceToNat, Int.reduceLE, Int.reduceLT, Int.reduceNeg, startD, List.replicate, Nat.reduceAdd, Nat.reduceSub, Nat.reduceEqDiff, if_true, if_false, Int.reduceEq, Int.reduceAdd, Int.reduceSub, Int.reduceMul, eq_self, x2, at_row hpe, rowD, number_ok (show b.length ≤ 20 by have := P.i4; omega), at_ans ha.1, enD, gTupD]
    rw [w_ite (isTy_lst get_last)]
    simp only [z6, z4, wq_a, wq_b, wq_c, wq_d, wq_e, wq_f, wq_g, Int.reduceToNat, Int.reduceLE, Int.reduceLT, Int.reduceNeg, startD, List.replicate, Nat.reduceAdd, Nat.reduceSub, Nat.reduceEqDiff, if_true, if_false, Int.reduceEq, Int.reduceAdd, Int.reduceSub, Int.reduceMul, eq_self]
    rw [w_appL get_last (by rw [sizeLine_eq, List.length_map, prun_len]; omega), set_last]
    refine ⟨_, _, ?_, by rw [pend_snoc]⟩
    rw [prun_snoc, List.map_append]
    rfl
theorem plain_run_okR {ins outs : Nat} {rows : List (List En)} {bs : List (List Bool)} {S : Sto} (P : PM ins outs rows) (hb : ∀ b ∈ bs, b.length = ins) (hl : bs.length ≤ 100000) : Fr_plain_run [plD ins outs rows, .frl (bs.map sW)] S = .ok (.ref S.length) (S ++ [.lst ((prun rows 0 bs).map sW)]) := by
  unfold Fr_plain_run
  refine fn_new (sWs_blw (k := S.length) (bs := prun rows 0 bs)) ?_
  unfold br_plain_run
  have x0 : ∀ {S : Sto}, Wp (ixD (plD ins outs rows) (.int 0) S) = Wp (.ok (.int ((ins : Nat) : Int)) S) := rfl
  simp only [z6, z4, wq_a, wq_b, wq_c, wq_d, wq_e, wq_f, wq_g, Int.reduceToNat, Int.reduceLE, Int.reduceLT, Int.reduceNeg, startD, List.replicate, Nat.reduceAdd, Nat.reduceSub, Nat.reduceEqDiff, if_true, if_false, Int.reduceEq, Int.reduceAdd, Int.reduceSub, Int.reduceMul, eq_self, need_plain_ok P, x0, need_bsp_ok P.i4 hb, deeds_okR P hb hl]
  exact ⟨_, _, rfl, rfl, get_last, Nat.le_refl _⟩

theorem kind_B {S : Sto} {i : Int} : x_kind ⟨3, some [("number", .int i)]⟩ S = .ok (.tup [.str "BadBeat", .int i]) S := by
  unfold x_kind
  rw [if_pos ⟨show 1 ≤ 3 ∧ 3 < 17 by decide, by simp⟩]
  rfl
end Lw

namespace Lw
open PySem PySem.Spec PyProof.Rows L2 DL
abbrev Ex : Type := List Nat × Int
def exD (e : Ex) : D := .tup [.str (W e.1), .int e.2]
def rwD (r : List Ex) : D := .tup (r.map exD)
abbrev Px : Type := Int × (Int × List (List Ex))
def pxD (p : Px) : D := .tup [.int p.1, .int p.2.1, .tup (p.2.2.map rwD)]
structure PxW (c n : Nat) (p : Px) : Prop where
  n : p.2.2.length ≤ n
  r : ∀ r ∈ p.2.2, r.length ≤ c ∧ ∀ e ∈ r, Wok e.1 ∧ e.1.length ≤ c
theorem exD_gd {e : Ex} (h : Wok e.1) : GD 1 (exD e) := gd_tup fun d hd => by
  have : d = .str (W e.1) ∨ d = .int e.2 := by simpa using hd
  rcases this with rfl | rfl
  · exact gd_W h
  · exact gd_int
theorem rwD_gd {r : List Ex} (h : ∀ e ∈ r, Wok e.1) : GD 2 (rwD r) := gd_tup (gd_map fun e he => exD_gd (h e he))
theorem pxD_gd {c n : Nat} {p : Px} (h : PxW c n p) : GD 4 (pxD p) := gd_tup fun d hd => by
  have : d = .int p.1 ∨ d = .int p.2.1 ∨ d = .tup (p.2.2.map rwD) := by simpa using hd
  rcases this with rfl | rfl | rfl
  · exact gd_int
  · exact gd_int
  · exact gd_tup (gd_map fun r hr => rwD_gd fun e he => ((h.r r hr).2 e he).1)
def enB (outs : Int) (many : Nat) (e : Ex) : Bool := isWord e.1 outs [48, 49] && (decide (0 ≤ e.2) && decide (e.2 < ((many : Nat) : Int)))
def cntI (ins : Int) : Int := ([1, 2, 4, 8, 16] : List Int).getD ins.toNat 0
def rowB (ins outs : Int) (many : Nat) (r : List Ex) : Bool := decide (((r.length : Nat) : Int) = cntI ins) && r.all (enB outs many)
def fstP (f : List Ex → Bool) : Nat → List (List Ex) → Option Int
  | _, [] => none
  | i, r :: rs => if f r = true then fstP f (i + 1) rs else some ((i : Nat) : Int)
def rngP (a b n : Int) : Bool := decide (a ≤ n) && decide (n ≤ b)
def plainB (p : Px) : Option Int :=
  if rngP 1 4 p.1 = false then some (-1) else if rngP 1 3 p.2.1 = false then some (-1) else if rngP 1 200 ((p.2.2.length : Nat) : Int) = false then some (-1) else fstP (rowB p.1 p.2.1 p.2.2.length) 0 p.2.2
theorem fstP_pre {f : List Ex → Bool} : ∀ {pre post : List (List Ex)} {n : Nat}, (∀ r ∈ pre, f r = true) → fstP f n (pre ++ post) = fstP f (n + pre.length) post
  | [], _, _, _ => rfl
  | a :: pre, post, n, h => by
    show (if f a = true then fstP f (n + 1) (pre ++ post) else _) = _
    rw [if_pos (h a List.mem_cons_self), fstP_pre fun r hr => h r (List.mem_cons_of_mem _ hr), List.length_cons, show n + 1 + pre.length = n + (pre.length + 1) by omega]
theorem rngP_cases (a b n : Int) : (a ≤ n ∧ n ≤ b ∧ rngP a b n = true) ∨ (¬ a ≤ n ∧ rngP a b n = false) ∨ (a ≤ n ∧ ¬ n ≤ b ∧ rngP a b n = false) := by
  unfold rngP
  by_cases h1 : a ≤ n
  · by_cases h2 : n ≤ b
    · exact .inl ⟨h1, h2, by simp [h1, h2]⟩
    · exact .inr (.inr ⟨h1, h2, by simp [h1, h2]⟩)
  · exact .inr (.inl ⟨h1, by simp [h1]⟩)
theorem at_cnt {ins : Int} (h0 : 0 ≤ ins) (h4 : ins ≤ 4) : atI [D.int 1, .int 2, .int 4, .int 8, .int 16] ins = some (.int (cntI ins)) := by
  have : ins = 0 ∨ ins = 1 ∨ ins = 2 ∨ ins = 3 ∨ ins = 4 := by omega
  rcases this with rfl | rfl | rfl | rfl | rfl <;> rfl
theorem is_rowX_ok {ins outs : Int} {many c : Nat} {r : List Ex} {S : Sto} (i1 : 1 ≤ ins) (i4 : ins ≤ 4) (hc : c ≤ 1000) (hr : r.length ≤ c ∧ ∀ e ∈ r, Wok e.1 ∧ e.1.length ≤ c) :
    F_is_row [.int ins, .int outs, .int ((many : Nat) : Int), rwD r] S = .ok (.bl (rowB ins outs many r)) S := by
  unfold F_is_row
  refine fn_ok rfl ?_
  unfold b_is_row
  simp only [z6, z4, wq_a, wq_b, wq_c, wq_d, wq_e, wq_f, wq_g, Int.reduceToNat, Int.reduceLE, Int.reduceLT, Int.reduceNeg, startD, List.replicate, Nat.reduceAdd, Nat.reduceSub, Nat.reduceEqDiff, if_true, if_false, Int.reduceEq, Int.reduceAdd, Int.reduceSub, Int.reduceMul, eq_self, rwD, List.length_map, at_cnt (show 0 ≤ ins by omega) i4]
  by_cases hl : ((r.length : Nat) : Int) = cntI ins
  · have hcp : dFrz (dComp [4] (iVal (dVar 3)) (gVar 4) (tOrD (tNotD (tstB (dCallF 3 F_is_word (dCons (d2 ixD (dVar 4) (dC (.int 0))) (dCons (dVar 1) (dCons (dC (.str "01")) dNil)))))) (tNotD (d3T leD ltD (dC (.int 0)) (d2 ixD (dVar 4) (dC (.int 1))) (dVar 2)))) (dVar 4)) [some (.int ins), some (.int outs), some (.int ((many : Nat) : Int)), some (.tup (r.map exD)), none] S = .ok (.frl ((r.filter fun e => !enB outs many e).map exD)) S := by
      refine compF r exD (fun e => !enB outs many e) _ ?_ (szn (Nat.le_trans (List.length_filter_le _ _) (by omega))) ?_ ?_
      · simp only [z6, z4, wq_a, wq_b, wq_c, wq_d, wq_e, wq_f, wq_g, Int.reduceToNat, Int.reduceLE, Int.reduceLT, Int.reduceNeg, startD, List.replicate, Nat.reduceAdd, Nat.reduceSub, Nat.reduceEqDiff, if_true, if_false, Int.reduceEq, Int.reduceAdd, Int.reduceSub, Int.reduceMul, eq_self, itemsD]
        exact ⟨trivial, trivial, fun _ _ => rfl⟩
      · intro e he S' _
        obtain ⟨h1, h2⟩ := hr.2 e he
        simp only [z6, z4, wq_a, wq_b, wq_c, wq_d, wq_e, wq_f, wq_g, Int.reduceToNat, Int.reduceLE, Int.reduceLT, Int.reduceNeg, startD, List.replicate, Nat.reduceAdd, Nat.reduceSub, Nat.reduceEqDiff, if_true, if_false, Int.reduceEq, Int.reduceAdd, Int.reduceSub, Int.reduceMul, eq_self, wipeD, exD, W_01]
        rw [is_word_ok h1 (by omega)]
        unfold enB
        cases hw : isWord e.1 outs [48, 49] with
        | false =>
          simp only [z6, z4, wq_a, wq_b, wq_c, wq_d, wq_e, wq_f, wq_g, Int.reduceToNat, Int.reduceLE, Int.reduceLT, Int.reduceNeg, startD, List.replicate, Nat.reduceAdd, Nat.reduceSub, Nat.reduceEqDiff, if_true, if_false, Int.reduceEq, Int.reduceAdd, Int.reduceSub, Int.reduceMul, eq_self]
          exact ⟨trivial, trivial, by simp, fun _ => ⟨trivial, trivial⟩⟩
        | true =>
          simp only [z6, z4, wq_a, wq_b, wq_c, wq_d, wq_e, wq_f, wq_g, Int.reduceToNat, Int.reduceLE, Int.reduceLT, Int.reduceNeg, startD, List.replicate, Nat.reduceAdd, Nat.reduceSub, Nat.reduceEqDiff, if_true, if_false, Int.reduceEq, Int.reduceAdd, Int.reduceSub, Int.reduceMul, eq_self]
          by_cases z1 : 0 ≤ e.2
          · by_cases z2 : e.2 < ((many : Nat) : Int)
            · simp only [z6, z4, wq_a, wq_b, wq_c, wq_d, wq_e, wq_f, wq_g, Int.reduceToNat, Int.reduceLE, Int.reduceLT, Int.reduceNeg, startD, List.replicate, Nat.reduceAdd, Nat.reduceSub, Nat.reduceEqDiff, if_true, if_false, Int.reduceEq, Int.reduceAdd, Int.reduceSub, Int.reduceMul, eq_self, z1, z2]
              exact ⟨trivial, trivial, by simp, fun z => by simp at z⟩
            · simp only [z6, z4, wq_a, wq_b, wq_c, wq_d, wq_e, wq_f, wq_g, Int.reduceToNat, Int.reduceLE, Int.reduceLT, Int.reduceNeg, startD, List.replicate, Nat.reduceAdd, Nat.reduceSub, Nat.reduceEqDiff, if_true, if_false, Int.reduceEq, Int.reduceAdd, Int.reduceSub, Int.reduceMul, eq_self, z1, decide_eq_false z2]
              exact ⟨trivial, trivial, by simp, fun _ => ⟨trivial, trivial⟩⟩
          · simp only [z6, z4, wq_a, wq_b, wq_c, wq_d, wq_e, wq_f, wq_g, Int.reduceToNat, Int.reduceLE, Int.reduceLT, Int.reduceNeg, startD, List.replicate, Nat.reduceAdd, Nat.reduceSub, Nat.reduceEqDiff, if_true, if_false, Int.reduceEq, Int.reduceAdd, Int.reduceSub, Int.reduceMul, eq_self, decide_eq_false z1]
            exact ⟨trivial, trivial, by simp, fun _ => ⟨trivial, trivial⟩⟩
      · intro e he _
        exact gd_blw _ (exD_gd (hr.2 e he).1)
    simp only [hl, decide_true, Bool.not_true, z6, z4, wq_a, wq_b, wq_c, wq_d, wq_e, wq_f, wq_g, Int.reduceToNat, Int.reduceLE, Int.reduceLT, Int.reduceNeg, startD, List.replicate, Nat.reduceAdd, Nat.reduceSub, Nat.reduceEqDiff, if_true, if_false, Int.reduceEq, Int.reduceAdd, Int.reduceSub, Int.reduceMul, eq_self, hcp]
    rw [w_eqNil (n := 1) fun e he => exD_gd (hr.2 e he).1]
    simp only [z6, z4, wq_a, wq_b, wq_c, wq_d, wq_e, wq_f, wq_g, Int.reduceToNat, Int.reduceLE, Int.reduceLT, Int.reduceNeg, startD, List.replicate, Nat.reduceAdd, Nat.reduceSub, Nat.reduceEqDiff, if_true, if_false, Int.reduceEq, Int.reduceAdd, Int.reduceSub, Int.reduceMul, eq_self]
    refine ⟨?_, zd S⟩
    unfold rowB
    rw [decide_eq_true hl, Bool.true_and]
    congr 2
    funext e
    simp
  · simp only [decide_eq_false hl, Bool.not_false, z6, z4, wq_a, wq_b, wq_c, wq_d, wq_e, wq_f, wq_g, Int.reduceToNat, Int.reduceLE, Int.reduceLT, Int.reduceNeg, startD, List.replicate, Nat.reduceAdd, Nat.reduceSub, Nat.reduceEqDiff, if_true, if_false, Int.reduceEq, Int.reduceAdd, Int.reduceSub, Int.reduceMul, eq_self]
    refine ⟨?_, zd S⟩
    unfold rowB
    rw [decide_eq_false hl]
    rfl
def excP (i : Int) : Exc := ⟨4, some [("number", .int i)]⟩
def resP (r : Option Int) (S : Sto) : Res D := match r with
  | none => .ok .non S
  | some i => .exc (excP i) S
theorem excP_blw {i : Int} {k : Nat} : (excP i).blw k = true := rfl
theorem fn_resP {n : Nat} {b : Sl → Sto → Res Fl} {ds : List D} {S : Sto} {r : Option Int} (h : Wp (b (startD n ds) S) (kFn fun d S' => r = none ∧ d = .non ∧ ∃ T, S' = S ++ T) (fun y S' => ∃ p, r = some p ∧ y = excP p ∧ ∃ T, S' = S ++ T)) : cutF (dFn n b) ds S = resP r S := by
  cases r with
  | none =>
    refine fn_ok rfl (Wp.mono h (fun fl S' h2 => ?_) fun y S' h2 => ?_)
    · cases fl with
      | nx sd => exact h2.2
      | ret d => exact h2.2
      | brk sd => exact h2
      | cnt sd => exact h2
    · obtain ⟨p, e, _⟩ := h2
      cases e
  | some p =>
    refine fn_exc excP_blw (Wp.mono h (fun fl S' h2 => ?_) fun y S' h2 => ?_)
    · cases fl with
      | nx sd => cases h2.1
      | ret d => cases h2.1
      | brk sd => exact h2
      | cnt sd => exact h2
    · obtain ⟨p', e, h3, h4⟩ := h2
      cases e
      exact ⟨h3, h4⟩
theorem need_plainX_ok {c n : Nat} {p : Px} {S : Sto} (hp : PxW c n p) (hc : c ≤ 1000) (hn : n ≤ 1000000) : F_need_plain [pxD p] S = resP (plainB p) S := by
  unfold F_need_plain
  refine fn_resP ?_
  unfold b_need_plain
  have gm : ∀ {sd : Sl} {S : Sto} {Q : Sl → Sto → Prop} {X : Exc → Sto → Prop} {k : List D → Sl → Sto → Res Sl}, Wp (gTupD 3 k (pxD p) sd S) Q X = Wp (k [.int p.1, .int p.2.1, .tup (p.2.2.map rwD)] sd S) Q X := fun {sd S Q X k} => rfl
  have hpn := hp.n
  generalize pxD p = C at gm ⊢
  simp only [z6, z4, wq_a, wq_b, wq_c, wq_d, wq_e, wq_f, wq_g, Int.reduceToNat, Int.reduceLE, Int.reduceLT, Int.reduceNeg, startD, List.replicate, Nat.reduceAdd, Nat.reduceSub, Nat.reduceEqDiff, if_true, if_false, Int.reduceEq, Int.reduceAdd, Int.reduceSub, Int.reduceMul, eq_self, gm, List.length_map]
  unfold plainB
  rcases rngP_cases 1 4 p.1 with ⟨a1, a2, a3⟩ | ⟨a1, a3⟩ | ⟨a1, a2, a3⟩
  · rcases rngP_cases 1 3 p.2.1 with ⟨b1, b2, b3⟩ | ⟨b1, b3⟩ | ⟨b1, b2, b3⟩
    · rcases rngP_cases 1 200 ((p.2.2.length : Nat) : Int) with ⟨c1, c2, c3⟩ | ⟨c1, c3⟩ | ⟨c1, c2, c3⟩
      · simp only [decide_eq_true a1, decide_eq_true a2, decide_eq_true b1, decide_eq_true b2, decide_eq_true c1, decide_eq_true c2, z6, z4, wq_a, wq_b, wq_c, wq_d, wq_e, wq_f, wq_g, Int.reduceToNat, Int.reduceLE, Int.reduceLT, Int.reduceNeg, startD, List.replicate, Nat.reduceAdd, Nat.reduceSub, Nat.reduceEqDiff, if_true, if_false, Int.reduceEq, Int.reduceAdd, Int.reduceSub, Int.reduceMul, eq_self, List.length_map, itemsD]
        rw [if_neg (by rw [a3]; simp), if_neg (by rw [b3]; simp), if_neg (by rw [c3]; simp)]
        refine w_enumP rwD (fun pre sd S' => S' = S ∧ (∀ r ∈ pre, rowB p.1 p.2.1 p.2.2.length r = true) ∧ ∃ a b, sd = [some C, some (.int p.1), some (.int p.2.1), some (.tup (p.2.2.map rwD)), a, b]) p.2.2 (fun _ _ _ _ _ _ => rfl) ⟨rfl, (fun r hr => by cases hr), _, _, rfl⟩ ?_ ?_
        · rintro sd S' ⟨rfl, hall, a, b, rfl⟩
          simp only [z6, z4, wq_a, wq_b, wq_c, wq_d, wq_e, wq_f, wq_g, Int.reduceToNat, Int.reduceLE, Int.reduceLT, Int.reduceNeg, startD, List.replicate, Nat.reduceAdd, Nat.reduceSub, Nat.reduceEqDiff, if_true, if_false, Int.reduceEq, Int.reduceAdd, Int.reduceSub, Int.reduceMul, eq_self]
          refine ⟨?_, trivial, zd _⟩
          have := fstP_pre (f := rowB p.1 p.2.1 p.2.2.length) (pre := p.2.2) (post := []) (n := 0) hall
          rw [List.append_nil] at this
          rw [this]
          rfl
        · rintro pre r post sd S' e ⟨rfl, hall, a, b, rfl⟩
          have hr : r ∈ p.2.2 := by rw [e]; simp
          simp only [z6, z4, wq_a, wq_b, wq_c, wq_d, wq_e, wq_f, wq_g, Int.reduceToNat, Int.reduceLE, Int.reduceLT, Int.reduceNeg, startD, List.replicate, Nat.reduceAdd, Nat.reduceSub, Nat.reduceEqDiff, if_true, if_false, Int.reduceEq, Int.reduceAdd, Int.reduceSub, Int.reduceMul, eq_self, gTupD, List.length_map]
          rw [is_rowX_ok a1 a2 hc (hp.r r hr)]
          cases hb : rowB p.1 p.2.1 p.2.2.length r with
          | true =>
            simp only [z6, z4, wq_a, wq_b, wq_c, wq_d, wq_e, wq_f, wq_g, Int.reduceToNat, Int.reduceLE, Int.reduceLT, Int.reduceNeg, startD, List.replicate, Nat.reduceAdd, Nat.reduceSub, Nat.reduceEqDiff, if_true, if_false, Int.reduceEq, Int.reduceAdd, Int.reduceSub, Int.reduceMul, eq_self]
            refine ⟨by first | rfl | trivial, fun x hx => ?_, _, _, rfl⟩
            rcases List.mem_append.mp hx with h | h
            · exact hall x h
            · rw [List.mem_singleton] at h; rw [h]; exact hb
          | false =>
            simp only [z6, z4, wq_a, wq_b, wq_c, wq_d, wq_e, wq_f, wq_g, Int.reduceToNat, Int.reduceLE, Int.reduceLT, Int.reduceNeg, startD, List.replicate, Nat.reduceAdd, Nat.reduceSub, Nat.reduceEqDiff, if_true, if_false, Int.reduceEq, Int.reduceAdd, Int.reduceSub, Int.reduceMul, eq_self]
            refine ⟨_, ?_, rfl, zd _⟩
            have h1 := fstP_pre (f := rowB p.1 p.2.1 p.2.2.length) (pre := pre) (post := r :: post) (n := 0) hall
            have h2 : fstP (rowB p.1 p.2.1 p.2.2.length) 0 p.2.2 = some ((pre.length : Nat) : Int) := by
              have : p.2.2 = pre ++ r :: post := e
              rw [show fstP (rowB p.1 p.2.1 p.2.2.length) 0 p.2.2 = fstP (rowB p.1 p.2.1 p.2.2.length) 0 (pre ++ r :: post) from congrArg _ this, h1, Nat.zero_add]
              show (if rowB p.1 p.2.1 p.2.2.length r = true then _ else _) = _
              rw [hb]
              rfl
            exact h2
      · simp only [decide_eq_true a1, decide_eq_true a2, decide_eq_true b1, decide_eq_true b2, decide_eq_false c1, z6, z4, wq_a, wq_b, wq_c, wq_d, wq_e, wq_f, wq_g, Int.reduceToNat, Int.reduceLE, Int.reduceLT, Int.reduceNeg, startD, List.replicate, Nat.reduceAdd, Nat.reduceSub, Nat.reduceEqDiff, if_true, if_false, Int.reduceEq, Int.reduceAdd, Int.reduceSub, Int.reduceMul, eq_self, List.length_map]
        rw [if_neg (by rw [a3]; simp), if_neg (by rw [b3]; simp), if_pos c3]
        exact ⟨_, rfl, rfl, zd _⟩
      · simp only [decide_eq_true a1, decide_eq_true a2, decide_eq_true b1, decide_eq_true b2, decide_eq_true c1, decide_eq_false c2, z6, z4, wq_a, wq_b, wq_c, wq_d, wq_e, wq_f, wq_g, Int.reduceToNat, Int.reduceLE, Int.reduceLT, Int.reduceNeg, startD, List.replicate, Nat.reduceAdd, Nat.reduceSub, Nat.reduceEqDiff, if_true, if_false, Int.reduceEq, Int.reduceAdd, Int.reduceSub, Int.reduceMul, eq_self, List.length_map]
        rw [if_neg (by rw [a3]; simp), if_neg (by rw [b3]; simp), if_pos c3]
        exact ⟨_, rfl, rfl, zd _⟩
    · simp only [decide_eq_true a1, decide_eq_true a2, decide_eq_false b1, z6, z4, wq_a, wq_b, wq_c, wq_d, wq_e, wq_f, wq_g, Int.reduceToNat, Int.reduceLE, Int.reduceLT, Int.reduceNeg, startD, List.replicate, Nat.reduceAdd, Nat.reduceSub, Nat.reduceEqDiff, if_true, if_false, Int.reduceEq, Int.reduceAdd, Int.reduceSub, Int.reduceMul, eq_self]
      rw [if_neg (by rw [a3]; simp), if_pos b3]
      exact ⟨_, rfl, rfl, zd _⟩
    · simp only [decide_eq_true a1, decide_eq_true a2, decide_eq_true b1, decide_eq_false b2, z6, z4, wq_a, wq_b, wq_c, wq_d, wq_e, wq_f, wq_g, Int.reduceToNat, Int.reduceLE, Int.reduceLT, Int.reduceNeg, startD, List.replicate, Nat.reduceAdd, Nat.reduceSub, Nat.reduceEqDiff, if_true, if_false, Int.reduceEq, Int.reduceAdd, Int.reduceSub, Int.reduceMul, eq_self]
      rw [if_neg (by rw [a3]; simp), if_pos b3]
      exact ⟨_, rfl, rfl, zd _⟩
  · simp only [decide_eq_false a1, z6, z4, wq_a, wq_b, wq_c, wq_d, wq_e, wq_f, wq_g, Int.reduceToNat, Int.reduceLE, Int.reduceLT, Int.reduceNeg, startD, List.replicate, Nat.reduceAdd, Nat.reduceSub, Nat.reduceEqDiff, if_true, if_false, Int.reduceEq, Int.reduceAdd, Int.reduceSub, Int.reduceMul, eq_self]
    rw [if_pos a3]
    exact ⟨_, rfl, rfl, zd _⟩
  · simp only [decide_eq_true a1, decide_eq_false a2, z6, z4, wq_a, wq_b, wq_c, wq_d, wq_e, wq_f, wq_g, Int.reduceToNat, Int.reduceLE, Int.reduceLT, Int.reduceNeg, startD, List.replicate, Nat.reduceAdd, Nat.reduceSub, Nat.reduceEqDiff, if_true, if_false, Int.reduceEq, Int.reduceAdd, Int.reduceSub, Int.reduceMul, eq_self]
    rw [if_pos a3]
    exact ⟨_, rfl, rfl, zd _⟩

end Lw

namespace Lw
open PySem PySem.Spec PyProof.Rows L2 DL
theorem cutS_drop {w : List Nat} {k : Nat} : cutS (W w) (some ((k : Nat) : Int)) none = W (w.drop k) := by
  unfold cutS
  rw [W_cps, W_len]
  have e : HT.sIx w.length w.length none = w.length := rfl
  have e2 : HT.sIx w.length 0 (some ((k : Nat) : Int)) = min k w.length := by
    show (if ((k : Nat) : Int) < 0 then (((k : Nat) : Int) + (w.length : Int)).toNat else min ((k : Nat) : Int).toNat w.length) = _
    rw [if_neg (by omega)]
    simp
  rw [e, e2]
  show W _ = _
  congr 1
  by_cases h : k ≤ w.length
  · rw [Nat.min_eq_left h, List.take_of_length_le (by simp)]
  · rw [Nat.min_eq_right (by omega), List.drop_eq_nil_of_le (by omega), List.drop_eq_nil_of_le (by omega)]; simp
theorem w_sliceSW {w : List Nat} {lo hi : Option Int} {S : Sto} {Q : D → Sto → Prop} {X : Exc → Sto → Prop} (h : w.length ≤ 16777216) : Wp (sliceD (.str (W w)) lo hi S) Q X = Q (.str (cutS (W w) lo hi)) S := by
  simp only [sliceD]
  rw [w_ite (by rw [W_len]; exact szn h), w_ok]
theorem w_addSW {v w : List Nat} {S : Sto} {Q : D → Sto → Prop} {X : Exc → Sto → Prop} (h : v.length + w.length ≤ 16777216) : Wp (addD (.str (W v)) (.str (W w)) S) Q X = Q (.str (W (v ++ w))) S := by
  simp only [addD]
  rw [w_ite (by rw [W_len, W_len]; exact szn h), w_ok]
  rw [W_app]
theorem W_empty : Str.ofString "" = W [] := by decide +kernel
def repD {α : Type} (n : Nat) (xs : List α) : List α := (List.replicate n xs).flatten
theorem mulT2 {xs : List D} {n : Nat} {S : Sto} {Q : D → Sto → Prop} {X : Exc → Sto → Prop} (hn : n ≤ 1000) (hx : xs.length ≤ 1000) : Wp (mulD (.tup xs) (.int ((n : Nat) : Int)) S) Q X = Q (.tup (repD n xs)) S := by
  have e : mulD (.tup xs) (.int ((n : Nat) : Int)) S = .ok (.tup (repD n xs)) S := by
    simp only [mulD]
    rw [if_pos ⟨mul_okI (by omega) (by omega), szn (by
      rw [Int.toNat_natCast]
      have := Nat.mul_le_mul hx hn
      omega)⟩, Int.toNat_natCast]
    rfl
  rw [e]
  rfl
theorem rep_map {α : Type} {f : α → D} {n : Nat} {l : List α} : repD n (l.map f) = (repD n l).map f := by
  unfold repD
  rw [List.map_flatten, List.map_replicate]
theorem rep_mem {α : Type} {n : Nat} {l : List α} {x : α} (h : x ∈ repD n l) : x ∈ l := by
  unfold repD at h
  obtain ⟨y, hy, hx⟩ := List.mem_flatten.mp h
  rw [List.eq_of_mem_replicate hy] at hx
  exact hx
inductive Sm (S : Sto) : Nat → D → D → Prop where
  | non {n} : Sm S n .non .non
  | int {n i} : Sm S n (.int i) (.int i)
  | str {n s} : PyData.strOk s = true → Sm S n (.str s) (.str s)
  | tup {n xs ys} : xs.length ≤ 1000000000 → xs.length = ys.length → (∀ (i : Nat) (x y : D), xs[i]? = some x → ys[i]? = some y → Sm S n x y) → Sm S (n + 1) (.tup xs) (.tup ys)
  | lst {n x y xs ys} : lsD x S = some xs → lsD y S = some ys → xs.length ≤ 1000000000 → xs.length = ys.length → (∀ (i : Nat) (x y : D), xs[i]? = some x → ys[i]? = some y → Sm S n x y) → Sm S (n + 1) x y
theorem ls_grow {S S' : Sto} {x : D} {xs : List D} (g : Grow S S') (h : lsD x S = some xs) : lsD x S' = some xs := by
  cases x with
  | ref l =>
    unfold lsD at h ⊢
    cases e : S[l]? with
    | none => simp only [e] at h; cases h
    | some o => simp only [g.get e]; simp only [e] at h; exact h
  | frl ys => exact h
  | _ => cases h
theorem Sm.grow {S S' : Sto} (g : Grow S S') {n : Nat} {x y : D} (h : Sm S n x y) : Sm S' n x y := by
  induction h with
  | non => exact .non
  | int => exact .int
  | str h => exact .str h
  | tup h1 h2 _ ih => exact .tup h1 h2 ih
  | lst a b h1 h2 _ ih => exact .lst (ls_grow g a) (ls_grow g b) h1 h2 ih
theorem ls_ix {S : Sto} {x : D} {xs : List D} {i : Nat} {d : D} (h : lsD x S = some xs) (hi : xs[i]? = some d) : ixD x (.int ((i : Nat) : Int)) S = .ok d S := by
  have e : atI xs ((i : Nat) : Int) = some d := by rw [atI_pos (by omega)]; simpa using hi
  cases x with
  | ref l =>
    unfold lsD at h
    cases e1 : S[l]? with
    | none => simp only [e1] at h; cases h
    | some o =>
      cases o with
      | lst zs =>
        simp only [e1] at h
        cases h
        simp only [ixD, e1, e]
      | _ => simp only [e1] at h; cases h
  | frl ys =>
    cases h
    simp only [ixD, e]
  | _ => cases h
theorem ls_len {S : Sto} {x : D} {xs : List D} (h : lsD x S = some xs) : lenD [x] S = .ok (.int ((xs.length : Nat) : Int)) S := by
  cases x with
  | ref l =>
    unfold lsD at h
    cases e1 : S[l]? with
    | none => simp only [e1] at h; cases h
    | some o =>
      cases o with
      | lst zs =>
        simp only [e1] at h
        cases h
        simp only [lenD, e1]
      | _ => simp only [e1] at h; cases h
  | frl ys =>
    cases h
    rfl
  | _ => cases h
theorem ls_ty {S : Sto} {x : D} {xs : List D} (h : lsD x S = some xs) : tyS x S = some "list" := by
  cases x with
  | ref l =>
    unfold lsD at h
    cases e1 : S[l]? with
    | none => simp only [e1] at h; cases h
    | some o =>
      cases o with
      | lst zs => simp only [tyS, e1]
      | _ => simp only [e1] at h; cases h
  | frl ys => rfl
  | _ => cases h
theorem same2_ok : ∀ (n j : Nat) {x y : D} {S : Sto}, Sm S n x y → F__law_same (n + 1 + j) [x, y] S = .ok (.bl true) S := by
  intro n
  induction n with
  | zero =>
    intro j x y S h
    rw [show 0 + 1 + j = j + 1 by omega]
    cases h with
    | non =>
      unfold F__law_same
      refine fn_ok rfl ?_
      unfold b__law_same
      simp only [z6, z4, wq_a, wq_b, wq_c, wq_d, wq_e, wq_f, wq_g, Int.reduceToNat, Int.reduceLE, Int.reduceLT, Int.reduceNeg, startD, List.replicate, Nat.reduceAdd, Nat.reduceSub, Nat.reduceEqDiff, if_true, if_false, Int.reduceEq, Int.reduceAdd, Int.reduceSub, Int.reduceMul, eq_self]
      exact ⟨trivial, zd S⟩
    | int =>
      unfold F__law_same
      refine fn_ok rfl ?_
      unfold b__law_same
      simp only [z6, z4, wq_a, wq_b, wq_c, wq_d, wq_e, wq_f, wq_g, Int.reduceToNat, Int.reduceLE, Int.reduceLT, Int.reduceNeg, startD, List.replicate, Nat.reduceAdd, Nat.reduceSub, Nat.reduceEqDiff, if_true, if_false, Int.reduceEq, Int.reduceAdd, Int.reduceSub, Int.reduceMul, eq_self]
      exact ⟨trivial, zd S⟩
    | str _ =>
      unfold F__law_same
      refine fn_ok rfl ?_
      unfold b__law_same
      simp only [z6, z4, wq_a, wq_b, wq_c, wq_d, wq_e, wq_f, wq_g, Int.reduceToNat, Int.reduceLE, Int.reduceLT, Int.reduceNeg, startD, List.replicate, Nat.reduceAdd, Nat.reduceSub, Nat.reduceEqDiff, if_true, if_false, Int.reduceEq, Int.reduceAdd, Int.reduceSub, Int.reduceMul, eq_self]
      exact ⟨trivial, zd S⟩
  | succ m ih =>
    intro j x y S h
    rw [show m + 1 + 1 + j = (m + 1 + j) + 1 by omega]
    have core : ∀ {xs ys : List D}, (∀ S', Grow S S' → ∀ (i : Nat) (d : D), xs[i]? = some d → ixD x (.int ((i : Nat) : Int)) S' = .ok d S') → (∀ S', Grow S S' → ∀ (i : Nat) (d : D), ys[i]? = some d → ixD y (.int ((i : Nat) : Int)) S' = .ok d S') → lenD [y] S = .ok (.int ((ys.length : Nat) : Int)) S → xs.length ≤ 1000000000 → xs.length = ys.length → (∀ (i : Nat) (x y : D), xs[i]? = some x → ys[i]? = some y → Sm S m x y) →
        dFrz (dComp [2] (iRngD1 (dCall lenD (dCons (dVar 1) dNil))) (gVar 2) (tNotD (tstB (dCallF 2 (F__law_same (m + 1 + j)) (dCons (d2 ixD (dVar 0) (dVar 2)) (dCons (d2 ixD (dVar 1) (dVar 2)) dNil))))) (dVar 2)) [some x, some y, none] S
          = .ok (.frl (((List.range ys.length).filter fun _ => false).map fun i => .int (0 + (i : Nat)))) S := by
      intro xs ys ix iy hlen hsz hll hs
      refine compF (List.range ys.length) (fun i => .int (0 + (i : Nat))) (fun _ => false) _ ?_ (by rw [List.filter_eq_nil_iff.mpr (fun _ _ => by simp)]; exact Nat.zero_le _) ?_ ?_
      · simp only [z6, z4, wq_a, wq_b, wq_c, wq_d, wq_e, wq_f, wq_g, Int.reduceToNat, Int.reduceLE, Int.reduceLT, Int.reduceNeg, startD, List.replicate, Nat.reduceAdd, Nat.reduceSub, Nat.reduceEqDiff, if_true, if_false, Int.reduceEq, Int.reduceAdd, Int.reduceSub, Int.reduceMul, eq_self, hlen]
        rw [w_ite (rng_ok (by omega))]
        simp only [z6, z4, wq_a, wq_b, wq_c, wq_d, wq_e, wq_f, wq_g, Int.reduceToNat, Int.reduceLE, Int.reduceLT, Int.reduceNeg, startD, List.replicate, Nat.reduceAdd, Nat.reduceSub, Nat.reduceEqDiff, if_true, if_false, Int.reduceEq, Int.reduceAdd, Int.reduceSub, Int.reduceMul, eq_self]
        exact ⟨trivial, rng_map, fun _ _ => rfl⟩
      · intro i hi S' g
        have hi' := List.mem_range.mp hi
        have e0 : (0 : Int) + ((i : Nat) : Int) = ((i : Nat) : Int) := by omega
        have hx : xs[i]? = some xs[i] := List.getElem?_eq_getElem (by omega)
        have hy : ys[i]? = some ys[i] := List.getElem?_eq_getElem (by omega)
        simp only [z6, z4, wq_a, wq_b, wq_c, wq_d, wq_e, wq_f, wq_g, Int.reduceToNat, Int.reduceLE, Int.reduceLT, Int.reduceNeg, startD, List.replicate, Nat.reduceAdd, Nat.reduceSub, Nat.reduceEqDiff, if_true, if_false, Int.reduceEq, Int.reduceAdd, Int.reduceSub, Int.reduceMul, eq_self, wipeD, e0, ix S' g i _ hx, iy S' g i _ hy]
        rw [ih j ((hs i _ _ hx hy).grow g)]
        simp only [z6, z4, wq_a, wq_b, wq_c, wq_d, wq_e, wq_f, wq_g, Int.reduceToNat, Int.reduceLE, Int.reduceLT, Int.reduceNeg, startD, List.replicate, Nat.reduceAdd, Nat.reduceSub, Nat.reduceEqDiff, if_true, if_false, Int.reduceEq, Int.reduceAdd, Int.reduceSub, Int.reduceMul, eq_self]
        exact ⟨trivial, trivial, trivial, fun z => by cases z⟩
      · intro i _ _; rfl
    have e0 : ∀ k : Nat, (((List.range k).filter fun _ => false).map fun i => D.int (0 + (i : Nat))) = [] := fun k => by rw [List.filter_eq_nil_iff.mpr (fun _ _ => by simp)]; rfl
    cases h with
    | non => have := ih (j + 1) (x := .non) (y := .non) (S := S) .non; rwa [show m + 1 + (j + 1) = m + 1 + j + 1 by omega] at this
    | @int _ i => have := ih (j + 1) (x := .int i) (y := .int i) (S := S) .int; rw [show m + 1 + (j + 1) = m + 1 + j + 1 by omega] at this; exact this
    | str hs => have := ih (j + 1) (S := S) (.str hs); rw [show m + 1 + (j + 1) = m + 1 + j + 1 by omega] at this; exact this
    | @tup _ xs ys h1 h2 h3 =>
      unfold F__law_same
      refine fn_ok rfl ?_
      unfold b__law_same
      have hl : (((xs.length : Nat) : Int) = ((ys.length : Nat) : Int)) = True := by rw [h2]; simp
      simp only [z6, z4, wq_a, wq_b, wq_c, wq_d, wq_e, wq_f, wq_g, Int.reduceToNat, Int.reduceLE, Int.reduceLT, Int.reduceNeg, startD, List.replicate, Nat.reduceAdd, Nat.reduceSub, Nat.reduceEqDiff, if_true, if_false, Int.reduceEq, Int.reduceAdd, Int.reduceSub, Int.reduceMul, eq_self, hl, core (xs := xs) (ys := ys) (fun S' _ i d hd => by
        have e : atI xs ((i : Nat) : Int) = some d := by rw [atI_pos (by omega)]; simpa using hd
        simp only [ixD, e]) (fun S' _ i d hd => by
        have e : atI ys ((i : Nat) : Int) = some d := by rw [atI_pos (by omega)]; simpa using hd
        simp only [ixD, e]) rfl h1 h2 h3, e0]
      rw [w_eqG gd_nil gd_nil]
      simp only [z6, z4, wq_a, wq_b, wq_c, wq_d, wq_e, wq_f, wq_g, Int.reduceToNat, Int.reduceLE, Int.reduceLT, Int.reduceNeg, startD, List.replicate, Nat.reduceAdd, Nat.reduceSub, Nat.reduceEqDiff, if_true, if_false, Int.reduceEq, Int.reduceAdd, Int.reduceSub, Int.reduceMul, eq_self]
      exact ⟨trivial, zd S⟩
    | @lst _ _ _ xs ys a b h1 h2 h3 =>
      unfold F__law_same
      refine fn_ok rfl ?_
      unfold b__law_same
      have hl : (((xs.length : Nat) : Int) = ((ys.length : Nat) : Int)) = True := by rw [h2]; simp
      simp only [z6, z4, wq_a, wq_b, wq_c, wq_d, wq_e, wq_f, wq_g, Int.reduceToNat, Int.reduceLE, Int.reduceLT, Int.reduceNeg, startD, List.replicate, Nat.reduceAdd, Nat.reduceSub, Nat.reduceEqDiff, if_true, if_false, Int.reduceEq, Int.reduceAdd, Int.reduceSub, Int.reduceMul, eq_self, ls_ty a, ls_ty b, ls_len a, ls_len b, hl, core (xs := xs) (ys := ys) (fun S' g i d hd => ls_ix (ls_grow g a) hd) (fun S' g i d hd => ls_ix (ls_grow g b) hd) (ls_len b) h1 h2 h3, e0]
      rw [w_eqG gd_nil gd_nil]
      simp only [z6, z4, wq_a, wq_b, wq_c, wq_d, wq_e, wq_f, wq_g, Int.reduceToNat, Int.reduceLE, Int.reduceLT, Int.reduceNeg, startD, List.replicate, Nat.reduceAdd, Nat.reduceSub, Nat.reduceEqDiff, if_true, if_false, Int.reduceEq, Int.reduceAdd, Int.reduceSub, Int.reduceMul, eq_self]
      exact ⟨trivial, zd S⟩

theorem sm_gd {S : Sto} : ∀ {n : Nat} {d : D}, SD n d → Sm S n d d
  | n, .str w, h => .str (by cases n <;> exact h)
  | n, .int _, _ => .int
  | n, .non, _ => .non
  | n + 1, .tup ds, h => .tup h.1 rfl fun i x y hx hy => by
    rw [hx] at hy; cases hy
    exact sm_gd (h.2 x (List.mem_of_getElem? hx))
  | n + 1, .frl ds, h => .lst rfl rfl h.1 rfl fun i x y hx hy => by
    rw [hx] at hy; cases hy
    exact sm_gd (h.2 x (List.mem_of_getElem? hx))
  | 0, .tup _, h => h.elim
  | 0, .frl _, h => h.elim
  | 0, .bl _, h => h.elim
  | 0, .ref _, h => h.elim
  | 0, .exn _ _ _ _, h => h.elim
  | _ + 1, .bl _, h => h.elim
  | _ + 1, .ref _, h => h.elim
  | _ + 1, .exn _ _ _ _, h => h.elim
theorem sm_sWs {S : Sto} {x y : D} {bs : List (List Bool)} (hx : lsD x S = some (bs.map sW)) (hy : lsD y S = some (bs.map sW)) (hl : bs.length ≤ 100000) : Sm S 1 x y :=
  .lst hx hy (by rw [List.length_map]; omega) rfl fun i a b ha hb => by
    rw [ha] at hb; cases hb
    obtain ⟨c, _, rfl⟩ := List.mem_map.mp (List.mem_of_getElem? ha)
    exact .str (strOk_W (wB_ok _))
theorem At.set {l r : Nat} {S : Sto} {o : DO} (h : At l S) (n : r ≠ l) : At l (S.set r o) := by
  obtain ⟨x, e, hs⟩ := h
  exact ⟨x, by rw [List.getElem?_set_ne n]; exact e, hs⟩

theorem np_bad {c n : Nat} {p : Px} {i : Int} {S : Sto} (hp : PxW c n p) (hc : c ≤ 1000) (hn : n ≤ 1000000) (hb : plainB p = some i) : F_need_plain [pxD p] S = .exc (excP i) S := by
  rw [need_plainX_ok hp hc hn, hb]
  rfl

theorem need_few_bad {c n : Nat} {p : Px} {i : Int} {S : Sto} {m : D} (hp : PxW c n p) (hc : c ≤ 1000) (hn : n ≤ 1000000) (hb : plainB p = some i) : F_need_few [pxD p, m] S = .exc (excP i) S := by
  unfold F_need_few
  refine fn_exc excP_blw ?_
  unfold b_need_few
  have nb := fun S => np_bad (S := S) hp hc hn hb
  generalize pxD p = M at nb ⊢
  simp only [wq_a, wq_b, wq_c, wq_d, wq_e, wq_f, wq_g, Int.reduceToNat, Int.reduceLE, Int.reduceLT, Int.reduceNeg, startD, List.replicate, Nat.reduceAdd, Nat.reduceSub, Nat.reduceEqDiff, if_true, if_false, Int.reduceEq, Int.reduceAdd, Int.reduceSub, Int.reduceMul, eq_self, nb]
  exact ⟨trivial, zd _⟩

theorem need_pattern_bad {c n : Nat} {p : Px} {i : Int} {S : Sto} {x : D} (hp : PxW c n p) (hc : c ≤ 1000) (hn : n ≤ 1000000) (hb : plainB p = some i) : F_need_pattern [pxD p, x] S = .exc (excP i) S := by
  unfold F_need_pattern
  refine fn_exc excP_blw ?_
  unfold b_need_pattern
  have nb := fun S => np_bad (S := S) hp hc hn hb
  generalize pxD p = M at nb ⊢
  simp only [wq_a, wq_b, wq_c, wq_d, wq_e, wq_f, wq_g, Int.reduceToNat, Int.reduceLE, Int.reduceLT, Int.reduceNeg, startD, List.replicate, Nat.reduceAdd, Nat.reduceSub, Nat.reduceEqDiff, if_true, if_false, Int.reduceEq, Int.reduceAdd, Int.reduceSub, Int.reduceMul, eq_self, nb]
  exact ⟨trivial, zd _⟩

theorem least_bad {c n : Nat} {p : Px} {i : Int} {S : Sto} (hp : PxW c n p) (hc : c ≤ 1000) (hn : n ≤ 1000000) (hb : plainB p = some i) : F_least [pxD p] S = .exc (excP i) S := by
  unfold F_least
  refine fn_exc excP_blw ?_
  unfold b_least
  have nb := fun S => np_bad (S := S) hp hc hn hb
  generalize pxD p = M at nb ⊢
  simp only [wq_a, wq_b, wq_c, wq_d, wq_e, wq_f, wq_g, Int.reduceToNat, Int.reduceLE, Int.reduceLT, Int.reduceNeg, startD, List.replicate, Nat.reduceAdd, Nat.reduceSub, Nat.reduceEqDiff, if_true, if_false, Int.reduceEq, Int.reduceAdd, Int.reduceSub, Int.reduceMul, eq_self, nb]
  exact ⟨trivial, zd _⟩

theorem rules_of_bad {c n : Nat} {p : Px} {i : Int} {S : Sto} (hp : PxW c n p) (hc : c ≤ 1000) (hn : n ≤ 1000000) (hb : plainB p = some i) : F_rules_of [pxD p] S = .exc (excP i) S := by
  unfold F_rules_of
  refine fn_exc excP_blw ?_
  unfold b_rules_of
  have nb := fun S => np_bad (S := S) hp hc hn hb
  generalize pxD p = M at nb ⊢
  simp only [wq_a, wq_b, wq_c, wq_d, wq_e, wq_f, wq_g, Int.reduceToNat, Int.reduceLE, Int.reduceLT, Int.reduceNeg, startD, List.replicate, Nat.reduceAdd, Nat.reduceSub, Nat.reduceEqDiff, if_true, if_false, Int.reduceEq, Int.reduceAdd, Int.reduceSub, Int.reduceMul, eq_self, nb]
  exact ⟨trivial, zd _⟩

theorem trees_bad {c n : Nat} {p : Px} {i : Int} {S : Sto} (hp : PxW c n p) (hc : c ≤ 1000) (hn : n ≤ 1000000) (hb : plainB p = some i) : F_trees [pxD p] S = .exc (excP i) S := by
  unfold F_trees
  refine fn_exc excP_blw ?_
  unfold b_trees
  have nb := fun S => np_bad (S := S) hp hc hn hb
  generalize pxD p = M at nb ⊢
  simp only [wq_a, wq_b, wq_c, wq_d, wq_e, wq_f, wq_g, Int.reduceToNat, Int.reduceLE, Int.reduceLT, Int.reduceNeg, startD, List.replicate, Nat.reduceAdd, Nat.reduceSub, Nat.reduceEqDiff, if_true, if_false, Int.reduceEq, Int.reduceAdd, Int.reduceSub, Int.reduceMul, eq_self, nb]
  exact ⟨trivial, zd _⟩

theorem made_program_bad {c n : Nat} {p : Px} {i : Int} {S : Sto} (hp : PxW c n p) (hc : c ≤ 1000) (hn : n ≤ 1000000) (hb : plainB p = some i) : F_made_program [pxD p] S = .exc (excP i) S := by
  unfold F_made_program
  refine fn_exc excP_blw ?_
  unfold b_made_program
  have nb := fun S => np_bad (S := S) hp hc hn hb
  generalize pxD p = M at nb ⊢
  simp only [wq_a, wq_b, wq_c, wq_d, wq_e, wq_f, wq_g, Int.reduceToNat, Int.reduceLE, Int.reduceLT, Int.reduceNeg, startD, List.replicate, Nat.reduceAdd, Nat.reduceSub, Nat.reduceEqDiff, if_true, if_false, Int.reduceEq, Int.reduceAdd, Int.reduceSub, Int.reduceMul, eq_self, nb]
  exact ⟨trivial, zd _⟩

theorem plain_run_bad {c n : Nat} {p : Px} {i : Int} {S : Sto} {x : D} (hp : PxW c n p) (hc : c ≤ 1000) (hn : n ≤ 1000000) (hb : plainB p = some i) : F_plain_run [pxD p, x] S = .exc (excP i) S := by
  unfold F_plain_run
  refine fn_exc excP_blw ?_
  unfold b_plain_run
  have nb := fun S => np_bad (S := S) hp hc hn hb
  generalize pxD p = M at nb ⊢
  simp only [wq_a, wq_b, wq_c, wq_d, wq_e, wq_f, wq_g, Int.reduceToNat, Int.reduceLE, Int.reduceLT, Int.reduceNeg, startD, List.replicate, Nat.reduceAdd, Nat.reduceSub, Nat.reduceEqDiff, if_true, if_false, Int.reduceEq, Int.reduceAdd, Int.reduceSub, Int.reduceMul, eq_self, nb]
  exact ⟨trivial, zd _⟩

theorem bound_bad {c n : Nat} {p : Px} {i : Int} {S : Sto} {x : D} (hp : PxW c n p) (hc : c ≤ 1000) (hn : n ≤ 1000000) (hb : plainB p = some i) : F_bound [pxD p, x] S = .exc (excP i) S := by
  unfold F_bound
  refine fn_exc excP_blw ?_
  unfold b_bound
  have nb := fun S => np_bad (S := S) hp hc hn hb
  generalize pxD p = M at nb ⊢
  simp only [wq_a, wq_b, wq_c, wq_d, wq_e, wq_f, wq_g, Int.reduceToNat, Int.reduceLE, Int.reduceLT, Int.reduceNeg, startD, List.replicate, Nat.reduceAdd, Nat.reduceSub, Nat.reduceEqDiff, if_true, if_false, Int.reduceEq, Int.reduceAdd, Int.reduceSub, Int.reduceMul, eq_self, nb]
  exact ⟨trivial, zd _⟩

theorem alike1_bad {c n : Nat} {p : Px} {i : Int} {S : Sto} {x : D} (hp : PxW c n p) (hc : c ≤ 1000) (hn : n ≤ 1000000) (hb : plainB p = some i) : F_alike [pxD p, x] S = .exc (excP i) S := by
  unfold F_alike
  refine fn_exc excP_blw ?_
  unfold b_alike
  have nb := fun S => np_bad (S := S) hp hc hn hb
  generalize pxD p = M at nb ⊢
  simp only [wq_a, wq_b, wq_c, wq_d, wq_e, wq_f, wq_g, Int.reduceToNat, Int.reduceLE, Int.reduceLT, Int.reduceNeg, startD, List.replicate, Nat.reduceAdd, Nat.reduceSub, Nat.reduceEqDiff, if_true, if_false, Int.reduceEq, Int.reduceAdd, Int.reduceSub, Int.reduceMul, eq_self, nb]
  exact ⟨trivial, zd _⟩

theorem alike2_bad {c n : Nat} {p : Px} {i : Int} {S : Sto} {ins outs : Nat} {rows : List (List En)} (P : PM ins outs rows) (hp : PxW c n p) (hc : c ≤ 1000) (hn : n ≤ 1000000) (hb : plainB p = some i) : F_alike [plD ins outs rows, pxD p] S = .exc (excP i) S := by
  unfold F_alike
  refine fn_exc excP_blw ?_
  unfold b_alike
  have nb := fun S => np_bad (S := S) hp hc hn hb
  have ng := fun S => need_plain_ok (S := S) P
  generalize pxD p = M at nb ⊢
  generalize plD ins outs rows = G at ng ⊢
  simp only [wq_a, wq_b, wq_c, wq_d, wq_e, wq_f, wq_g, Int.reduceToNat, Int.reduceLE, Int.reduceLT, Int.reduceNeg, startD, List.replicate, Nat.reduceAdd, Nat.reduceSub, Nat.reduceEqDiff, if_true, if_false, Int.reduceEq, Int.reduceAdd, Int.reduceSub, Int.reduceMul, eq_self, nb, ng]
  exact ⟨trivial, zd _⟩

theorem parted_bad {c n : Nat} {p : Px} {i : Int} {S : Sto} (hp : PxW c n p) (hc : c ≤ 1000) (hn : n ≤ 1000000) (hb : plainB p = some i) : F_parted [pxD p] S = .exc (excP i) S := by
  unfold F_parted
  refine fn_exc excP_blw ?_
  unfold b_parted
  have nb := fun S m => need_few_bad (S := S) (m := m) hp hc hn hb
  generalize pxD p = M at nb ⊢
  simp only [wq_a, wq_b, wq_c, wq_d, wq_e, wq_f, wq_g, Int.reduceToNat, Int.reduceLE, Int.reduceLT, Int.reduceNeg, startD, List.replicate, Nat.reduceAdd, Nat.reduceSub, Nat.reduceEqDiff, if_true, if_false, Int.reduceEq, Int.reduceAdd, Int.reduceSub, Int.reduceMul, eq_self, nb]
  exact ⟨trivial, zd _⟩

theorem tour_bad {c n : Nat} {p : Px} {i : Int} {S : Sto} (hp : PxW c n p) (hc : c ≤ 1000) (hn : n ≤ 1000000) (hb : plainB p = some i) : F_tour [pxD p] S = .exc (excP i) S := by
  unfold F_tour
  refine fn_exc excP_blw ?_
  unfold b_tour
  have nb := fun S m => need_few_bad (S := S) (m := m) hp hc hn hb
  generalize pxD p = M at nb ⊢
  simp only [wq_a, wq_b, wq_c, wq_d, wq_e, wq_f, wq_g, Int.reduceToNat, Int.reduceLE, Int.reduceLT, Int.reduceNeg, startD, List.replicate, Nat.reduceAdd, Nat.reduceSub, Nat.reduceEqDiff, if_true, if_false, Int.reduceEq, Int.reduceAdd, Int.reduceSub, Int.reduceMul, eq_self, nb]
  exact ⟨trivial, zd _⟩

theorem tour_paper_bad {c n : Nat} {p : Px} {i : Int} {S : Sto} (hp : PxW c n p) (hc : c ≤ 1000) (hn : n ≤ 1000000) (hb : plainB p = some i) : F_tour_paper [pxD p] S = .exc (excP i) S := by
  unfold F_tour_paper
  refine fn_exc excP_blw ?_
  unfold b_tour_paper
  have nb := fun S m => need_few_bad (S := S) (m := m) hp hc hn hb
  generalize pxD p = M at nb ⊢
  simp only [wq_a, wq_b, wq_c, wq_d, wq_e, wq_f, wq_g, Int.reduceToNat, Int.reduceLE, Int.reduceLT, Int.reduceNeg, startD, List.replicate, Nat.reduceAdd, Nat.reduceSub, Nat.reduceEqDiff, if_true, if_false, Int.reduceEq, Int.reduceAdd, Int.reduceSub, Int.reduceMul, eq_self, nb]
  exact ⟨trivial, zd _⟩

theorem made_circuit_bad {c n : Nat} {p : Px} {i : Int} {S : Sto} (hp : PxW c n p) (hc : c ≤ 1000) (hn : n ≤ 1000000) (hb : plainB p = some i) : F_made_circuit [pxD p] S = .exc (excP i) S := by
  unfold F_made_circuit
  refine fn_exc excP_blw ?_
  unfold b_made_circuit
  have nb := fun S m => need_few_bad (S := S) (m := m) hp hc hn hb
  generalize pxD p = M at nb ⊢
  simp only [wq_a, wq_b, wq_c, wq_d, wq_e, wq_f, wq_g, Int.reduceToNat, Int.reduceLE, Int.reduceLT, Int.reduceNeg, startD, List.replicate, Nat.reduceAdd, Nat.reduceSub, Nat.reduceEqDiff, if_true, if_false, Int.reduceEq, Int.reduceAdd, Int.reduceSub, Int.reduceMul, eq_self, nb]
  exact ⟨trivial, zd _⟩

theorem checks_bad {c n : Nat} {p : Px} {i : Int} {S : Sto} (hp : PxW c n p) (hc : c ≤ 1000) (hn : n ≤ 1000000) (hb : plainB p = some i) : F_checks [pxD p] S = .exc (excP i) S := by
  unfold F_checks
  refine fn_exc excP_blw ?_
  unfold b_checks
  have nb := fun S m => need_few_bad (S := S) (m := m) hp hc hn hb
  generalize pxD p = M at nb ⊢
  simp only [wq_a, wq_b, wq_c, wq_d, wq_e, wq_f, wq_g, Int.reduceToNat, Int.reduceLE, Int.reduceLT, Int.reduceNeg, startD, List.replicate, Nat.reduceAdd, Nat.reduceSub, Nat.reduceEqDiff, if_true, if_false, Int.reduceEq, Int.reduceAdd, Int.reduceSub, Int.reduceMul, eq_self, nb]
  exact ⟨trivial, zd _⟩

theorem need_tests_bad {c n : Nat} {p : Px} {i : Int} {S : Sto} {x : D} (hp : PxW c n p) (hc : c ≤ 1000) (hn : n ≤ 1000000) (hb : plainB p = some i) : F_need_tests [pxD p, x] S = .exc (excP i) S := by
  unfold F_need_tests
  refine fn_exc excP_blw ?_
  unfold b_need_tests
  have nb := fun S m => need_few_bad (S := S) (m := m) hp hc hn hb
  generalize pxD p = M at nb ⊢
  simp only [wq_a, wq_b, wq_c, wq_d, wq_e, wq_f, wq_g, Int.reduceToNat, Int.reduceLE, Int.reduceLT, Int.reduceNeg, startD, List.replicate, Nat.reduceAdd, Nat.reduceSub, Nat.reduceEqDiff, if_true, if_false, Int.reduceEq, Int.reduceAdd, Int.reduceSub, Int.reduceMul, eq_self, nb]
  exact ⟨trivial, zd _⟩

theorem never_bad {c n : Nat} {p : Px} {i : Int} {S : Sto} {x : D} (hp : PxW c n p) (hc : c ≤ 1000) (hn : n ≤ 1000000) (hb : plainB p = some i) : F_never [pxD p, x] S = .exc (excP i) S := by
  unfold F_never
  refine fn_exc excP_blw ?_
  unfold b_never
  have nb := fun S x => need_pattern_bad (S := S) (x := x) hp hc hn hb
  generalize pxD p = M at nb ⊢
  simp only [wq_a, wq_b, wq_c, wq_d, wq_e, wq_f, wq_g, Int.reduceToNat, Int.reduceLE, Int.reduceLT, Int.reduceNeg, startD, List.replicate, Nat.reduceAdd, Nat.reduceSub, Nat.reduceEqDiff, if_true, if_false, Int.reduceEq, Int.reduceAdd, Int.reduceSub, Int.reduceMul, eq_self, nb]
  exact ⟨trivial, zd _⟩

theorem shows_bad {c n : Nat} {p : Px} {i : Int} {S : Sto} {x y : D} (hp : PxW c n p) (hc : c ≤ 1000) (hn : n ≤ 1000000) (hb : plainB p = some i) : F_shows [pxD p, x, y] S = .exc (excP i) S := by
  unfold F_shows
  refine fn_exc excP_blw ?_
  unfold b_shows
  have nb := fun S x => need_pattern_bad (S := S) (x := x) hp hc hn hb
  generalize pxD p = M at nb ⊢
  simp only [wq_a, wq_b, wq_c, wq_d, wq_e, wq_f, wq_g, Int.reduceToNat, Int.reduceLE, Int.reduceLT, Int.reduceNeg, startD, List.replicate, Nat.reduceAdd, Nat.reduceSub, Nat.reduceEqDiff, if_true, if_false, Int.reduceEq, Int.reduceAdd, Int.reduceSub, Int.reduceMul, eq_self, nb]
  exact ⟨trivial, zd _⟩

theorem misses_bad {c n : Nat} {p : Px} {i : Int} {S : Sto} {x : D} (hp : PxW c n p) (hc : c ≤ 1000) (hn : n ≤ 1000000) (hb : plainB p = some i) : F_misses [pxD p, x] S = .exc (excP i) S := by
  unfold F_misses
  refine fn_exc excP_blw ?_
  unfold b_misses
  have nb := fun S x => need_tests_bad (S := S) (x := x) hp hc hn hb
  generalize pxD p = M at nb ⊢
  simp only [wq_a, wq_b, wq_c, wq_d, wq_e, wq_f, wq_g, Int.reduceToNat, Int.reduceLE, Int.reduceLT, Int.reduceNeg, startD, List.replicate, Nat.reduceAdd, Nat.reduceSub, Nat.reduceEqDiff, if_true, if_false, Int.reduceEq, Int.reduceAdd, Int.reduceSub, Int.reduceMul, eq_self, nb]
  exact ⟨trivial, zd _⟩

theorem lean_bad {c n : Nat} {p : Px} {i : Int} {S : Sto} {x : D} (hp : PxW c n p) (hc : c ≤ 1000) (hn : n ≤ 1000000) (hb : plainB p = some i) : F_lean [pxD p, x] S = .exc (excP i) S := by
  unfold F_lean
  refine fn_exc excP_blw ?_
  unfold b_lean
  have nb := fun S x => need_tests_bad (S := S) (x := x) hp hc hn hb
  generalize pxD p = M at nb ⊢
  simp only [wq_a, wq_b, wq_c, wq_d, wq_e, wq_f, wq_g, Int.reduceToNat, Int.reduceLE, Int.reduceLT, Int.reduceNeg, startD, List.replicate, Nat.reduceAdd, Nat.reduceSub, Nat.reduceEqDiff, if_true, if_false, Int.reduceEq, Int.reduceAdd, Int.reduceSub, Int.reduceMul, eq_self, nb]
  exact ⟨trivial, zd _⟩

def badP (i : Int) : D := .tup [.str "BadPlain", .int i]
theorem kind_Pl {S : Sto} {i : Int} : x_kind (excP i) S = .ok (badP i) S := by
  unfold x_kind excP badP
  rw [if_pos ⟨show 1 ≤ 4 ∧ 4 < 17 by decide, by simp⟩]
  rfl
theorem ok_Pl : PyData.strOk (Str.ofString "BadPlain") = true := by decide +kernel
theorem badP_sd {i : Int} : SD 1 (badP i) := sd_tup (fun d hd => by
  have : d = .str "BadPlain" ∨ d = .int i := by simpa [badP] using hd
  rcases this with rfl | rfl
  · exact sd_str ok_Pl
  · exact sd_int) (by simp)
theorem same_P {i : Int} {S : Sto} : F__law_same 40 [badP i, badP i] S = .ok (.bl true) S := same2_ok 1 38 (sm_gd badP_sd)
theorem word_of {w signs : List Nat} {n : Int} (h : isWord w n signs = true) : ((w.length : Nat) : Int) = n ∧ ∀ c ∈ w, c ∈ signs := by
  unfold isWord at h
  rw [Bool.and_eq_true, List.all_eq_true] at h
  exact ⟨of_decide_eq_true h.1, fun c hc => of_decide_eq_true (h.2 c hc)⟩
def enX (e : En) : Ex := (wB e.1, ((e.2 : Nat) : Int))
theorem rowX (r : List En) : rwD (r.map enX) = rowD r := by
  unfold rwD rowD
  rw [List.map_map]
  rfl
theorem plX {ins outs : Nat} {rows : List (List En)} (P : PM ins outs rows) : ∃ p, plD ins outs rows = pxD p ∧ PxW 16 200 p := by
  refine ⟨(((ins : Nat) : Int), ((outs : Nat) : Int), rows.map (List.map enX)), ?_, ?_⟩
  · show D.tup [.int ((ins : Nat) : Int), .int ((outs : Nat) : Int), .tup (rows.map rowD)] = D.tup [.int ((ins : Nat) : Int), .int ((outs : Nat) : Int), .tup ((rows.map (List.map enX)).map rwD)]
    rw [List.map_map]
    rw [show rows.map (rwD ∘ List.map enX) = rows.map rowD from List.map_congr_left fun r _ => rowX r]
  · refine ⟨by show (rows.map (List.map enX)).length ≤ 200; rw [List.length_map]; exact P.n200, fun r hr => ?_⟩
    obtain ⟨q, hq, rfl⟩ := List.mem_map.mp hr
    refine ⟨by rw [List.length_map, P.len q hq]; exact pow_le P.i4, fun e he => ?_⟩
    obtain ⟨x, hx, rfl⟩ := List.mem_map.mp he
    refine ⟨wB_ok _, ?_⟩
    show (wB x.1).length ≤ 16
    rw [wB_len, P.deed q hq x hx]
    have := P.o3
    omega

end Lw

namespace Lw
open PySem PySem.Spec PyProof.Rows L2 DL
theorem cnt_pow {ins : Nat} (h1 : 1 ≤ ins) (h4 : ins ≤ 4) : cntI ((ins : Nat) : Int) = ((2 ^ ins : Nat) : Int) := by
  have : ins = 1 ∨ ins = 2 ∨ ins = 3 ∨ ins = 4 := by omega
  rcases this with rfl | rfl | rfl | rfl <;> rfl
theorem enB_ok {outs many : Nat} {e : En} (h1 : e.1.length = outs) (h2 : e.2 < many) : enB ((outs : Nat) : Int) many (enX e) = true := by
  unfold enB enX
  have w : isWord (wB e.1) ((outs : Nat) : Int) [48, 49] = true := isWord_wB (by rw [h1])
  rw [w, Bool.true_and, Bool.and_eq_true]
  exact ⟨decide_eq_true (by show (0 : Int) ≤ ((e.2 : Nat) : Int); omega), decide_eq_true (by show ((e.2 : Nat) : Int) < ((many : Nat) : Int); omega)⟩
theorem rowB_ok {ins outs : Nat} {rows : List (List En)} (P : PM ins outs rows) {r : List En} (hr : r ∈ rows) : rowB ((ins : Nat) : Int) ((outs : Nat) : Int) rows.length (r.map enX) = true := by
  unfold rowB
  rw [Bool.and_eq_true, List.all_eq_true]
  refine ⟨decide_eq_true (by rw [List.length_map, P.len r hr, cnt_pow P.i1 P.i4]), fun x hx => ?_⟩
  obtain ⟨e, he, rfl⟩ := List.mem_map.mp hx
  exact enB_ok (P.deed r hr e he) (P.nxt r hr e he)
theorem rngP_ok {a b n : Int} (h1 : a ≤ n) (h2 : n ≤ b) : ¬ rngP a b n = false := by
  unfold rngP
  rw [decide_eq_true h1, decide_eq_true h2]
  simp
theorem rngP_no {a b n : Int} (h : n < a ∨ b < n) : rngP a b n = false := by
  unfold rngP
  rw [Bool.and_eq_false_iff]
  by_cases h0 : a ≤ n
  · right; exact decide_eq_false (by omega)
  · left; exact decide_eq_false h0
theorem plain_row {ins outs k : Nat} {rows : List (List En)} {r' : List Ex} (P : PM ins outs rows) (hk : k < rows.length) (hb : rowB ((ins : Nat) : Int) ((outs : Nat) : Int) rows.length r' = false) :
    plainB (((ins : Nat) : Int), ((outs : Nat) : Int), (rows.map (List.map enX)).take k ++ r' :: (rows.map (List.map enX)).drop (k + 1)) = some ((k : Nat) : Int) := by
  have i1 := P.i1
  have i4 := P.i4
  have o1 := P.o1
  have o3 := P.o3
  have n1 := P.n1
  have n2 := P.n200
  have hl : ((rows.map (List.map enX)).take k ++ r' :: (rows.map (List.map enX)).drop (k + 1)).length = rows.length := by simp; omega
  unfold plainB
  rw [if_neg (rngP_ok (by show (1 : Int) ≤ ((ins : Nat) : Int); omega) (by show ((ins : Nat) : Int) ≤ 4; omega)), if_neg (rngP_ok (by show (1 : Int) ≤ ((outs : Nat) : Int); omega) (by show ((outs : Nat) : Int) ≤ 3; omega))]
  show (if rngP 1 200 ((((rows.map (List.map enX)).take k ++ r' :: (rows.map (List.map enX)).drop (k + 1)).length : Nat) : Int) = false then _ else fstP (rowB _ _ ((rows.map (List.map enX)).take k ++ r' :: (rows.map (List.map enX)).drop (k + 1)).length) 0 ((rows.map (List.map enX)).take k ++ r' :: (rows.map (List.map enX)).drop (k + 1))) = _
  rw [hl, if_neg (rngP_ok (by omega) (by omega)), fstP_pre (fun r hr => by
    obtain ⟨q, hq, rfl⟩ := List.mem_map.mp (List.mem_of_mem_take hr)
    exact rowB_ok P hq)]
  show (if rowB _ _ _ r' = true then _ else some (((0 + ((rows.map (List.map enX)).take k).length : Nat)) : Int)) = _
  rw [hb]
  show some (((0 + ((rows.map (List.map enX)).take k).length : Nat)) : Int) = _
  rw [List.length_take, List.length_map, Nat.min_eq_left (by omega), Nat.zero_add]
theorem rows_X {rows : List (List En)} : (rows.map (List.map enX)).map rwD = rows.map rowD := by
  rw [List.map_map]
  exact List.map_congr_left fun r _ => rowX r
theorem ens_X {r : List En} : (r.map enX).map exD = r.map enD := by
  rw [List.map_map]
  rfl
theorem at_rowD {rows : List (List En)} {k : Nat} {r : List En} (h : rows[k]? = some r) : atI (rows.map rowD) ((k : Nat) : Int) = some (rowD r) := by
  rw [atI_pos (by omega)]
  simp [h]
theorem W_mi : Str.ofString "-" = W [45] := by decide +kernel
theorem W_ze : Str.ofString "0" = W [48] := by decide +kernel
theorem law_odd_ok {l ins outs : Nat} {rows : List (List En)} {S : Sto} (h : At l S) (P : PM ins outs rows) : Gn l S (F__law_odd [.ref l, plD ins outs rows] S) (fun d => ∃ p i, d = .tup [pxD p, .int i] ∧ PxW 20 300 p ∧ plainB p = some i) := by
  have fin : ∀ {S' : Sto} {d : D} (p : Px) (i : Int), Dr l S S' → d = .tup [pxD p, .int i] → PxW 20 300 p → plainB p = some i → ∃ S1 T, S' = S1 ++ T ∧ Dr l S S1 ∧ d.blw S.length = true ∧ ∃ p i, d = .tup [pxD p, .int i] ∧ PxW 20 300 p ∧ plainB p = some i := fun {S' d} p i hd e hp hb => by
    subst e
    refine Dr.out (P := fun d => ∃ p i, d = .tup [pxD p, .int i] ∧ PxW 20 300 p ∧ plainB p = some i) hd (gd_blw (n := 5) _ (gd_tup fun d hd => ?_)) ⟨p, i, rfl, hp, hb⟩
    have : d = pxD p ∨ d = .int i := by simpa using hd
    rcases this with rfl | rfl
    · exact pxD_gd hp
    · exact gd_int
  have i1 := P.i1
  have i4 := P.i4
  have o1 := P.o1
  have o3 := P.o3
  have n1 := P.n1
  have n2 := P.n200
  have p16 := pow_le i4
  have gm : ∀ {sd : Sl} {S : Sto} {Q : Sl → Sto → Prop} {X : Exc → Sto → Prop} {k : List D → Sl → Sto → Res Sl}, Wp (gTupD 3 k (plD ins outs rows) sd S) Q X = Wp (k [.int ((ins : Nat) : Int), .int ((outs : Nat) : Int), .tup (rows.map rowD)] sd S) Q X := fun {sd S Q X k} => rfl
  have rowW : ∀ r ∈ rows, (r.map enX).length ≤ 20 ∧ ∀ e ∈ r.map enX, Wok e.1 ∧ e.1.length ≤ 20 := fun r hr => ⟨by rw [List.length_map, P.len r hr]; omega, fun x hx => by
    obtain ⟨e, he, rfl⟩ := List.mem_map.mp hx
    refine ⟨wB_ok _, ?_⟩
    show (wB e.1).length ≤ 20
    rw [wB_len, P.deed r hr e he]
    omega⟩
  have rowsW : ∀ r ∈ rows.map (List.map enX), r.length ≤ 20 ∧ ∀ e ∈ r, Wok e.1 ∧ e.1.length ≤ 20 := fun r hr => by
    obtain ⟨q, hq, rfl⟩ := List.mem_map.mp hr
    exact rowW q hq
  unfold F__law_odd
  refine fn_gn ?_
  unfold b__law_odd
  generalize plD ins outs rows = M at gm ⊢
  simp only [z6, z4, wq_a, wq_b, wq_c, wq_d, wq_e, wq_f, wq_g, Int.reduceToNat, Int.reduceLE, Int.reduceLT, Int.reduceNeg, startD, List.replicate, Nat.reduceAdd, Nat.reduceSub, Nat.reduceEqDiff, if_true, if_false, Int.reduceEq, Int.reduceAdd, Int.reduceSub, Int.reduceMul, eq_self, gm]
  refine (draw h).w ?_
  rintro _ S1 d1 ⟨v, rfl, v0, v1⟩
  simp only [z6, z4, wq_a, wq_b, wq_c, wq_d, wq_e, wq_f, wq_g, Int.reduceToNat, Int.reduceLE, Int.reduceLT, Int.reduceNeg, startD, List.replicate, Nat.reduceAdd, Nat.reduceSub, Nat.reduceEqDiff, if_true, if_false, Int.reduceEq, Int.reduceAdd, Int.reduceSub, Int.reduceMul, eq_self]
  have m201 := fun (S : Sto) (Q : D → Sto → Prop) (X : Exc → Sto → Prop) => mulT2 (xs := rows.map rowD) (n := 201) (S := S) (Q := Q) (X := X) (by omega) (by simp; omega)
  rw [show (((201 : Nat) : Nat) : Int) = 201 from rfl] at m201
  have c201 : ∀ {ds : List D}, cutL ds none (some 201) = ds.take 201 := fun {ds} => cut_take (k := 201)
  have c1 : ∀ {ds : List D}, cutL ds none (some 1) = ds.take 1 := fun {ds} => cut_take (k := 1)
  by_cases a0 : v = 0
  · simp only [decide_eq_true a0, z6, z4, wq_a, wq_b, wq_c, wq_d, wq_e, wq_f, wq_g, Int.reduceToNat, Int.reduceLE, Int.reduceLT, Int.reduceNeg, startD, List.replicate, Nat.reduceAdd, Nat.reduceSub, Nat.reduceEqDiff, if_true, if_false, Int.reduceEq, Int.reduceAdd, Int.reduceSub, Int.reduceMul, eq_self]
    refine (far_ok d1.at).w ?_
    rintro _ S2 d2 ⟨f1, rfl, hf1⟩
    simp only [z6, z4, wq_a, wq_b, wq_c, wq_d, wq_e, wq_f, wq_g, Int.reduceToNat, Int.reduceLE, Int.reduceLT, Int.reduceNeg, startD, List.replicate, Nat.reduceAdd, Nat.reduceSub, Nat.reduceEqDiff, if_true, if_false, Int.reduceEq, Int.reduceAdd, Int.reduceSub, Int.reduceMul, eq_self]
    refine (far_ok d2.at).w ?_
    rintro _ S3 d3 ⟨f2, rfl, hf2⟩
    simp only [z6, z4, wq_a, wq_b, wq_c, wq_d, wq_e, wq_f, wq_g, Int.reduceToNat, Int.reduceLE, Int.reduceLT, Int.reduceNeg, startD, List.replicate, Nat.reduceAdd, Nat.reduceSub, Nat.reduceEqDiff, if_true, if_false, Int.reduceEq, Int.reduceAdd, Int.reduceSub, Int.reduceMul, eq_self, w_dFrz, m201, w_frzT, w_sliceFT, c201]
    refine (draw d3.at (many := 4)).w ?_
    rintro _ S4 d4 ⟨z, rfl, z0, z1⟩
    have hd := ((d1.trans d2).trans d3).trans d4
    have big : ∀ xs : List (List Ex), (xs.length = 0 ∨ xs.length = 201) → plainB (((ins : Nat) : Int), ((outs : Nat) : Int), xs) = some (-1) := fun xs hx => by
      unfold plainB
      rw [if_neg (rngP_ok (by show (1 : Int) ≤ ((ins : Nat) : Int); omega) (by show ((ins : Nat) : Int) ≤ 4; omega)), if_neg (rngP_ok (by show (1 : Int) ≤ ((outs : Nat) : Int); omega) (by show ((outs : Nat) : Int) ≤ 3; omega)), if_pos (rngP_no (show ((xs.length : Nat) : Int) < 1 ∨ 200 < ((xs.length : Nat) : Int) by omega))]
    have lenW : (rows.map (List.map enX)).length ≤ 300 := by simp; omega
    have : z = 0 ∨ z = 1 ∨ z = 2 ∨ z = 3 := by omega
    rcases this with rfl | rfl | rfl | rfl
    · simp only [z6, z4, wq_a, wq_b, wq_c, wq_d, wq_e, wq_f, wq_g, Int.reduceToNat, Int.reduceLE, Int.reduceLT, Int.reduceNeg, startD, List.replicate, Nat.reduceAdd, Nat.reduceSub, Nat.reduceEqDiff, if_true, if_false, Int.reduceEq, Int.reduceAdd, Int.reduceSub, Int.reduceMul, eq_self]
      refine fin (f1, ((outs : Nat) : Int), rows.map (List.map enX)) (-1) hd (by unfold pxD; rw [rows_X]) ⟨lenW, rowsW⟩ ?_
      unfold plainB
      rw [if_pos (rngP_no hf1)]
    · simp only [z6, z4, wq_a, wq_b, wq_c, wq_d, wq_e, wq_f, wq_g, Int.reduceToNat, Int.reduceLE, Int.reduceLT, Int.reduceNeg, startD, List.replicate, Nat.reduceAdd, Nat.reduceSub, Nat.reduceEqDiff, if_true, if_false, Int.reduceEq, Int.reduceAdd, Int.reduceSub, Int.reduceMul, eq_self]
      refine fin (((ins : Nat) : Int), f2, rows.map (List.map enX)) (-1) hd (by unfold pxD; rw [rows_X]) ⟨lenW, rowsW⟩ ?_
      unfold plainB
      rw [if_neg (rngP_ok (by show (1 : Int) ≤ ((ins : Nat) : Int); omega) (by show ((ins : Nat) : Int) ≤ 4; omega)), if_pos (rngP_no hf2)]
    · simp only [z6, z4, wq_a, wq_b, wq_c, wq_d, wq_e, wq_f, wq_g, Int.reduceToNat, Int.reduceLE, Int.reduceLT, Int.reduceNeg, startD, List.replicate, Nat.reduceAdd, Nat.reduceSub, Nat.reduceEqDiff, if_true, if_false, Int.reduceEq, Int.reduceAdd, Int.reduceSub, Int.reduceMul, eq_self]
      exact fin (((ins : Nat) : Int), ((outs : Nat) : Int), []) (-1) hd rfl ⟨by simp, fun r hr => by cases hr⟩ (big [] (.inl rfl))
    · simp only [z6, z4, wq_a, wq_b, wq_c, wq_d, wq_e, wq_f, wq_g, Int.reduceToNat, Int.reduceLE, Int.reduceLT, Int.reduceNeg, startD, List.replicate, Nat.reduceAdd, Nat.reduceSub, Nat.reduceEqDiff, if_true, if_false, Int.reduceEq, Int.reduceAdd, Int.reduceSub, Int.reduceMul, eq_self]
      refine fin (((ins : Nat) : Int), ((outs : Nat) : Int), (repD 201 (rows.map (List.map enX))).take 201) (-1) hd ?_ ⟨by simp; omega, fun r hr => rowsW r (rep_mem (List.mem_of_mem_take hr))⟩ (big _ (.inr ?_))
      · unfold pxD
        rw [List.map_take, ← rep_map, rows_X]
      · rw [List.length_take]
        unfold repD
        simp
        omega
  simp only [decide_eq_false a0, z6, z4, wq_a, wq_b, wq_c, wq_d, wq_e, wq_f, wq_g, Int.reduceToNat, Int.reduceLE, Int.reduceLT, Int.reduceNeg, startD, List.replicate, Nat.reduceAdd, Nat.reduceSub, Nat.reduceEqDiff, if_true, if_false, Int.reduceEq, Int.reduceAdd, Int.reduceSub, Int.reduceMul, eq_self, List.length_map]
  refine (draw d1.at (many := ((rows.length : Nat) : Int))).w ?_
  rintro _ S2 d2 ⟨q, rfl, q0, q1⟩
  obtain ⟨k, rfl⟩ : ∃ k : Nat, q = ((k : Nat) : Int) := ⟨q.toNat, by omega⟩
  have hk : k < rows.length := by omega
  obtain ⟨r, hr⟩ : ∃ r, rows[k]? = some r := ⟨_, List.getElem?_eq_getElem hk⟩
  have hrm := List.mem_of_getElem? hr
  have hrl := P.len r hrm
  have hk1 : ((k : Nat) : Int) + 1 = ((k + 1 : Nat) : Int) := by omega
  obtain ⟨e, r2, rfl⟩ : ∃ e r2, r = e :: r2 := by
    cases r with
    | nil =>
      have : 0 < 2 ^ ins := Nat.two_pow_pos _
      simp at hrl
      omega
    | cons e r2 => exact ⟨e, r2, rfl⟩
  have hde := P.deed _ hrm e (by simp)
  have hnx := P.nxt _ hrm e (by simp)
  have hd2 := d1.trans d2
  have lwB : (wB e.1).length = e.1.length := wB_len e.1
  have ex2 : rowD (e :: r2) = .tup (.tup [.str (W (wB e.1)), .int ((e.2 : Nat) : Int)] :: r2.map enD) := rfl
  have s1 : ∀ {S : Sto} {Q : D → Sto → Prop} {X : Exc → Sto → Prop}, Wp (sliceD (.str (W (wB e.1))) (some 1) none S) Q X = Q (.str (W ((wB e.1).drop 1))) S := fun {S Q X} => by
    rw [w_sliceSW (by rw [wB_len]; omega), show (some (1 : Int)) = some (((1 : Nat) : Nat) : Int) from rfl, cutS_drop]
  simp only [z6, z4, wq_a, wq_b, wq_c, wq_d, wq_e, wq_f, wq_g, Int.reduceToNat, Int.reduceLE, Int.reduceLT, Int.reduceNeg, startD, List.replicate, Nat.reduceAdd, Nat.reduceSub, Nat.reduceEqDiff, if_true, if_false, Int.reduceEq, Int.reduceAdd, Int.reduceSub, Int.reduceMul, eq_self, at_rowD hr, ex2, gTupD, W_empty, W_ze, W_mi, s1]
  rw [w_addSW (by rw [wB_len]; simp; omega)]
  simp only [z6, z4, wq_a, wq_b, wq_c, wq_d, wq_e, wq_f, wq_g, Int.reduceToNat, Int.reduceLE, Int.reduceLT, Int.reduceNeg, startD, List.replicate, Nat.reduceAdd, Nat.reduceSub, Nat.reduceEqDiff, if_true, if_false, Int.reduceEq, Int.reduceAdd, Int.reduceSub, Int.reduceMul, eq_self, W_empty, W_ze, W_mi, s1]
  rw [w_addSW (by simp; omega)]
  simp only [z6, z4, wq_a, wq_b, wq_c, wq_d, wq_e, wq_f, wq_g, Int.reduceToNat, Int.reduceLE, Int.reduceLT, Int.reduceNeg, startD, List.replicate, Nat.reduceAdd, Nat.reduceSub, Nat.reduceEqDiff, if_true, if_false, Int.reduceEq, Int.reduceAdd, Int.reduceSub, Int.reduceMul, eq_self, List.length_map]
  refine (far_ok d2.at).w ?_
  rintro _ S3 d3 ⟨f, rfl, hf⟩
  simp only [z6, z4, wq_a, wq_b, wq_c, wq_d, wq_e, wq_f, wq_g, Int.reduceToNat, Int.reduceLE, Int.reduceLT, Int.reduceNeg, startD, List.replicate, Nat.reduceAdd, Nat.reduceSub, Nat.reduceEqDiff, if_true, if_false, Int.reduceEq, Int.reduceAdd, Int.reduceSub, Int.reduceMul, eq_self, w_sliceFT, c1, cut_drop1]
  have dr1 : ∀ {d : D} {ds : List D}, (d :: ds).drop 1 = ds := fun {d ds} => rfl
  have tk1 : ∀ {d : D} {ds : List D}, (d :: ds).take 1 = [d] := fun {d ds} => rfl
  simp only [dr1, tk1]
  rw [w_ite (szn (by simp at hrl ⊢; omega))]
  simp only [z6, z4, wq_a, wq_b, wq_c, wq_d, wq_e, wq_f, wq_g, Int.reduceToNat, Int.reduceLE, Int.reduceLT, Int.reduceNeg, startD, List.replicate, Nat.reduceAdd, Nat.reduceSub, Nat.reduceEqDiff, if_true, if_false, Int.reduceEq, Int.reduceAdd, Int.reduceSub, Int.reduceMul, eq_self, w_sliceFT, c1, cut_drop1, dr1, tk1]
  refine (draw d3.at (many := 4)).w ?_
  rintro _ S4 d4 ⟨u, rfl, u0, u1⟩
  have hd4 := (hd2.trans d3).trans d4
  obtain ⟨bd, hbd, bdW, bdN⟩ : ∃ bd : Ex, atI [D.tup [.str (W []), .int ((e.2 : Nat) : Int)], .tup [.str (W (wB e.1 ++ [48])), .int ((e.2 : Nat) : Int)], .tup [.str (W ((wB e.1).drop 1 ++ [45])), .int ((e.2 : Nat) : Int)], .tup [.str (W (wB e.1)), .int f]] u = some (exD bd) ∧ (Wok bd.1 ∧ bd.1.length ≤ 20) ∧ enB ((outs : Nat) : Int) rows.length bd = false := by
    have nw : ∀ (w : List Nat) (i : Int), (((w.length : Nat) : Int) ≠ ((outs : Nat) : Int) ∨ ∃ c ∈ w, c ∉ [48, 49]) → enB ((outs : Nat) : Int) rows.length (w, i) = false := fun w i hw => by
      unfold enB
      have : isWord w ((outs : Nat) : Int) [48, 49] = false := by
        cases ew : isWord w ((outs : Nat) : Int) [48, 49] with
        | false => rfl
        | true =>
          obtain ⟨q1, q2⟩ := word_of ew
          rcases hw with hw | ⟨c, hc, hn⟩
          · exact absurd q1 hw
          · exact absurd (q2 c hc) hn
      show (isWord w _ _ && _) = false
      rw [this, Bool.false_and]
    have okw := wB_ok e.1
    have lw : (wB e.1).length = outs := by rw [wB_len, hde]
    have : u = 0 ∨ u = 1 ∨ u = 2 ∨ u = 3 := by omega
    rcases this with rfl | rfl | rfl | rfl
    · exact ⟨([], ((e.2 : Nat) : Int)), rfl, ⟨fun c hc => (by cases hc), by simp⟩, nw _ _ (.inl (by simp; omega))⟩
    · refine ⟨(wB e.1 ++ [48], ((e.2 : Nat) : Int)), rfl, ⟨fun c hc => ?_, by simp; omega⟩, nw _ _ (.inl (by show (((wB e.1 ++ [48]).length : Nat) : Int) ≠ _; rw [List.length_append, lw]; simp; omega))⟩
      rcases List.mem_append.mp hc with h | h
      · exact okw c h
      · rw [List.mem_singleton] at h; rw [h]; decide
    · refine ⟨((wB e.1).drop 1 ++ [45], ((e.2 : Nat) : Int)), rfl, ⟨fun c hc => ?_, by simp; omega⟩, nw _ _ (.inr ⟨45, by simp, by decide⟩)⟩
      rcases List.mem_append.mp hc with h | h
      · exact okw c (List.mem_of_mem_drop h)
      · rw [List.mem_singleton] at h; rw [h]; decide
    · refine ⟨(wB e.1, f), rfl, ⟨okw, by show (wB e.1).length ≤ 20; omega⟩, ?_⟩
      unfold enB
      rw [Bool.and_eq_false_iff]
      right
      rw [Bool.and_eq_false_iff]
      by_cases h0 : 0 ≤ f
      · right; exact decide_eq_false (show ¬ f < ((rows.length : Nat) : Int) by omega)
      · left; exact decide_eq_false (show ¬ 0 ≤ f from h0)
  simp only [z6, z4, wq_a, wq_b, wq_c, wq_d, wq_e, wq_f, wq_g, Int.reduceToNat, Int.reduceLE, Int.reduceLT, Int.reduceNeg, startD, List.replicate, Nat.reduceAdd, Nat.reduceSub, Nat.reduceEqDiff, if_true, if_false, Int.reduceEq, Int.reduceAdd, Int.reduceSub, Int.reduceMul, eq_self, hbd, w_sliceFT, c1, cut_drop1, dr1, tk1]
  first
    | rw [w_ite (szn (by simp at hrl ⊢; omega))]
      simp only [z6, z4, wq_a, wq_b, wq_c, wq_d, wq_e, wq_f, wq_g, Int.reduceToNat, Int.reduceLE, Int.reduceLT, Int.reduceNeg, startD, List.replicate, Nat.reduceAdd, Nat.reduceSub, Nat.reduceEqDiff, if_true, if_false, Int.reduceEq, Int.reduceAdd, Int.reduceSub, Int.reduceMul, eq_self]
    | skip
  refine (draw d4.at (many := 4)).w ?_
  rintro _ S5 d5 ⟨z, rfl, z0, z1⟩
  have hd5 := hd4.trans d5
  have c16 : cntI ((ins : Nat) : Int) = ((2 ^ ins : Nat) : Int) := cnt_pow i1 i4
  have r20 := rowW _ hrm
  obtain ⟨r', hr', r'W, r'N⟩ : ∃ r' : List Ex, atI [D.tup (.tup [.str (W (wB e.1)), .int ((e.2 : Nat) : Int)] :: (r2.map enD ++ [.tup [.str (W (wB e.1)), .int ((e.2 : Nat) : Int)]])), .tup (r2.map enD), .tup (exD bd :: r2.map enD), .tup []] z = some (.tup (r'.map exD)) ∧ (r'.length ≤ 20 ∧ ∀ x ∈ r', Wok x.1 ∧ x.1.length ≤ 20) ∧ rowB ((ins : Nat) : Int) ((outs : Nat) : Int) rows.length r' = false := by
    have nl : ∀ r' : List Ex, r'.length ≠ 2 ^ ins → rowB ((ins : Nat) : Int) ((outs : Nat) : Int) rows.length r' = false := fun r' hl => by
      unfold rowB
      rw [c16, decide_eq_false (by omega), Bool.false_and]
    have hrl' : r2.length + 1 = 2 ^ ins := by simpa using hrl
    have r2W : ∀ x ∈ r2.map enX, Wok x.1 ∧ x.1.length ≤ 20 := fun x hx => r20.2 x (by rw [List.map_cons]; exact List.mem_cons_of_mem _ hx)
    have eW := r20.2 (enX e) (by simp)
    have : z = 0 ∨ z = 1 ∨ z = 2 ∨ z = 3 := by omega
    rcases this with rfl | rfl | rfl | rfl
    · refine ⟨enX e :: (r2.map enX ++ [enX e]), ?_, ⟨by simp; omega, fun x hx => ?_⟩, nl _ (by simp; omega)⟩
      · show some (D.tup _) = some (D.tup _)
        rw [List.map_cons, List.map_append, ens_X]
        rfl
      · rcases List.mem_cons.mp hx with rfl | hx
        · exact eW
        · rcases List.mem_append.mp hx with h | h
          · exact r2W x h
          · rw [List.mem_singleton] at h; rw [h]; exact eW
    · refine ⟨r2.map enX, ?_, ⟨by simp; omega, r2W⟩, nl _ (by simp; omega)⟩
      show some (D.tup _) = some (D.tup _)
      rw [ens_X]
    · refine ⟨bd :: r2.map enX, ?_, ⟨by simp; omega, fun x hx => ?_⟩, ?_⟩
      · show some (D.tup _) = some (D.tup _)
        rw [List.map_cons, ens_X]
      · rcases List.mem_cons.mp hx with rfl | hx
        · exact bdW
        · exact r2W x hx
      · unfold rowB
        rw [List.all_cons, bdN, Bool.false_and, Bool.and_false]
    · exact ⟨[], rfl, ⟨by simp, fun x hx => by cases hx⟩, nl _ (by have : 0 < 2 ^ ins := Nat.two_pow_pos _; simp; omega)⟩
  simp only [z6, z4, wq_a, wq_b, wq_c, wq_d, wq_e, wq_f, wq_g, Int.reduceToNat, Int.reduceLE, Int.reduceLT, Int.reduceNeg, startD, List.replicate, Nat.reduceAdd, Nat.reduceSub, Nat.reduceEqDiff, if_true, if_false, Int.reduceEq, Int.reduceAdd, Int.reduceSub, Int.reduceMul, eq_self, hr', w_sliceFT, cut_take]
  rw [w_ite (szn (by simp; omega))]
  simp only [z6, z4, wq_a, wq_b, wq_c, wq_d, wq_e, wq_f, wq_g, Int.reduceToNat, Int.reduceLE, Int.reduceLT, Int.reduceNeg, startD, List.replicate, Nat.reduceAdd, Nat.reduceSub, Nat.reduceEqDiff, if_true, if_false, Int.reduceEq, Int.reduceAdd, Int.reduceSub, Int.reduceMul, eq_self, w_sliceFT, hk1, cut_drop]
  rw [w_ite (szn (by simp; omega))]
  simp only [z6, z4, wq_a, wq_b, wq_c, wq_d, wq_e, wq_f, wq_g, Int.reduceToNat, Int.reduceLE, Int.reduceLT, Int.reduceNeg, startD, List.replicate, Nat.reduceAdd, Nat.reduceSub, Nat.reduceEqDiff, if_true, if_false, Int.reduceEq, Int.reduceAdd, Int.reduceSub, Int.reduceMul, eq_self]
  refine fin (((ins : Nat) : Int), ((outs : Nat) : Int), (rows.map (List.map enX)).take k ++ r' :: (rows.map (List.map enX)).drop (k + 1)) ((k : Nat) : Int) hd5 ?_ ⟨by simp; omega, fun x hx => ?_⟩ (plain_row P hk r'N)
  · unfold pxD
    have e1 : ((rows.map (List.map enX)).take k ++ r' :: (rows.map (List.map enX)).drop (k + 1)).map rwD = (rows.map rowD).take k ++ .tup (r'.map exD) :: (rows.map rowD).drop (k + 1) := by
      rw [List.map_append, List.map_cons, List.map_take, List.map_drop, rows_X]
      rfl
    rw [e1]
    simp
  · rcases List.mem_append.mp hx with h | h
    · exact rowsW x (List.mem_of_mem_take h)
    · rcases List.mem_cons.mp h with rfl | h
      · exact r'W
      · exact rowsW x (List.mem_of_mem_drop h)

end Lw

namespace Lw
open PySem PySem.Spec PyProof.Rows L2 DL
def Cv (S : Sto) : Prop := ∀ cs, S.map (convB cs) = S
theorem Cv.app {S T : Sto} (a : Cv S) (b : Cv T) : Cv (S ++ T) := fun cs => by rw [List.map_append, a cs, b cs]
theorem cv_st {o : DO} (h : isSt o) (cs : List D) : convB cs o = o := by
  obtain ⟨ns, i, mx, lf, rfl, _⟩ := h
  rfl
theorem Cv.dr {l : Nat} {S S' : Sto} (a : Cv S) (h : Dr l S S') : Cv S' := fun cs => by
  obtain ⟨o, rfl, hs, _⟩ := h
  rw [List.map_set, a cs, cv_st hs]
theorem w_sSeqB {f : Sl → Sto → Res Fl} {g : Sl → Sto → Res (D × Sl)} {sd sd1 : Sl} {S S1 : Sto} (h : f sd S = .ok (.nx sd1) S1) : sSeqB f g sd S = g sd1 S1 := by
  unfold sSeqB
  rw [h]
  rfl
def lamB7 (i : Nat) (ds : List D) : DO := .dic 7 [(.int ((i : Nat) : Int), .tup ds)]
theorem w_dLam {i : Nat} {sd : Sl} {S : Sto} {Q : D → Sto → Prop} {X : Exc → Sto → Prop} : Wp (dLam i sd S) Q X = Q (.ref S.length) (S ++ [.dic 5 [(.int i, .non)]]) := rfl
theorem app_step {d : D} {i : Nat} {S T : Sto} {L0 : DO} {xs : List D} (hx : xs.length ≤ 100) : sExpr (dBm "list" appendD (dVar 1) (dCons (dLam i) dNil)) [some d, some (.ref (S.length + 1))] (S ++ L0 :: .lst xs :: T) =
    .ok (.nx [some d, some (.ref (S.length + 1))]) (S ++ L0 :: .lst (xs ++ [.ref (S.length + 2 + T.length)]) :: (T ++ [.dic 5 [(.int i, .non)]])) := by
  have g1 : ∀ U : Sto, (S ++ L0 :: .lst xs :: U)[S.length + 1]? = some (.lst xs) := fun U => by
    rw [List.getElem?_append_right (by omega), Nat.add_sub_cancel_left]; rfl
  have s1 : ∀ (U : Sto) (o : DO), (S ++ L0 :: .lst xs :: U).set (S.length + 1) o = S ++ L0 :: o :: U := fun U o => by
    rw [List.set_append_right _ _ (by omega), Nat.add_sub_cancel_left]; rfl
  apply eq_of_wp
  simp only [z6, z4, wq_a, wq_b, wq_c, wq_d, wq_e, wq_f, wq_g, Int.reduceToNat, Int.reduceLE, Int.reduceLT, Int.reduceNeg, startD, List.replicate, Nat.reduceAdd, Nat.reduceSub, Nat.reduceEqDiff, if_true, if_false, Int.reduceEq, Int.reduceAdd, Int.reduceSub, Int.reduceMul, eq_self]
  rw [if_pos (isTy_lst (g1 T))]
  simp only [z6, z4, wq_a, wq_b, wq_c, wq_d, wq_e, wq_f, wq_g, Int.reduceToNat, Int.reduceLE, Int.reduceLT, Int.reduceNeg, startD, List.replicate, Nat.reduceAdd, Nat.reduceSub, Nat.reduceEqDiff, if_true, if_false, Int.reduceEq, Int.reduceAdd, Int.reduceSub, Int.reduceMul, eq_self, w_dLam, List.append_assoc, List.cons_append, List.length_append, List.length_cons]
  rw [w_appL (g1 _) (szn (by omega)), s1]
  exact ⟨by first | rfl | trivial, by rw [show S.length + (T.length + 1 + 1) = S.length + 2 + T.length by omega]⟩

theorem gApp {S T : Sto} {j : Nat} : (S ++ T)[S.length + j]? = T[j]? := by
  rw [List.getElem?_append_right (by omega), Nat.add_sub_cancel_left]
def wkB (p : Nat) (d : D) : Sto := lamB7 0 [d] :: DO.lst (([0, 2, 3, 4, 5, 6, 7, 8, 9, 10, 11, 12] : List Nat).map fun j => D.ref (p + j)) :: (([1, 2, 3, 4, 5, 6, 7, 8, 9, 10, 11] : List Nat).map fun i => lamB7 i [d])
theorem doors_ok {d : D} {S : Sto} (hc : Cv S) : F__law_more_doors [d] S = .ok (.ref (S.length + 1)) (S ++ wkB S.length d) := by
  have e0 : sAsg (dLst (dCons (dLam 1000) dNil)) (gVar 1) [some d, none] S = .ok (.nx [some d, some (.ref (S.length + 1))]) (S ++ DO.dic 5 [(.int 1000, .non)] :: DO.lst [.ref S.length] :: []) := by
    apply eq_of_wp
    simp only [z6, z4, wq_a, wq_b, wq_c, wq_d, wq_e, wq_f, wq_g, Int.reduceToNat, Int.reduceLE, Int.reduceLT, Int.reduceNeg, startD, List.replicate, Nat.reduceAdd, Nat.reduceSub, Nat.reduceEqDiff, if_true, if_false, Int.reduceEq, Int.reduceAdd, Int.reduceSub, Int.reduceMul, eq_self, w_dLam, List.length_append, List.append_assoc]
    exact ⟨by first | rfl | trivial, by first | rfl | trivial⟩
  have eb : b__law_more_doors [some d, none] S = .ok (D.ref (S.length + 1), [some d, some (.ref (S.length + 1))]) (S ++ (DO.dic 5 [(.int 1000, .non)] :: DO.lst (([0, 2, 3, 4, 5, 6, 7, 8, 9, 10, 11, 12] : List Nat).map fun j => D.ref (S.length + j)) :: [DO.dic 5 [(.int 1001, .non)], .dic 5 [(.int 1002, .non)], .dic 5 [(.int 1003, .non)], .dic 5 [(.int 1004, .non)], .dic 5 [(.int 1005, .non)], .dic 5 [(.int 1006, .non)], .dic 5 [(.int 1007, .non)], .dic 5 [(.int 1008, .non)], .dic 5 [(.int 1009, .non)], .dic 5 [(.int 1010, .non)], .dic 5 [(.int 1011, .non)]])) := by
    unfold b__law_more_doors
    rw [w_sSeqB e0, w_sSeqB (app_step (by simp)), w_sSeqB (app_step (by simp)), w_sSeqB (app_step (by simp)), w_sSeqB (app_step (by simp)), w_sSeqB (app_step (by simp)), w_sSeqB (app_step (by simp)), w_sSeqB (app_step (by simp)), w_sSeqB (app_step (by simp)), w_sSeqB (app_step (by simp)), w_sSeqB (app_step (by simp)), w_sSeqB (app_step (by simp))]
    rfl
  unfold F__law_more_doors dFnB
  rw [show startD 2 [d] = [some d, none] from rfl, eb]
  show Res.ok _ ((S ++ _).map (convB [d])) = _
  rw [List.map_append, hc [d]]
  rfl
def adX (n i : Nat) : Nat := n + ([0, 1, 2, 3, 5, 6, 7, 8, 9, 10, 11, 12, 13, 14, 15, 16, 17] : List Nat).getD i 0
def tX (n : Nat) (d : D) : Sto := [DO.dic 5 [(.int 0, .non)], .dic 5 [(.int 1, .non)], .dic 5 [(.int 2, .non)]] ++ wkB (n + 3) d ++ [.dic 5 [(.int 3, .non)], .dic 5 [(.int 4, .non)]]
theorem tX_cv {n : Nat} {d : D} : Cv (tX n d) := fun cs => rfl
def obX (d : D) : Nat → DO
  | 0 => .dic 5 [(.int ((0 : Nat) : Int), .non)]
  | 1 => .dic 5 [(.int ((1 : Nat) : Int), .non)]
  | 2 => .dic 5 [(.int ((2 : Nat) : Int), .non)]
  | 15 => .dic 5 [(.int ((3 : Nat) : Int), .non)]
  | 16 => .dic 5 [(.int ((4 : Nat) : Int), .non)]
  | i => lamB7 (i - 3) [d]
theorem tX_at {d : D} {S : Sto} {i : Nat} (hi : i < 17) : (S ++ tX S.length d)[adX S.length i]? = some (obX d i) := by
  unfold adX
  rw [gApp]
  have : i = 0 ∨ i = 1 ∨ i = 2 ∨ i = 3 ∨ i = 4 ∨ i = 5 ∨ i = 6 ∨ i = 7 ∨ i = 8 ∨ i = 9 ∨ i = 10 ∨ i = 11 ∨ i = 12 ∨ i = 13 ∨ i = 14 ∨ i = 15 ∨ i = 16 := by omega
  rcases this with rfl | rfl | rfl | rfl | rfl | rfl | rfl | rfl | rfl | rfl | rfl | rfl | rfl | rfl | rfl | rfl | rfl <;> rfl
theorem kindX_A {Fx : Exc → Sto → Res D} {fs gs : Nat → Option (Sl → Sto → Res D)} {fb : Sl → Sto → Res D} {j l i : Nat} {sd sd0 : Sl} {S : Sto} {Q : D → Sto → Prop} {X : Exc → Sto → Prop} (hj : sd[j]? = some (some (.ref l))) (hl : S[l]? = some (.dic 5 [(.int ((i : Nat) : Int), .non)])) (hf : fs i = some fb) :
    Wp (dKindX Fx fs gs (dVar j) sd0 sd S) Q X = Wp (dKind Fx fb (maskD sd0) S) Q X := by
  have e : dKindX Fx fs gs (dVar j) sd0 sd S = dKind Fx fb (maskD sd0) S := by
    simp only [dKindX, dVar, hj, Res.bind, hl, Int.toNat_natCast, hf]
  rw [e]
theorem kindX_B {Fx : Exc → Sto → Res D} {fs gs : Nat → Option (Sl → Sto → Res D)} {fb : Sl → Sto → Res D} {j l i : Nat} {ds : List D} {sd sd0 : Sl} {S : Sto} {Q : D → Sto → Prop} {X : Exc → Sto → Prop} (hj : sd[j]? = some (some (.ref l))) (hl : S[l]? = some (lamB7 i ds)) (hf : gs i = some fb) :
    Wp (dKindX Fx fs gs (dVar j) sd0 sd S) Q X = Wp (dKind Fx fb (ds.map some) S) Q X := by
  have hl' : S[l]? = some (.dic 7 [(.int ((i : Nat) : Int), .tup ds)]) := hl
  have e : dKindX Fx fs gs (dVar j) sd0 sd S = dKind Fx fb (ds.map some) S := by
    simp only [dKindX, dVar, hj, Res.bind, hl', Int.toNat_natCast, hf]
  rw [e]
theorem mask_at {sd : Sl} {i : Nat} {d : D} (h : sd[i]? = some (some d)) (p : d.pur = true) : (maskD sd)[i]? = some (some d) := by
  unfold maskD
  rw [List.getElem?_map, h]
  simp [p]
theorem loopN_ok {chk : Sto → Bool} {ga : D → Sl → Sto → Res Sl} {ft : Sl → Sto → Res Bool} {sd : Sl} {T : Sto} (hc : chk T = true) : ∀ {xs : List D}, (∀ x ∈ xs, ∃ sd1, ga x sd T = .ok sd1 T ∧ ft sd1 T = .ok false T) → loopN chk ga ft sd xs T = .ok () T
  | [], _ => by
    show (if chk T = true then Res.ok () T else .stuck) = _
    rw [if_pos hc]
  | x :: xs, h => by
    obtain ⟨sd1, h1, h2⟩ := h x List.mem_cons_self
    have ih := loopN_ok (ft := ft) (ga := ga) (sd := sd) hc fun y hy => h y (List.mem_cons_of_mem _ hy)
    unfold loopN
    rw [if_pos hc, h1]
    show ((ft sd1 T).noExc.bind fun b S2 => if b = true then Res.stuck else loopN chk ga ft sd xs S2) = _
    rw [h2]
    exact ih
theorem compN_ok {vs : List Nat} {fi : Sl → Sto → Res ItD} {ga : D → Sl → Sto → Res Sl} {ft : Sl → Sl → Sto → Res Bool} {sd : Sl} {S : Sto} {it : ItD} (hi : fi sd S = .ok it S) (hc : it.chk (S ++ [.lst []]) = true) (h : ∀ x ∈ it.items, ∃ sd1, ga x (wipeD sd vs) (S ++ [.lst []]) = .ok sd1 (S ++ [.lst []]) ∧ ft sd sd1 (S ++ [.lst []]) = .ok false (S ++ [.lst []])) :
    dFrz (dCompN vs fi ga ft) sd S = .ok (.frl []) S := by
  have e : dCompN vs fi ga ft sd S = .ok (.ref S.length) (S ++ [.lst []]) := by
    unfold dCompN
    rw [hi]
    show ((loopN it.chk ga (ft sd) (wipeD sd vs) it.items (S ++ [.lst []])).bind fun _ S2 => Res.ok (D.ref S.length) S2) = _
    rw [loopN_ok hc h]
    rfl
  unfold dFrz
  rw [e]
  exact frz_last rfl
theorem pur_list {α : Type} {f : α → D} : ∀ {l : List α}, (∀ x ∈ l, (f x).pur = true) → D.purs (l.map f) = true
  | [], _ => rfl
  | x :: l, h => by
    show (D.pur (f x) && D.purs (l.map f)) = true
    rw [h x List.mem_cons_self, pur_list fun y hy => h y (List.mem_cons_of_mem _ hy)]
    rfl
theorem px_pur (p : Px) : (pxD p).pur = true := by
  show (true && (true && (D.purs (p.2.2.map rwD) && true))) = true
  rw [pur_list (f := rwD) fun r _ => show D.purs (r.map exD) = true from pur_list fun e _ => rfl]
  rfl
theorem rep_W {c n : Nat} : repS (W [c]) ((n : Nat) : Int) = W (List.replicate n c) := by
  unfold repS
  rw [W_cps]
  show W _ = _
  congr 1
  simp only [Int.toNat_natCast]
  induction n with
  | zero => rfl
  | succ n ih => rw [List.replicate_succ, List.flatten_cons, ih]; rfl
theorem mulWn {c n : Nat} {S : Sto} {Q : D → Sto → Prop} {X : Exc → Sto → Prop} (h : n ≤ 100) : Wp (mulD (.str (W [c])) (.int ((n : Nat) : Int)) S) Q X = Q (.str (W (List.replicate n c))) S := by
  simp only [mulD]
  rw [if_pos ⟨mul_okI (by omega) (by omega), by rw [W_len]; exact szn (by simp; omega)⟩, rep_W]
  rfl
theorem run_bb {ins outs : Nat} {rows : List (List En)} {bs : List (List Bool)} {S : Sto} (P : PM ins outs rows) (hb : ∀ b ∈ bs, b.length = ins) : F_plain_run [plD ins outs rows, .frl (bs.map sW ++ [.str (W (48 :: List.replicate ins 48)), .str (W [120])])] S = .exc ⟨3, some [("number", .int ((bs.length : Nat) : Int))]⟩ S := by
  unfold F_plain_run
  refine fn_exc rfl ?_
  unfold b_plain_run
  have i4 := P.i4
  have x0 : ∀ {S : Sto}, Wp (ixD (plD ins outs rows) (.int 0) S) = Wp (.ok (.int ((ins : Nat) : Int)) S) := rfl
  have nb := fun S => need_beats_bad (ins := ((ins : Nat) : Int)) (pre := bs.map wB) (w := List.replicate (ins + 1) 48) (post := [[120]]) (S := S) (fun v hv => by
    rcases List.mem_append.mp hv with h | h
    · obtain ⟨b, hb2, rfl⟩ := List.mem_map.mp h
      exact ⟨wB_ok b, by rw [wB_len, hb b hb2]; omega⟩
    · rcases List.mem_cons.mp h with rfl | h
      · exact ⟨fun x hx => by rw [List.eq_of_mem_replicate hx]; decide, by simp; omega⟩
      · rw [List.mem_singleton] at h
        rw [h]
        exact ⟨fun c hc => by revert c; decide, by simp⟩) (fun v hv => by
      obtain ⟨b, hb2, rfl⟩ := List.mem_map.mp hv
      exact isWord_wB (by rw [hb b hb2])) (by
      unfold isWord
      rw [decide_eq_false (by simp; omega), Bool.false_and])
  have el : (bs.map wB ++ List.replicate (ins + 1) 48 :: [[120]]).map (fun w => D.str (W w)) = bs.map sW ++ [.str (W (48 :: List.replicate ins 48)), .str (W [120])] := by
    rw [List.map_append, List.map_map]
    rfl
  rw [el, List.length_map] at nb
  simp only [z6, z4, wq_a, wq_b, wq_c, wq_d, wq_e, wq_f, wq_g, Int.reduceToNat, Int.reduceLE, Int.reduceLT, Int.reduceNeg, startD, List.replicate, Nat.reduceAdd, Nat.reduceSub, Nat.reduceEqDiff, if_true, if_false, Int.reduceEq, Int.reduceAdd, Int.reduceSub, Int.reduceMul, eq_self, need_plain_ok P, x0, nb]
  exact ⟨trivial, zd S⟩
end Lw

namespace Lw
open PySem PySem.Spec PyProof.Rows L2 DL
theorem sWs_gd {bs : List (List Bool)} : GD 1 (D.frl (bs.map sW)) := gd_frl (n := 0) (gd_map fun _ _ => gd_W (wB_ok _))
theorem W_x5 : Str.ofString "x" = W [120] := by decide +kernel
theorem badB_sd5 {i : Int} : SD 1 (.tup [.str "BadBeat", .int i]) := sd_tup (fun d hd => by
  have : d = .str "BadBeat" ∨ d = .int i := by simpa using hd
  rcases this with rfl | rfl
  · exact sd_str (by decide +kernel)
  · exact sd_int) (by simp)
theorem same_Bb {i : Int} {S : Sto} : F__law_same 40 [.tup [.str "BadBeat", .int i], .tup [.str "BadBeat", .int i]] S = .ok (.bl true) S := same2_ok 1 38 (sm_gd badB_sd5)
theorem law_gen {x0 : D} {S S0 : Sto} {sc : List Int} (h : frzD S x0 S = .ok (.frl (sc.map .int)) S0) (hc0 : Cv S0) : ∃ S', dFn 18 b_law [x0] S = .ok (.bl true) S' := by
  have main : Wp (dFn 18 b_law [x0] S) (fun d _ => d = .bl true) NX := by
    rw [w_dFn]
    unfold b_law
    simp only [wq_a, wq_b, wq_c, wq_d, wq_e, wq_f, wq_g, Int.reduceToNat, Int.reduceLE, Int.reduceLT, Int.reduceNeg, startD, List.replicate, Nat.reduceAdd, Nat.reduceSub, Nat.reduceEqDiff, if_true, if_false, Int.reduceEq, Int.reduceAdd, Int.reduceSub, Int.reduceMul, eq_self, w_dFrz, h]
    obtain ⟨o, e0, hs⟩ := start_ok (ns := sc) (S := S0)
    rw [e0]
    simp only [wq_a, wq_b, wq_c, wq_d, wq_e, wq_f, wq_g, Int.reduceToNat, Int.reduceLE, Int.reduceLT, Int.reduceNeg, startD, List.replicate, Nat.reduceAdd, Nat.reduceSub, Nat.reduceEqDiff, if_true, if_false, Int.reduceEq, Int.reduceAdd, Int.reduceSub, Int.reduceMul, eq_self]
    rw [w_ite (rng_okI (by decide) (by decide))]
    simp only [wq_a, wq_b, wq_c, wq_d, wq_e, wq_f, wq_g, Int.reduceToNat, Int.reduceLE, Int.reduceLT, Int.reduceNeg, startD, List.replicate, Nat.reduceAdd, Nat.reduceSub, Nat.reduceEqDiff, if_true, if_false, Int.reduceEq, Int.reduceAdd, Int.reduceSub, Int.reduceMul, eq_self]
    generalize hl : S0.length = l
    have at0 : At l (S0 ++ [o]) := by subst hl; exact ⟨o, get_last, hs⟩
    have cv0 : Cv (S0 ++ [o]) := hc0.app fun cs => by rw [List.map_cons, List.map_nil, cv_st hs]
    generalize S0 ++ [o] = S1 at at0 cv0
    refine w_rangeP (fun _ sd S' => (At l S' ∧ Cv S') ∧ ∃ a2 a3 a4 a5 a6 a7 a8 a9 a10 a11 a12 a13 a14 a15 a16 a17, sd = [some x0, some (.ref l), a2, a3, a4, a5, a6, a7, a8, a9, a10, a11, a12, a13, a14, a15, a16, a17]) 0 6 (fun _ _ _ _ _ => rfl) ⟨⟨at0, cv0⟩, _, _, _, _, _, _, _, _, _, _, _, _, _, _, _, _, rfl⟩ ?_ ?_
    · rintro sd S' ⟨_, a2, a3, a4, a5, a6, a7, a8, a9, a10, a11, a12, a13, a14, a15, a16, a17, rfl⟩
      simp only [wq_a, wq_b, wq_c, wq_d, wq_e, wq_f, wq_g, Int.reduceToNat, Int.reduceLE, Int.reduceLT, Int.reduceNeg, startD, List.replicate, Nat.reduceAdd, Nat.reduceSub, Nat.reduceEqDiff, if_true, if_false, Int.reduceEq, Int.reduceAdd, Int.reduceSub, Int.reduceMul, eq_self]
    · rintro turn sd S2 hturn ⟨⟨at2, cv2⟩, a2, a3, a4, a5, a6, a7, a8, a9, a10, a11, a12, a13, a14, a15, a16, a17, rfl⟩
      simp only [wq_a, wq_b, wq_c, wq_d, wq_e, wq_f, wq_g, Int.reduceToNat, Int.reduceLE, Int.reduceLT, Int.reduceNeg, startD, List.replicate, Nat.reduceAdd, Nat.reduceSub, Nat.reduceEqDiff, if_true, if_false, Int.reduceEq, Int.reduceAdd, Int.reduceSub, Int.reduceMul, eq_self]
      refine (draw at2 (many := 4)).w ?_
      rintro _ S2' d2 ⟨mz, rfl, mz0, mz1⟩
      obtain ⟨most, hmost, hm1, hm2⟩ : ∃ most : Int, atI [D.int 12, .int 12, .int 12, .int 200] mz = some (.int most) ∧ 1 ≤ most ∧ most ≤ 200 := by
        have : mz = 0 ∨ mz = 1 ∨ mz = 2 ∨ mz = 3 := by omega
        rcases this with rfl | rfl | rfl | rfl <;> exact ⟨_, rfl, by decide, by decide⟩
      simp only [wq_a, wq_b, wq_c, wq_d, wq_e, wq_f, wq_g, Int.reduceToNat, Int.reduceLE, Int.reduceLT, Int.reduceNeg, startD, List.replicate, Nat.reduceAdd, Nat.reduceSub, Nat.reduceEqDiff, if_true, if_false, Int.reduceEq, Int.reduceAdd, Int.reduceSub, Int.reduceMul, eq_self, hmost]
      refine (plain_ok d2.at (most := most) (wires := 4) hm1 hm2).w ?_
      rintro _ S3 d3 ⟨ins, outs, rows, rfl, P, _, _⟩
      have cv3 := (cv2.dr d2).dr d3
      have i4 := P.i4
      have i1 := P.i1
      have n1 := P.n1
      have ix0 : ∀ {S : Sto}, Wp (ixD (plD ins outs rows) (.int 0) S) = Wp (.ok (.int ((ins : Nat) : Int)) S) := rfl
      have lat := fun {S : Sto} {i : Nat} {b : List Bool} (hi : i < rows.length) (hb : b.length = ins) => (show F__law_at [plD ins outs rows, .int ((i : Nat) : Int), sW b] S = .ok (enD (ansAt rows i (nb b))) S from by
        have := law_at_ok (S := S) P hi (k := nb b) (by rw [← hb]; exact nb_lt b)
        rw [allB_getD hb] at this
        exact this)
      have rr := fun {S : Sto} {bs : List (List Bool)} (hb : ∀ b ∈ bs, b.length = ins) (hl : bs.length ≤ 100000) => plain_run_okR (S := S) P hb hl
      have rbb := fun {S : Sto} {bs : List (List Bool)} (hb : ∀ b ∈ bs, b.length = ins) => run_bb (S := S) P hb
      have odd := fun {S : Sto} (h : At l S) => law_odd_ok h P
      obtain ⟨q0, eq0, _⟩ := plX P
      have gpur : (plD ins outs rows).pur = true := by rw [eq0]; exact px_pur q0
      generalize hG : plD ins outs rows = G at ix0 lat rr rbb odd gpur ⊢
      simp only [wq_a, wq_b, wq_c, wq_d, wq_e, wq_f, wq_g, Int.reduceToNat, Int.reduceLE, Int.reduceLT, Int.reduceNeg, startD, List.replicate, Nat.reduceAdd, Nat.reduceSub, Nat.reduceEqDiff, if_true, if_false, Int.reduceEq, Int.reduceAdd, Int.reduceSub, Int.reduceMul, eq_self]
      -- the beats
      refine compG (fun _ y => ∃ b : { b : List Bool // b.length = ins }, y = sW b.val) d3.at.lt ?_
      simp only [wq_a, wq_b, wq_c, wq_d, wq_e, wq_f, wq_g, Int.reduceToNat, Int.reduceLE, Int.reduceLT, Int.reduceNeg, startD, List.replicate, Nat.reduceAdd, Nat.reduceSub, Nat.reduceEqDiff, if_true, if_false, Int.reduceEq, Int.reduceAdd, Int.reduceSub, Int.reduceMul, eq_self]
      refine (draw d3.at).w ?_
      rintro _ S5 d5 ⟨v, rfl, v0, v1⟩
      simp only [wq_a, wq_b, wq_c, wq_d, wq_e, wq_f, wq_g, Int.reduceToNat, Int.reduceLE, Int.reduceLT, Int.reduceNeg, startD, List.replicate, Nat.reduceAdd, Nat.reduceSub, Nat.reduceEqDiff, if_true, if_false, Int.reduceEq, Int.reduceAdd, Int.reduceSub, Int.reduceMul, eq_self]
      rw [w_ite (rng_okI (by omega) (by omega))]
      simp only [wq_a, wq_b, wq_c, wq_d, wq_e, wq_f, wq_g, Int.reduceToNat, Int.reduceLE, Int.reduceLT, Int.reduceNeg, startD, List.replicate, Nat.reduceAdd, Nat.reduceSub, Nat.reduceEqDiff, if_true, if_false, Int.reduceEq, Int.reduceAdd, Int.reduceSub, Int.reduceMul, eq_self]
      refine ⟨d5, szn (by rw [rangeL_len]; omega), fun _ => rfl, fun x hx S' T hd => ?_, ?_, ?_⟩
      · simp only [wq_a, wq_b, wq_c, wq_d, wq_e, wq_f, wq_g, Int.reduceToNat, Int.reduceLE, Int.reduceLT, Int.reduceNeg, startD, List.replicate, Nat.reduceAdd, Nat.reduceSub, Nat.reduceEqDiff, if_true, if_false, Int.reduceEq, Int.reduceAdd, Int.reduceSub, Int.reduceMul, eq_self, wipeD, ix0]
        refine ⟨trivial, trivial, trivial, ?_⟩
        refine (beat_ok (hd.at.app T) (outs := ((ins : Nat) : Int)) (by omega) (by omega)).wT hd.at.lt ?_
        rintro _ S6 d6 ⟨b, rfl, hb⟩
        exact ⟨S6, rfl, d6, ⟨b, by omega⟩, rfl⟩
      · rintro x _ y ⟨b, rfl⟩
        rfl
      · intro ys S6 d6 f
        obtain ⟨cs, rfl⟩ := f.ex (f := fun b : { b : List Bool // b.length = ins } => sW b.val) fun a _ b hb => hb
        have hlen := f.len
        rw [rangeL_len, List.length_map] at hlen
        obtain ⟨bs, ebs⟩ : ∃ bs : List (List Bool), bs = cs.map (·.val) := ⟨_, rfl⟩
        have ecs : cs.map (fun b : { b : List Bool // b.length = ins } => sW b.val) = bs.map sW := by rw [ebs, List.map_map]; rfl
        have hbs : ∀ b ∈ bs, b.length = ins := fun b hb => by
          rw [ebs] at hb
          obtain ⟨z, _, rfl⟩ := List.mem_map.mp hb
          exact z.2
        have hbl : bs.length ≤ 51 := by rw [ebs, List.length_map]; omega
        clear f hlen ebs
        rw [ecs]
        have cv6 : Cv S6 := cv3.dr d6
        have at6 : At l S6 := d6.at
        simp only [wq_a, wq_b, wq_c, wq_d, wq_e, wq_f, wq_g, Int.reduceToNat, Int.reduceLE, Int.reduceLT, Int.reduceNeg, startD, List.replicate, Nat.reduceAdd, Nat.reduceSub, Nat.reduceEqDiff, if_true, if_false, Int.reduceEq, Int.reduceAdd, Int.reduceSub, Int.reduceMul, eq_self, itemsD]
        -- gone through here
        refine w_loopP sW (fun pre sd S' => ∃ (b7 b16 : Option D), S' = S6 ++ [.lst ((prun rows 0 pre).map sW)] ∧ sd = [some x0, some (.ref l), some (.int (0 + ((turn : Nat) : Int))), some G, some (.frl (bs.map sW)), some (.ref S6.length), some (.int ((pend rows 0 pre : Nat) : Int)), b7, a8, a9, a10, a11, a12, a13, a14, a15, b16, a17]) bs (fun _ _ _ _ _ _ => rfl) ⟨_, _, rfl, rfl⟩ ?_ ?_
        · rintro sd S' ⟨b7, b16, rfl, rfl⟩
          simp only [wq_a, wq_b, wq_c, wq_d, wq_e, wq_f, wq_g, Int.reduceToNat, Int.reduceLE, Int.reduceLT, Int.reduceNeg, startD, List.replicate, Nat.reduceAdd, Nat.reduceSub, Nat.reduceEqDiff, if_true, if_false, Int.reduceEq, Int.reduceAdd, Int.reduceSub, Int.reduceMul, eq_self, listF, seqD, lsD]
          rw [w_ite (rng_okI (by decide) (by decide))]
          simp only [wq_a, wq_b, wq_c, wq_d, wq_e, wq_f, wq_g, Int.reduceToNat, Int.reduceLE, Int.reduceLT, Int.reduceNeg, startD, List.replicate, Nat.reduceAdd, Nat.reduceSub, Nat.reduceEqDiff, if_true, if_false, Int.reduceEq, Int.reduceAdd, Int.reduceSub, Int.reduceMul, eq_self]
          refine w_rangeP (fun _ sd S' => (∃ T, S' = S6 ++ .lst ((prun rows 0 bs).map sW) :: T ∧ Cv T) ∧ ∃ (b9 b12 : Option D), sd = [some x0, some (.ref l), some (.int (0 + ((turn : Nat) : Int))), some G, some (.frl (bs.map sW)), some (.ref S6.length), some (.int ((pend rows 0 bs : Nat) : Int)), b7, some (.frl (bs.map sW)), b9, a10, a11, b12, a13, a14, a15, b16, a17]) 0 2 (fun _ _ _ _ _ => rfl) ⟨⟨[], rfl, fun cs => rfl⟩, _, _, rfl⟩ ?_ ?_
          · rintro sd S' ⟨⟨T, rfl, cvT⟩, b9, b12, rfl⟩
            have at7 : At l (S6 ++ .lst ((prun rows 0 bs).map sW) :: T) := at6.app _
            have cv7 : Cv (S6 ++ .lst ((prun rows 0 bs).map sW) :: T) := cv6.app fun cs => by rw [List.map_cons, cvT cs]; rfl
            generalize S6 ++ .lst ((prun rows 0 bs).map sW) :: T = S7 at at7 cv7 ⊢
            simp only [wq_a, wq_b, wq_c, wq_d, wq_e, wq_f, wq_g, Int.reduceToNat, Int.reduceLE, Int.reduceLT, Int.reduceNeg, startD, List.replicate, Nat.reduceAdd, Nat.reduceSub, Nat.reduceEqDiff, if_true, if_false, Int.reduceEq, Int.reduceAdd, Int.reduceSub, Int.reduceMul, eq_self]
            refine (odd at7).w ?_
            rintro _ S8 d8 ⟨p, due, rfl, hp, hb⟩
            have at8 := d8.at
            have cv8 := cv7.dr d8
            have cv8' : Cv (S8 ++ [DO.dic 5 [(.int ((0 : Nat) : Int), .non)], .dic 5 [(.int ((1 : Nat) : Int), .non)], .dic 5 [(.int ((2 : Nat) : Int), .non)]]) := cv8.app fun cs => rfl
            simp only [wq_a, wq_b, wq_c, wq_d, wq_e, wq_f, wq_g, Int.reduceToNat, Int.reduceLE, Int.reduceLT, Int.reduceNeg, startD, List.replicate, Nat.reduceAdd, Nat.reduceSub, Nat.reduceEqDiff, if_true, if_false, Int.reduceEq, Int.reduceAdd, Int.reduceSub, Int.reduceMul, eq_self, gTupD, w_dLam, List.append_assoc, List.cons_append, List.nil_append, List.length_append]
            have dk : F__law_more_doors [pxD p] (S8 ++ [DO.dic 5 [(.int 0, .non)], DO.dic 5 [(.int 1, .non)], DO.dic 5 [(.int 2, .non)]]) = .ok (.ref (S8.length + 4)) (S8 ++ DO.dic 5 [(.int 0, .non)] :: DO.dic 5 [(.int 1, .non)] :: DO.dic 5 [(.int 2, .non)] :: wkB (S8.length + 3) (pxD p)) := by
              have := doors_ok (d := pxD p) cv8'
              rw [show (S8 ++ [DO.dic 5 [(.int ((0 : Nat) : Int), .non)], .dic 5 [(.int ((1 : Nat) : Int), .non)], .dic 5 [(.int ((2 : Nat) : Int), .non)]]).length = S8.length + 3 from by simp, List.append_assoc] at this
              exact this
            have da : addF (.frl [D.ref S8.length, D.ref (S8.length + 1), D.ref (S8.length + 2)]) (.ref (S8.length + 4)) (S8 ++ DO.dic 5 [(.int 0, .non)] :: DO.dic 5 [(.int 1, .non)] :: DO.dic 5 [(.int 2, .non)] :: wkB (S8.length + 3) (pxD p)) = .ok (.frl ([D.ref S8.length, D.ref (S8.length + 1), D.ref (S8.length + 2)] ++ (([0, 2, 3, 4, 5, 6, 7, 8, 9, 10, 11, 12] : List Nat).map fun j => D.ref (S8.length + 3 + j)))) (S8 ++ DO.dic 5 [(.int 0, .non)] :: DO.dic 5 [(.int 1, .non)] :: DO.dic 5 [(.int 2, .non)] :: wkB (S8.length + 3) (pxD p)) := by
              have g : (S8 ++ DO.dic 5 [(.int 0, .non)] :: DO.dic 5 [(.int 1, .non)] :: DO.dic 5 [(.int 2, .non)] :: wkB (S8.length + 3) (pxD p))[S8.length + 4]? = some (.lst (([0, 2, 3, 4, 5, 6, 7, 8, 9, 10, 11, 12] : List Nat).map fun j => D.ref (S8.length + 3 + j))) := (gApp (S := S8) (j := 4)).trans rfl
              simp only [addF, lsD, g]
              rw [if_pos (szn (by simp))]
            rw [dk]
            simp only [wq_a, wq_b, wq_c, wq_d, wq_e, wq_f, wq_g, Int.reduceToNat, Int.reduceLE, Int.reduceLT, Int.reduceNeg, startD, List.replicate, Nat.reduceAdd, Nat.reduceSub, Nat.reduceEqDiff, if_true, if_false, Int.reduceEq, Int.reduceAdd, Int.reduceSub, Int.reduceMul, eq_self, kB_ap]
            rw [da]
            have hend : S8 ++ DO.dic 5 [(.int 0, .non)] :: DO.dic 5 [(.int 1, .non)] :: DO.dic 5 [(.int 2, .non)] :: wkB (S8.length + 3) (pxD p) ++ [.dic 5 [(.int 3, .non)], .dic 5 [(.int 4, .non)]] = S8 ++ tX S8.length (pxD p) := by
              unfold tX
              simp
            have hlen : (S8 ++ DO.dic 5 [(.int 0, .non)] :: DO.dic 5 [(.int 1, .non)] :: DO.dic 5 [(.int 2, .non)] :: wkB (S8.length + 3) (pxD p)).length = S8.length + 16 := by
              rw [List.length_append]
              rfl
            generalize S8 ++ DO.dic 5 [(.int 0, .non)] :: DO.dic 5 [(.int 1, .non)] :: DO.dic 5 [(.int 2, .non)] :: wkB (S8.length + 3) (pxD p) = S9 at hend hlen ⊢
            simp only [wq_a, wq_b, wq_c, wq_d, wq_e, wq_f, wq_g, Int.reduceToNat, Int.reduceLE, Int.reduceLT, Int.reduceNeg, startD, List.replicate, Nat.reduceAdd, Nat.reduceSub, Nat.reduceEqDiff, if_true, if_false, Int.reduceEq, Int.reduceAdd, Int.reduceSub, Int.reduceMul, eq_self, w_dLam, List.append_assoc, List.length_append]
            rw [w_ite (szn (by omega)), hend, hlen]
            have hrefs : [D.ref S8.length, D.ref (S8.length + 1), D.ref (S8.length + 2), D.ref (S8.length + 3 + 0), D.ref (S8.length + 3 + 2), D.ref (S8.length + 3 + 3), D.ref (S8.length + 3 + 4), D.ref (S8.length + 3 + 5), D.ref (S8.length + 3 + 6), D.ref (S8.length + 3 + 7), D.ref (S8.length + 3 + 8), D.ref (S8.length + 3 + 9), D.ref (S8.length + 3 + 10), D.ref (S8.length + 3 + 11), D.ref (S8.length + 3 + 12), D.ref (S8.length + 16), D.ref (S8.length + 16 + 1)] = (List.range 17).map fun i => D.ref (adX S8.length i) := rfl
            have at10 : At l (S8 ++ tX S8.length (pxD p)) := at8.app _
            have cv10 : Cv (S8 ++ tX S8.length (pxD p)) := cv8.app tX_cv
            have hat : ∀ i, i < 17 → (S8 ++ tX S8.length (pxD p))[adX S8.length i]? = some (obX (pxD p) i) := fun i hi => tX_at hi
            rw [hrefs]
            generalize S8 ++ tX S8.length (pxD p) = S10 at at10 cv10 hat ⊢
            generalize S8.length = n8 at hat ⊢
            simp only [wq_a, wq_b, wq_c, wq_d, wq_e, wq_f, wq_g, Int.reduceToNat, Int.reduceLE, Int.reduceLT, Int.reduceNeg, startD, List.replicate, Nat.reduceAdd, Nat.reduceSub, Nat.reduceEqDiff, if_true, if_false, Int.reduceEq, Int.reduceAdd, Int.reduceSub, Int.reduceMul, eq_self]
            have sm := fun S => same_P (S := S) (i := due)
            have ke := fun S => kind_Pl (S := S) (i := due)
            have eb : badP due = .tup [.str "BadPlain", .int due] := rfl
            rw [eb] at sm ke
            have kA0 := fun S x => plain_run_bad (S := S) (x := x) hp (by omega) (by omega) hb
            have kA1 := fun S => least_bad (S := S) hp (by omega) (by omega) hb
            have kA2 := fun S => parted_bad (S := S) hp (by omega) (by omega) hb
            have kA3 := fun S x => alike1_bad (S := S) (x := x) hp (by omega) (by omega) hb
            have kA4 := fun S => alike2_bad (S := S) P hp (by omega) (by omega) hb
            have kB0 := fun S => rules_of_bad (S := S) hp (by omega) (by omega) hb
            have kB1 := fun S => trees_bad (S := S) hp (by omega) (by omega) hb
            have kB2 := fun S => made_program_bad (S := S) hp (by omega) (by omega) hb
            have kB3 := fun S => made_circuit_bad (S := S) hp (by omega) (by omega) hb
            have kB4 := fun S x => never_bad (S := S) (x := x) hp (by omega) (by omega) hb
            have kB5 := fun S x y => shows_bad (S := S) (x := x) (y := y) hp (by omega) (by omega) hb
            have kB6 := fun S => tour_bad (S := S) hp (by omega) (by omega) hb
            have kB7 := fun S => tour_paper_bad (S := S) hp (by omega) (by omega) hb
            have kB8 := fun S x => bound_bad (S := S) (x := x) hp (by omega) (by omega) hb
            have kB9 := fun S x => misses_bad (S := S) (x := x) hp (by omega) (by omega) hb
            have kB10 := fun S => checks_bad (S := S) hp (by omega) (by omega) hb
            have kB11 := fun S x => lean_bad (S := S) (x := x) hp (by omega) (by omega) hb
            rw [hG] at kA4
            rw [compN_ok (it := ⟨(List.range 17).map fun i => D.ref (adX n8 i), fun _ => true⟩) rfl rfl ?hx]
            case hx =>
              intro x hx
              obtain ⟨i, hi, rfl⟩ := List.mem_map.mp hx
              have hi : i < 17 := by simpa using hi
              have hSi : (S10 ++ [DO.lst []])[adX n8 i]? = some (obX (pxD p) i) := by
                have := hat i hi
                rw [List.getElem?_append_left (List.getElem?_eq_some_iff.mp this).1]
                exact this
              refine ⟨_, rfl, ?_⟩
              apply eq_of_wp
              simp only [wq_a, wq_b, wq_c, wq_d, wq_e, wq_f, wq_g, Int.reduceToNat, Int.reduceLE, Int.reduceLT, Int.reduceNeg, startD, List.replicate, Nat.reduceAdd, Nat.reduceSub, Nat.reduceEqDiff, if_true, if_false, Int.reduceEq, Int.reduceAdd, Int.reduceSub, Int.reduceMul, eq_self, wipeD]
              have hi2 : i = 0 ∨ i = 1 ∨ i = 2 ∨ i = 3 ∨ i = 4 ∨ i = 5 ∨ i = 6 ∨ i = 7 ∨ i = 8 ∨ i = 9 ∨ i = 10 ∨ i = 11 ∨ i = 12 ∨ i = 13 ∨ i = 14 ∨ i = 15 ∨ i = 16 := by omega
              rcases hi2 with rfl | rfl | rfl | rfl | rfl | rfl | rfl | rfl | rfl | rfl | rfl | rfl | rfl | rfl | rfl | rfl | rfl
              · rw [kindX_A (i := 0) rfl hSi rfl]
                generalize hM : maskD _ = md
                have m13 : md[13]? = some (some (pxD p)) := by rw [← hM]; exact mask_at rfl (px_pur p)
                have m3 : md[3]? = some (some G) := by rw [← hM]; exact mask_at rfl gpur
                simp only [wq_a, wq_b, wq_c, wq_d, wq_e, wq_f, wq_g, Int.reduceToNat, Int.reduceLE, Int.reduceLT, Int.reduceNeg, startD, List.replicate, Nat.reduceAdd, Nat.reduceSub, Nat.reduceEqDiff, if_true, if_false, Int.reduceEq, Int.reduceAdd, Int.reduceSub, Int.reduceMul, eq_self, m13, m3, kA0, ke, sm]
                exact ⟨by first | rfl | trivial, by first | rfl | trivial⟩
              · rw [kindX_A (i := 1) rfl hSi rfl]
                generalize hM : maskD _ = md
                have m13 : md[13]? = some (some (pxD p)) := by rw [← hM]; exact mask_at rfl (px_pur p)
                have m3 : md[3]? = some (some G) := by rw [← hM]; exact mask_at rfl gpur
                simp only [wq_a, wq_b, wq_c, wq_d, wq_e, wq_f, wq_g, Int.reduceToNat, Int.reduceLE, Int.reduceLT, Int.reduceNeg, startD, List.replicate, Nat.reduceAdd, Nat.reduceSub, Nat.reduceEqDiff, if_true, if_false, Int.reduceEq, Int.reduceAdd, Int.reduceSub, Int.reduceMul, eq_self, m13, m3, kA1, ke, sm]
                exact ⟨by first | rfl | trivial, by first | rfl | trivial⟩
              · rw [kindX_A (i := 2) rfl hSi rfl]
                generalize hM : maskD _ = md
                have m13 : md[13]? = some (some (pxD p)) := by rw [← hM]; exact mask_at rfl (px_pur p)
                have m3 : md[3]? = some (some G) := by rw [← hM]; exact mask_at rfl gpur
                simp only [wq_a, wq_b, wq_c, wq_d, wq_e, wq_f, wq_g, Int.reduceToNat, Int.reduceLE, Int.reduceLT, Int.reduceNeg, startD, List.replicate, Nat.reduceAdd, Nat.reduceSub, Nat.reduceEqDiff, if_true, if_false, Int.reduceEq, Int.reduceAdd, Int.reduceSub, Int.reduceMul, eq_self, m13, m3, kA2, ke, sm]
                exact ⟨by first | rfl | trivial, by first | rfl | trivial⟩
              · rw [kindX_B (i := 0) rfl hSi rfl]
                simp only [wq_a, wq_b, wq_c, wq_d, wq_e, wq_f, wq_g, Int.reduceToNat, Int.reduceLE, Int.reduceLT, Int.reduceNeg, startD, List.replicate, Nat.reduceAdd, Nat.reduceSub, Nat.reduceEqDiff, if_true, if_false, Int.reduceEq, Int.reduceAdd, Int.reduceSub, Int.reduceMul, eq_self, List.map_cons, List.map_nil, kB0, ke, sm]
                exact ⟨by first | rfl | trivial, by first | rfl | trivial⟩
              · rw [kindX_B (i := 1) rfl hSi rfl]
                simp only [wq_a, wq_b, wq_c, wq_d, wq_e, wq_f, wq_g, Int.reduceToNat, Int.reduceLE, Int.reduceLT, Int.reduceNeg, startD, List.replicate, Nat.reduceAdd, Nat.reduceSub, Nat.reduceEqDiff, if_true, if_false, Int.reduceEq, Int.reduceAdd, Int.reduceSub, Int.reduceMul, eq_self, List.map_cons, List.map_nil, kB1, ke, sm]
                exact ⟨by first | rfl | trivial, by first | rfl | trivial⟩
              · rw [kindX_B (i := 2) rfl hSi rfl]
                simp only [wq_a, wq_b, wq_c, wq_d, wq_e, wq_f, wq_g, Int.reduceToNat, Int.reduceLE, Int.reduceLT, Int.reduceNeg, startD, List.replicate, Nat.reduceAdd, Nat.reduceSub, Nat.reduceEqDiff, if_true, if_false, Int.reduceEq, Int.reduceAdd, Int.reduceSub, Int.reduceMul, eq_self, List.map_cons, List.map_nil, kB2, ke, sm]
                exact ⟨by first | rfl | trivial, by first | rfl | trivial⟩
              · rw [kindX_B (i := 3) rfl hSi rfl]
                simp only [wq_a, wq_b, wq_c, wq_d, wq_e, wq_f, wq_g, Int.reduceToNat, Int.reduceLE, Int.reduceLT, Int.reduceNeg, startD, List.replicate, Nat.reduceAdd, Nat.reduceSub, Nat.reduceEqDiff, if_true, if_false, Int.reduceEq, Int.reduceAdd, Int.reduceSub, Int.reduceMul, eq_self, List.map_cons, List.map_nil, kB3, ke, sm]
                exact ⟨by first | rfl | trivial, by first | rfl | trivial⟩
              · rw [kindX_B (i := 4) rfl hSi rfl]
                simp only [wq_a, wq_b, wq_c, wq_d, wq_e, wq_f, wq_g, Int.reduceToNat, Int.reduceLE, Int.reduceLT, Int.reduceNeg, startD, List.replicate, Nat.reduceAdd, Nat.reduceSub, Nat.reduceEqDiff, if_true, if_false, Int.reduceEq, Int.reduceAdd, Int.reduceSub, Int.reduceMul, eq_self, List.map_cons, List.map_nil, kB4, ke, sm]
                exact ⟨by first | rfl | trivial, by first | rfl | trivial⟩
              · rw [kindX_B (i := 5) rfl hSi rfl]
                simp only [wq_a, wq_b, wq_c, wq_d, wq_e, wq_f, wq_g, Int.reduceToNat, Int.reduceLE, Int.reduceLT, Int.reduceNeg, startD, List.replicate, Nat.reduceAdd, Nat.reduceSub, Nat.reduceEqDiff, if_true, if_false, Int.reduceEq, Int.reduceAdd, Int.reduceSub, Int.reduceMul, eq_self, List.map_cons, List.map_nil, kB5, ke, sm]
                exact ⟨by first | rfl | trivial, by first | rfl | trivial⟩
              · rw [kindX_B (i := 6) rfl hSi rfl]
                simp only [wq_a, wq_b, wq_c, wq_d, wq_e, wq_f, wq_g, Int.reduceToNat, Int.reduceLE, Int.reduceLT, Int.reduceNeg, startD, List.replicate, Nat.reduceAdd, Nat.reduceSub, Nat.reduceEqDiff, if_true, if_false, Int.reduceEq, Int.reduceAdd, Int.reduceSub, Int.reduceMul, eq_self, List.map_cons, List.map_nil, kB6, ke, sm]
                exact ⟨by first | rfl | trivial, by first | rfl | trivial⟩
              · rw [kindX_B (i := 7) rfl hSi rfl]
                simp only [wq_a, wq_b, wq_c, wq_d, wq_e, wq_f, wq_g, Int.reduceToNat, Int.reduceLE, Int.reduceLT, Int.reduceNeg, startD, List.replicate, Nat.reduceAdd, Nat.reduceSub, Nat.reduceEqDiff, if_true, if_false, Int.reduceEq, Int.reduceAdd, Int.reduceSub, Int.reduceMul, eq_self, List.map_cons, List.map_nil, kB7, ke, sm]
                exact ⟨by first | rfl | trivial, by first | rfl | trivial⟩
              · rw [kindX_B (i := 8) rfl hSi rfl]
                simp only [wq_a, wq_b, wq_c, wq_d, wq_e, wq_f, wq_g, Int.reduceToNat, Int.reduceLE, Int.reduceLT, Int.reduceNeg, startD, List.replicate, Nat.reduceAdd, Nat.reduceSub, Nat.reduceEqDiff, if_true, if_false, Int.reduceEq, Int.reduceAdd, Int.reduceSub, Int.reduceMul, eq_self, List.map_cons, List.map_nil, kB8, ke, sm]
                exact ⟨by first | rfl | trivial, by first | rfl | trivial⟩
              · rw [kindX_B (i := 9) rfl hSi rfl]
                simp only [wq_a, wq_b, wq_c, wq_d, wq_e, wq_f, wq_g, Int.reduceToNat, Int.reduceLE, Int.reduceLT, Int.reduceNeg, startD, List.replicate, Nat.reduceAdd, Nat.reduceSub, Nat.reduceEqDiff, if_true, if_false, Int.reduceEq, Int.reduceAdd, Int.reduceSub, Int.reduceMul, eq_self, List.map_cons, List.map_nil, kB9, ke, sm]
                exact ⟨by first | rfl | trivial, by first | rfl | trivial⟩
              · rw [kindX_B (i := 10) rfl hSi rfl]
                simp only [wq_a, wq_b, wq_c, wq_d, wq_e, wq_f, wq_g, Int.reduceToNat, Int.reduceLE, Int.reduceLT, Int.reduceNeg, startD, List.replicate, Nat.reduceAdd, Nat.reduceSub, Nat.reduceEqDiff, if_true, if_false, Int.reduceEq, Int.reduceAdd, Int.reduceSub, Int.reduceMul, eq_self, List.map_cons, List.map_nil, kB10, ke, sm]
                exact ⟨by first | rfl | trivial, by first | rfl | trivial⟩
              · rw [kindX_B (i := 11) rfl hSi rfl]
                simp only [wq_a, wq_b, wq_c, wq_d, wq_e, wq_f, wq_g, Int.reduceToNat, Int.reduceLE, Int.reduceLT, Int.reduceNeg, startD, List.replicate, Nat.reduceAdd, Nat.reduceSub, Nat.reduceEqDiff, if_true, if_false, Int.reduceEq, Int.reduceAdd, Int.reduceSub, Int.reduceMul, eq_self, List.map_cons, List.map_nil, kB11, ke, sm]
                exact ⟨by first | rfl | trivial, by first | rfl | trivial⟩
              · rw [kindX_A (i := 3) rfl hSi rfl]
                generalize hM : maskD _ = md
                have m13 : md[13]? = some (some (pxD p)) := by rw [← hM]; exact mask_at rfl (px_pur p)
                have m3 : md[3]? = some (some G) := by rw [← hM]; exact mask_at rfl gpur
                simp only [wq_a, wq_b, wq_c, wq_d, wq_e, wq_f, wq_g, Int.reduceToNat, Int.reduceLE, Int.reduceLT, Int.reduceNeg, startD, List.replicate, Nat.reduceAdd, Nat.reduceSub, Nat.reduceEqDiff, if_true, if_false, Int.reduceEq, Int.reduceAdd, Int.reduceSub, Int.reduceMul, eq_self, m13, m3, kA3, ke, sm]
                exact ⟨by first | rfl | trivial, by first | rfl | trivial⟩
              · rw [kindX_A (i := 4) rfl hSi rfl]
                generalize hM : maskD _ = md
                have m13 : md[13]? = some (some (pxD p)) := by rw [← hM]; exact mask_at rfl (px_pur p)
                have m3 : md[3]? = some (some G) := by rw [← hM]; exact mask_at rfl gpur
                simp only [wq_a, wq_b, wq_c, wq_d, wq_e, wq_f, wq_g, Int.reduceToNat, Int.reduceLE, Int.reduceLT, Int.reduceNeg, startD, List.replicate, Nat.reduceAdd, Nat.reduceSub, Nat.reduceEqDiff, if_true, if_false, Int.reduceEq, Int.reduceAdd, Int.reduceSub, Int.reduceMul, eq_self, m13, m3, kA4, ke, sm]
                exact ⟨by first | rfl | trivial, by first | rfl | trivial⟩
            simp only [wq_a, wq_b, wq_c, wq_d, wq_e, wq_f, wq_g, Int.reduceToNat, Int.reduceLE, Int.reduceLT, Int.reduceNeg, startD, List.replicate, Nat.reduceAdd, Nat.reduceSub, Nat.reduceEqDiff, if_true, if_false, Int.reduceEq, Int.reduceAdd, Int.reduceSub, Int.reduceMul, eq_self]
            rw [w_neG (n := 1) (m := 1) (gd_frl (n := 0) fun d hd => by cases hd) (gd_frl (n := 0) fun d hd => by cases hd)]
            simp only [wq_a, wq_b, wq_c, wq_d, wq_e, wq_f, wq_g, Int.reduceToNat, Int.reduceLE, Int.reduceLT, Int.reduceNeg, startD, List.replicate, Nat.reduceAdd, Nat.reduceSub, Nat.reduceEqDiff, if_true, if_false, Int.reduceEq, Int.reduceAdd, Int.reduceSub, Int.reduceMul, eq_self, decide_true, Bool.not_true, ix0, W_ze]
            rw [show ((ins : Nat) : Int) + 1 = ((ins + 1 : Nat) : Int) from rfl, mulWn (by omega)]
            simp only [wq_a, wq_b, wq_c, wq_d, wq_e, wq_f, wq_g, Int.reduceToNat, Int.reduceLE, Int.reduceLT, Int.reduceNeg, startD, List.replicate, Nat.reduceAdd, Nat.reduceSub, Nat.reduceEqDiff, if_true, if_false, Int.reduceEq, Int.reduceAdd, Int.reduceSub, Int.reduceMul, eq_self, W_x5]
            rw [w_ite (szn (by simp; omega))]
            simp only [wq_a, wq_b, wq_c, wq_d, wq_e, wq_f, wq_g, Int.reduceToNat, Int.reduceLE, Int.reduceLT, Int.reduceNeg, startD, List.replicate, Nat.reduceAdd, Nat.reduceSub, Nat.reduceEqDiff, if_true, if_false, Int.reduceEq, Int.reduceAdd, Int.reduceSub, Int.reduceMul, eq_self, rbb hbs, lenD, lsD, List.length_map, kind_B, same_Bb]
            exact ⟨⟨at10, cv10⟩, _, _, _, _, _, _, _, _, _, _, _, _, _, _, _, _, rfl⟩
          · rintro again sd S' _ ⟨⟨T, rfl, cvT⟩, b9, b12, rfl⟩
            have hdue : (S6 ++ .lst ((prun rows 0 bs).map sW) :: T)[S6.length]? = some (.lst ((prun rows 0 bs).map sW)) := get_mid rfl
            have g9 : Grow (S6 ++ .lst ((prun rows 0 bs).map sW) :: T) (S6 ++ .lst ((prun rows 0 bs).map sW) :: T ++ [.lst ((prun rows 0 bs).map sW)]) := Grow.one _ _
            have e1 := sm_sWs (bs := prun rows 0 bs) (S := S6 ++ .lst ((prun rows 0 bs).map sW) :: T ++ [.lst ((prun rows 0 bs).map sW)]) (x := .ref (S6 ++ .lst ((prun rows 0 bs).map sW) :: T).length) (y := .ref S6.length) (by simp only [lsD, get_last]) (by simp only [lsD, g9.get hdue]) (by rw [prun_len]; omega)
            simp only [wq_a, wq_b, wq_c, wq_d, wq_e, wq_f, wq_g, Int.reduceToNat, Int.reduceLE, Int.reduceLT, Int.reduceNeg, startD, List.replicate, Nat.reduceAdd, Nat.reduceSub, Nat.reduceEqDiff, if_true, if_false, Int.reduceEq, Int.reduceAdd, Int.reduceSub, Int.reduceMul, eq_self, rr hbs (show bs.length ≤ 100000 by omega), same2_ok 1 38 e1]
            rw [w_neG sWs_gd sWs_gd]
            simp only [wq_a, wq_b, wq_c, wq_d, wq_e, wq_f, wq_g, Int.reduceToNat, Int.reduceLE, Int.reduceLT, Int.reduceNeg, startD, List.replicate, Nat.reduceAdd, Nat.reduceSub, Nat.reduceEqDiff, if_true, if_false, Int.reduceEq, Int.reduceAdd, Int.reduceSub, Int.reduceMul, eq_self, decide_true, Bool.not_true]
            rw [w_ite (isTy_lst get_last)]
            simp only [wq_a, wq_b, wq_c, wq_d, wq_e, wq_f, wq_g, Int.reduceToNat, Int.reduceLE, Int.reduceLT, Int.reduceNeg, startD, List.replicate, Nat.reduceAdd, Nat.reduceSub, Nat.reduceEqDiff, if_true, if_false, Int.reduceEq, Int.reduceAdd, Int.reduceSub, Int.reduceMul, eq_self]
            rw [w_appL get_last (by rw [sizeLine_eq, List.length_map, prun_len]; omega), set_last]
            exact ⟨⟨T ++ [.lst ((prun rows 0 bs).map sW ++ [D.str (Str.ofString "")])], by simp, cvT.app fun cs => rfl⟩, _, _, rfl⟩
        · rintro pre b post sd S' e ⟨b7, b16, rfl, rfl⟩
          have hbl2 := hbs b (by rw [e]; simp)
          have hpe := pend_lt P (bs := pre) (i := 0) (by omega) fun x hx => hbs x (by rw [e]; simp [hx])
          have hpl : pre.length ≤ 51 := by have := congrArg List.length e; simp at this; omega
          simp only [wq_a, wq_b, wq_c, wq_d, wq_e, wq_f, wq_g, Int.reduceToNat, Int.reduceLE, Int.reduceLT, Int.reduceNeg, startD, List.replicate, Nat.reduceAdd, Nat.reduceSub, Nat.reduceEqDiff, if_true, if_false, Int.reduceEq, Int.reduceAdd, Int.reduceSub, Int.reduceMul, eq_self, lat hpe hbl2, enD, gTupD]
          rw [w_ite (isTy_lst get_last)]
          simp only [wq_a, wq_b, wq_c, wq_d, wq_e, wq_f, wq_g, Int.reduceToNat, Int.reduceLE, Int.reduceLT, Int.reduceNeg, startD, List.replicate, Nat.reduceAdd, Nat.reduceSub, Nat.reduceEqDiff, if_true, if_false, Int.reduceEq, Int.reduceAdd, Int.reduceSub, Int.reduceMul, eq_self]
          rw [w_appL get_last (by rw [sizeLine_eq, List.length_map, prun_len]; omega), set_last]
          refine ⟨_, _, ?_, by rw [pend_snoc]⟩
          rw [prun_snoc, List.map_append]
          rfl
  obtain ⟨d, S', e, rfl⟩ := Wp.ok main
  exact ⟨S', e⟩
theorem plain : ∀ ns : List Int, ns.length ≤ 63 → ∃ S', F_law [.frl (ns.map .int)] [] = .ok (.bl true) S' := fun ns _ => law_gen (S0 := []) rfl fun cs => rfl
theorem plain2 : ∀ ns : List Int, ns.length ≤ 63 → ∃ S', F_law [.ref 0] [.lst (ns.map .int)] = .ok (.bl true) S' := fun ns _ => law_gen (S0 := [.dead]) rfl fun cs => rfl
end Lw

namespace Lw
open PySem PySem.Spec PyProof.Rows L2 DL
abbrev hkG : PySem.W.Hook := hookG 5 fa fn tf ts exB
def obGG (s : PySem.W.SharedT) : AlV := obG 5 fa fn tf ts exB (HandSHeadRun.getT s)
theorem obGG_eq (s : PySem.W.SharedT) : obGG s = hkG.obs s.abs := obG_eq (HandSHeadRun.getT_eq s)
noncomputable def topA (w : World) (s : PySem.W.SharedT) := (HandSHeadRun.looksF R.prog (PySem.W.boot_heap w.params) s.abs, HandSHeadRun.seenQ (PySem.W.view R.prog [110]) loose (importedModules R.prog.main.body) (fun s => PySem.W.xlAt (PySem.W.view R.prog [110]) [] s && PySem.W.recOk R.toRowW.records s) s.abs)
theorem runA_false (w : World) : TopIs R 20000 (topA (w.withFollow "special-get-raises" false)) (true, PySem.W.openGood (PySem.W.view R.prog [110]) loose) (w.withFollow "special-get-raises" false) := by
  intro os
  kernel_rfl
theorem runB_false (w : World) : TopIs R 20000 (fun s => oneB 5 fa fn (HandSHeadRun.getT s)) true (w.withFollow "special-get-raises" false) := by
  intro os
  kernel_rfl
theorem runC_false (w : World) : TopIs R 20000 (fun s => oneC 5 fn tf ts exB (HandSHeadRun.getT s)) (fn.map He.DefD.val, true, ts.map fun t => some (He.keysIn (World.params (w.withFollow "special-get-raises" false)) t.2)) (w.withFollow "special-get-raises" false) := by
  intro os
  kernel_rfl
theorem runA_true (w : World) : TopIs R 20000 (topA (w.withFollow "special-get-raises" true)) (true, PySem.W.openGood (PySem.W.view R.prog [110]) loose) (w.withFollow "special-get-raises" true) := by
  intro os
  kernel_rfl
theorem runB_true (w : World) : TopIs R 20000 (fun s => oneB 5 fa fn (HandSHeadRun.getT s)) true (w.withFollow "special-get-raises" true) := by
  intro os
  kernel_rfl
theorem runC_true (w : World) : TopIs R 20000 (fun s => oneC 5 fn tf ts exB (HandSHeadRun.getT s)) (fn.map He.DefD.val, true, ts.map fun t => some (He.keysIn (World.params (w.withFollow "special-get-raises" true)) t.2)) (w.withFollow "special-get-raises" true) := by
  intro os
  kernel_rfl
theorem run (w : World) : HandSHeadRun.RunEq R (PySem.W.view R.prog [110]) hkG obGG 20000 loose w := by
  refine PySem.W.byRow2 "special-get-raises" (P := fun w => HandSHeadRun.RunEq R (PySem.W.view R.prog [110]) hkG obGG 20000 loose w) ?_ ?_ w
  · exact fun w => run_parts (runA_false w) (runB_false w) (runC_false w)
  · exact fun w => run_parts (runA_true w) (runB_true w) (runC_true w)
end Lw
open PySem PySem.W PySem.Calls PyProof.Rows
theorem PySem.Challenge.cw_tablebeat_k05_plain_machines_holds : PySem.Challenge.rw_tablebeat_k05_plain_machines.Holds := by
  w_on; o_law
  refine HandSHeadRun.head_any (r := OpenLaw.row PySem.Challenge.rw_tablebeat_k05_plain_machines) (q := view (OpenLaw.row PySem.Challenge.rw_tablebeat_k05_plain_machines).prog [110]) (H := Lw.hkG) (ob := Lw.obGG) (M := 20000) (loose := Lw.loose) (d := HandSHeadRun.topDef (OpenLaw.row PySem.Challenge.rw_tablebeat_k05_plain_machines).prog 110) (kwd := []) Lw.obGG_eq
    (by kernel_rfl) (fun s => by kernel_rfl) Lw.run (by kernel_rfl) (by kernel_rfl) (by kernel_rfl) (by rfl) (by first | assumption | decide +kernel) (by decide +kernel) ⟨rfl, rfl, rfl, rfl, rfl, by decide +kernel⟩ ?hw ?hc
  case hw => w_witness2
  case hc =>
    refine DL.walk_DL (l := PySem.Challenge.rw_tablebeat_k05_plain_machines) (k := 43) (x := "_law_script") (Fl := Lw.F_law) rfl (by kernel_rfl) ⟨rfl, by decide, by decide⟩ Lw.plain Lw.plain2 ?F
    intro w mg fa h Y G hmg0
    obtain ⟨K, KX, c, e, TF, ht⟩ := Y
    have T := Lw.tx_of (w := w) KX G c e ht
    have hmg : mg ("law" : PySem.Str) = some (.ref fa) := by
      have e : (HandSHeadRun.topDef (OpenLaw.row PySem.Challenge.rw_tablebeat_k05_plain_machines).prog 110).name = ("law" : PySem.Str) := by kernel_rfl
      rw [← e]
      exact hmg0
    obtain ⟨fd, Fu⟩ := T.f_law
    have e2 := hmg.symm.trans T.g_law
    cases e2
    obtain ⟨hb, hF⟩ := Lw.d_law (P := (PySem.Challenge.rw_tablebeat_k05_plain_machines).prog) (w := w) T Fu
    exact ⟨K, Lw.cl K w, fd, Lw.tf, DL.tab_tf, KX, TF, hb, fun base _ _ tb => hF base tb⟩

