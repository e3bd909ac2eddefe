import PyProof.Rows.All
import Wide.All
import OpenK.AllK
import Wide.FinOn
import HandS.ForMost
import HandS.ForExc
import HandS.CallSlots
import HandS.TupAny
import HandS.Zip
import HandS.Flow
import HandS.TupMul
import HandS.Lambda
import KE.KeyNested
import HandS.Wide
import HandS.Deep
import HandS.NoneIn
import KE.GoesEnum
import KE.GoesZip
import HandS.Defaults
import HandS.ExcInit
import KE.KStateDown
import HandS.Head0
import HandS.Head1
import HandS.Head2
import HandS.HeadEnd
import HandS.HeadHook1
import HandS.HeadHook2
import HandS.EndBits
import KE.KExcIs
import HandS.ExcIs
import HandS.ExcField
import KE.DataFind
import HandS.IsInst
import HandS.More
import HandS.EndTab
import HandS.HeadHook4
import HandS.HeadHook3
import HandS.Small
import KE.KDictKeyed
import KE.KDictDisplayH
import HandS.Conv
import HandS.SetKeys
import HandS.WordsDict
import HandS.TupLen
import KE.GoesMore
import KE.KDictZip
import HandS.Iter
import KE.LtData
import KE.SortData
import PyProof.WalkInts
import PyProof.MinMaxWalk
import KE.KDictCopyH
import KE.KDictSum
import HandS.SetFor
import PyProof.IsRules
import KE.KDflt
import HandS.RaiseMore
import HandS.Strs
import HandS.TupSets
import HandS.Codes
import PyProof.DictRoadsH
import HandS.TryOnly
import HandS.Rev
import PySem.Challenge.RW_tablebeat_k30_rows_that_find_all
set_option Elab.async false
set_option linter.all false
set_option maxRecDepth 100000
set_option maxHeartbeats 0
namespace DL
open PySem PySem.Spec PyProof.Rows L2

inductive D where
  | non | bl (b : Bool) | int (i : Int) | str (x : Str)
  | tup (xs : List D) | frl (xs : List D) | ref (l : Nat)
  | exn (a dd : Nat) (ns : List Str) (xs : List D)
  deriving Inhabited

mutual
def D.eqd : (a b : D) → Decidable (a = b)
  | .non, .non => Decidable.isTrue rfl
  | .bl a, .bl b => if h : a = b then Decidable.isTrue (by rw [h]) else Decidable.isFalse (fun e => h (by injection e))
  | .int a, .int b => if h : a = b then Decidable.isTrue (by rw [h]) else Decidable.isFalse (fun e => h (by injection e))
  | .str a, .str b => if h : a = b then Decidable.isTrue (by rw [h]) else Decidable.isFalse (fun e => h (by injection e))
  | .tup a, .tup b => match D.eqds a b with
    | Decidable.isTrue h => Decidable.isTrue (by rw [h])
    | Decidable.isFalse h => Decidable.isFalse (fun e => h (by injection e))
  | .frl a, .frl b => match D.eqds a b with
    | Decidable.isTrue h => Decidable.isTrue (by rw [h])
    | Decidable.isFalse h => Decidable.isFalse (fun e => h (by injection e))
  | .ref a, .ref b => if h : a = b then Decidable.isTrue (by rw [h]) else Decidable.isFalse (fun e => h (by injection e))
  | .non, .bl _ => Decidable.isFalse nofun | .non, .int _ => Decidable.isFalse nofun | .non, .str _ => Decidable.isFalse nofun | .non, .tup _ => Decidable.isFalse nofun | .non, .frl _ => Decidable.isFalse nofun | .non, .ref _ => Decidable.isFalse nofun
  | .bl _, .non => Decidable.isFalse nofun | .bl _, .int _ => Decidable.isFalse nofun | .bl _, .str _ => Decidable.isFalse nofun | .bl _, .tup _ => Decidable.isFalse nofun | .bl _, .frl _ => Decidable.isFalse nofun | .bl _, .ref _ => Decidable.isFalse nofun
  | .int _, .non => Decidable.isFalse nofun | .int _, .bl _ => Decidable.isFalse nofun | .int _, .str _ => Decidable.isFalse nofun | .int _, .tup _ => Decidable.isFalse nofun | .int _, .frl _ => Decidable.isFalse nofun | .int _, .ref _ => Decidable.isFalse nofun
  | .str _, .non => Decidable.isFalse nofun | .str _, .bl _ => Decidable.isFalse nofun | .str _, .int _ => Decidable.isFalse nofun | .str _, .tup _ => Decidable.isFalse nofun | .str _, .frl _ => Decidable.isFalse nofun | .str _, .ref _ => Decidable.isFalse nofun
  | .tup _, .non => Decidable.isFalse nofun | .tup _, .bl _ => Decidable.isFalse nofun | .tup _, .int _ => Decidable.isFalse nofun | .tup _, .str _ => Decidable.isFalse nofun | .tup _, .frl _ => Decidable.isFalse nofun | .tup _, .ref _ => Decidable.isFalse nofun
  | .frl _, .non => Decidable.isFalse nofun | .frl _, .bl _ => Decidable.isFalse nofun | .frl _, .int _ => Decidable.isFalse nofun | .frl _, .str _ => Decidable.isFalse nofun | .frl _, .tup _ => Decidable.isFalse nofun | .frl _, .ref _ => Decidable.isFalse nofun
  | .ref _, .non => Decidable.isFalse nofun | .ref _, .bl _ => Decidable.isFalse nofun | .ref _, .int _ => Decidable.isFalse nofun | .ref _, .str _ => Decidable.isFalse nofun | .ref _, .tup _ => Decidable.isFalse nofun | .ref _, .frl _ => Decidable.isFalse nofun
  | .exn a b c d, .exn a' b' c' d' => match D.eqds d d' with
    | Decidable.isTrue h => if g : a = a' ∧ b = b' ∧ c = c' then Decidable.isTrue (by obtain ⟨rfl, rfl, rfl⟩ := g; rw [h]) else Decidable.isFalse (fun e => g (by injection e with e1 e2 e3 e4; exact ⟨e1, e2, e3⟩))
    | Decidable.isFalse h => Decidable.isFalse (fun e => h (by injection e))
  | .non, .exn _ _ _ _ => Decidable.isFalse nofun | .bl _, .exn _ _ _ _ => Decidable.isFalse nofun | .int _, .exn _ _ _ _ => Decidable.isFalse nofun | .str _, .exn _ _ _ _ => Decidable.isFalse nofun | .tup _, .exn _ _ _ _ => Decidable.isFalse nofun | .frl _, .exn _ _ _ _ => Decidable.isFalse nofun | .ref _, .exn _ _ _ _ => Decidable.isFalse nofun
  | .exn _ _ _ _, .non => Decidable.isFalse nofun | .exn _ _ _ _, .bl _ => Decidable.isFalse nofun | .exn _ _ _ _, .int _ => Decidable.isFalse nofun | .exn _ _ _ _, .str _ => Decidable.isFalse nofun | .exn _ _ _ _, .tup _ => Decidable.isFalse nofun | .exn _ _ _ _, .frl _ => Decidable.isFalse nofun | .exn _ _ _ _, .ref _ => Decidable.isFalse nofun
def D.eqds : (a b : List D) → Decidable (a = b)
  | [], [] => Decidable.isTrue rfl
  | [], _ :: _ => Decidable.isFalse nofun
  | _ :: _, [] => Decidable.isFalse nofun
  | x :: xs, y :: ys => match D.eqd x y, D.eqds xs ys with
    | Decidable.isTrue h, Decidable.isTrue g => Decidable.isTrue (by rw [h, g])
    | Decidable.isFalse h, _ => Decidable.isFalse (fun e => h (by injection e))
    | _, Decidable.isFalse g => Decidable.isFalse (fun e => g (by injection e))
end
instance : DecidableEq D := D.eqd

inductive DO where
  | lst (xs : List D)
  | dic (k : Nat) (kvs : List (D × D))
  | ins (c : Nat) (fs : List (Str × D))
  | dead
  deriving Inhabited, DecidableEq
def DO.live : DO → Bool
  | .dead => false
  | .dic 3 _ => false
  | .dic 4 _ => false
  | .dic 5 _ => false
  | .dic 6 _ => false
  | .dic 7 _ => false
  | _ => true

structure Exc where
  c : Nat
  fs : Option (List (Str × D))
  deriving Inhabited, DecidableEq

abbrev Sto := List DO
abbrev Sl := List (Option D)
inductive Res (α : Type) where
  | ok (a : α) (S : Sto) | exc (x : Exc) (S : Sto) | stuck
  deriving Inhabited
def Res.bind {α β : Type} (r : Res α) (k : α → Sto → Res β) : Res β := match r with
  | .ok a S => k a S
  | .exc x S => .exc x S
  | .stuck => .stuck
inductive Fl where
  | nx (sd : Sl) | ret (d : D) | brk (sd : Sl) | cnt (sd : Sl)
  deriving Inhabited

structure Cl where
  f : Nat → Addr
  T : List (Addr × Str)
  hh : NestedKey → Int
  lam : Nat → Hp → Obj → Prop
  lmb : Nat → List V → Hp → Obj → Prop
instance : CoeFun Cl (fun _ => Nat → Addr) := ⟨Cl.f⟩
def Imm : HO → Prop
  | .tup _ => True
  | .frz _ _ => True
  | .xd _ => True
  | u => ∃ c q, u = LamX.CodeO c q
theorem imm_code {c : Addr} {q : Str} : Imm (LamX.CodeO c q) := by
  unfold LamX.CodeO
  exact ⟨c, q, rfl⟩
def Keep (H H' : Hp) : Prop := ∀ a o, H a = some o → Imm o → H' a = some o
theorem Keep.refl (H : Hp) : Keep H H := fun _ _ e _ => e
theorem Keep.trans {H H1 H2 : Hp} (a : Keep H H1) (b : Keep H1 H2) : Keep H H2 := fun x o e i => b x o (a x o e i) i
theorem Keep.new {H : Hp} {p : Addr} {o : HO} (h : H p = none) : Keep H (upd H p o) := fun a u e _ => by
  rw [upd_ne (ne_of_none e h)]; exact e
theorem Keep.put {H : Hp} {p : Addr} {o u : HO} (h : H p = some u) (n : ¬ Imm u) : Keep H (upd H p o) := fun a v e i => by
  have : a ≠ p := fun z => by subst z; rw [h] at e; cases e; exact n i
  rw [upd_ne this]; exact e

def Ext (m m' : List Addr) : Prop := ∀ (l : Nat) (a : Addr), m[l]? = some a → m'[l]? = some a
theorem Ext.refl (m : List Addr) : Ext m m := fun _ _ e => e
theorem Ext.trans {a b c : List Addr} (x : Ext a b) (y : Ext b c) : Ext a c := fun l p e => y l p (x l p e)
theorem Ext.snoc (m : List Addr) (p : Addr) : Ext m (m ++ [p]) := fun l a e => by
  rw [List.getElem?_append_left (List.getElem?_eq_some_iff.mp e).1]; exact e

def Fz (K : PySem.W.Frag) (H : Hp) (a : Addr) (xs : List V) : Prop :=
  (∃ o, H a = some (.frz o (.lst xs))) ∨
    ∃ (o : Obj) (its : Array Value) (n : Nat), K.lookup a = some o ∧ o.cls = .type "list" ∧ o.dict = none ∧ o.data = .seq its n ∧ its.size ≤ sizeLine ∧ Vals xs its.toList
theorem Fz.sq {K : PySem.W.Frag} {H : Hp} {a : Addr} {xs : List V} (h : Fz K H a xs) : SqL K H a xs := by
  rcases h with h | h
  · exact .inl (.inr h)
  · exact .inr h
theorem Fz.keep {K : PySem.W.Frag} {H H' : Hp} {a : Addr} {xs : List V} (k : Keep H H') (h : Fz K H a xs) : Fz K H' a xs := by
  rcases h with ⟨o, h⟩ | h
  · exact .inl ⟨o, k _ _ h trivial⟩
  · exact .inr h
theorem sqT_keep {K : PySem.W.Frag} {H H' : Hp} {a : Addr} {xs : List V} (k : Keep H H') (h : SqT K H a xs) : SqT K H' a xs := by
  rcases h with (h | ⟨o, h⟩) | h
  · exact .inl (.inl (k _ _ h trivial))
  · exact .inl (.inr ⟨o, k _ _ h trivial⟩)
  · exact .inr h

mutual
def RV (K : PySem.W.Frag) (m : List Addr) (H : Hp) : D → V → Prop
  | .non, v => v = .non
  | .bl b, v => v = .bl b
  | .int i, v => v = .int i
  | .str x, v => v = .str x
  | .tup ds, v => ∃ a vs, v = .ref a ∧ SqT K H a vs ∧ RVs K m H ds vs
  | .frl ds, v => ∃ a vs, v = .ref a ∧ Fz K H a vs ∧ RVs K m H ds vs
  | .ref l, v => ∃ a, m[l]? = some a ∧ v = .ref a
  | .exn a dd ns ds, v => v = .ref a ∧ ∃ vs, RVs K m H ds vs ∧ (ns ≠ [] → H dd = some (.xd (ns.zip vs)))
def RVs (K : PySem.W.Frag) (m : List Addr) (H : Hp) : List D → List V → Prop
  | [], vs => vs = []
  | d :: ds, vs => ∃ v vs', vs = v :: vs' ∧ RV K m H d v ∧ RVs K m H ds vs'
end

section
variable {K : PySem.W.Frag} {m m' : List Addr} {H H' : Hp}
mutual
theorem RV.mono (x : Ext m m') (k : Keep H H') : ∀ (d : D) {v : V}, RV K m H d v → RV K m' H' d v
  | .non, _, h => h
  | .bl _, _, h => h
  | .int _, _, h => h
  | .str _, _, h => h
  | .tup ds, _, ⟨a, vs, e, s, r⟩ => ⟨a, vs, e, sqT_keep k s, RVs.mono x k ds r⟩
  | .frl ds, _, ⟨a, vs, e, s, r⟩ => ⟨a, vs, e, s.keep k, RVs.mono x k ds r⟩
  | .ref l, _, ⟨a, e, r⟩ => ⟨a, x l a e, r⟩
  | .exn a dd ns ds, _, ⟨e, vs, r, h⟩ => ⟨e, vs, RVs.mono x k ds r, fun n => k _ _ (h n) trivial⟩
theorem RVs.mono (x : Ext m m') (k : Keep H H') : ∀ (ds : List D) {vs : List V}, RVs K m H ds vs → RVs K m' H' ds vs
  | [], _, h => h
  | d :: ds, _, ⟨v, vs', e, r, t⟩ => ⟨v, vs', e, RV.mono x k d r, RVs.mono x k ds t⟩
end
theorem RVs.length : ∀ {ds : List D} {vs : List V}, RVs K m H ds vs → ds.length = vs.length
  | [], _, h => by cases h; rfl
  | d :: ds, _, ⟨v, vs', e, r, t⟩ => by subst e; simp [RVs.length t]
theorem RVs.get : ∀ {ds : List D} {vs : List V} {i : Nat} {d : D}, RVs K m H ds vs → ds[i]? = some d → ∃ v, vs[i]? = some v ∧ RV K m H d v
  | [], _, _, _, _, e => by simp at e
  | d :: ds, _, 0, _, ⟨v, vs', e, r, t⟩, h => by
    subst e; simp at h; subst h; exact ⟨v, rfl, r⟩
  | d :: ds, _, i + 1, _, ⟨v, vs', e, r, t⟩, h => by
    subst e
    obtain ⟨w, e1, e2⟩ := RVs.get (i := i) t (by simpa using h)
    exact ⟨w, by simpa using e1, e2⟩
theorem RVs.set {d : D} {v : V} (r : RV K m H d v) : ∀ {ds : List D} {vs : List V} (i : Nat), RVs K m H ds vs → RVs K m H (ds.set i d) (vs.set i v)
  | [], _, _, h => by cases h; exact rfl
  | _ :: _, _, 0, ⟨w, vs', e, q, t⟩ => by subst e; exact ⟨v, vs', rfl, r, t⟩
  | _ :: _, _, i + 1, ⟨w, vs', e, q, t⟩ => by subst e; exact ⟨w, vs'.set i v, rfl, q, RVs.set r i t⟩
theorem RVs.append : ∀ {ds es : List D} {vs ws : List V}, RVs K m H ds vs → RVs K m H es ws → RVs K m H (ds ++ es) (vs ++ ws)
  | [], _, _, _, h, s => by cases h; exact s
  | _ :: _, _, _, _, ⟨w, vs', e, q, t⟩, s => by subst e; exact ⟨w, _, rfl, q, RVs.append t s⟩
theorem RVs.one {d : D} {v : V} (r : RV K m H d v) : RVs K m H [d] [v] := ⟨v, [], rfl, r, rfl⟩
theorem RVs.take : ∀ {ds : List D} {vs : List V} (n : Nat), RVs K m H ds vs → RVs K m H (ds.take n) (vs.take n)
  | _, _, 0, _ => rfl
  | [], _, _ + 1, h => by cases h; exact rfl
  | _ :: _, _, n + 1, ⟨w, vs', e, q, t⟩ => by subst e; exact ⟨w, _, rfl, q, RVs.take n t⟩
theorem RVs.drop : ∀ {ds : List D} {vs : List V} (n : Nat), RVs K m H ds vs → RVs K m H (ds.drop n) (vs.drop n)
  | _, _, 0, h => h
  | [], _, _ + 1, h => by cases h; exact rfl
  | _ :: _, _, n + 1, ⟨w, vs', e, q, t⟩ => by subst e; exact RVs.drop n t
theorem RVs.rep {ds : List D} {vs : List V} (r : RVs K m H ds vs) : ∀ n : Nat, RVs K m H (List.replicate n ds).flatten (List.replicate n vs).flatten
  | 0 => rfl
  | n + 1 => by
    rw [List.replicate_succ, List.replicate_succ, List.flatten_cons, List.flatten_cons]
    exact RVs.append r (RVs.rep r n)
theorem RVs.erase : ∀ {ds : List D} {vs : List V} (n : Nat), RVs K m H ds vs → RVs K m H (ds.eraseIdx n) (vs.eraseIdx n)
  | [], _, _, h => by cases h; exact rfl
  | _ :: _, _, 0, ⟨w, vs', e, q, t⟩ => by subst e; exact t
  | _ :: _, _, n + 1, ⟨w, vs', e, q, t⟩ => by subst e; exact ⟨w, _, rfl, q, RVs.erase n t⟩
theorem RVs.snoc {ds : List D} {vs : List V} {d : D} {v : V} (t : RVs K m H ds vs) (r : RV K m H d v) : RVs K m H (ds ++ [d]) (vs ++ [v]) := t.append (.one r)
theorem RVs.dropLast : ∀ {ds : List D} {vs : List V}, RVs K m H ds vs → RVs K m H ds.dropLast vs.dropLast := fun {ds vs} t => by
  rw [List.dropLast_eq_take, List.dropLast_eq_take, t.length]; exact t.take _
end

def RF (K : PySem.W.Frag) (m : List Addr) (H : Hp) : List (Str × D) → List (Str × V) → Prop
  | [], gs => gs = []
  | p :: fs, gs => ∃ v gs', gs = (p.1, v) :: gs' ∧ RV K m H p.2 v ∧ RF K m H fs gs'
def key0 : D → Option Key
  | .int i => some (.inl i)
  | .str x => some (.inr x)
  | _ => none
def RD0 (K : PySem.W.Frag) (m : List Addr) (H : Hp) : List (D × D) → List (Key × V) → Prop
  | [], gs => gs = []
  | p :: fs, gs => ∃ k v gs', gs = (k, v) :: gs' ∧ key0 p.1 = some k ∧ RV K m H p.2 v ∧ RD0 K m H fs gs'
def keys0 : List D → Option (List Key)
  | [] => some []
  | d :: ds => match key0 d, keys0 ds with
    | some k, some ks => some (k :: ks)
    | _, _ => none
def key1 : D → Option (List Key)
  | .tup ds => keys0 ds
  | _ => none
def RD1 (K : PySem.W.Frag) (m : List Addr) (H : Hp) : List (D × D) → List (List Key × V) → Prop
  | [], gs => gs = []
  | p :: fs, gs => ∃ k v gs', gs = (k, v) :: gs' ∧ key1 p.1 = some k ∧ RV K m H p.2 v ∧ RD1 K m H fs gs'
mutual
def nkey : D → Option NestedKey
  | .non => some .none
  | .int i => some (.num i)
  | .str x => some (.text x)
  | .tup ds => match nkeys ds with
    | some ks => some (.tup ks)
    | none => none
  | .bl _ => none
  | .frl _ => none
  | .ref _ => none
  | .exn _ _ _ _ => none
def nkeys : List D → Option (List NestedKey)
  | [] => some []
  | d :: ds => match nkey d, nkeys ds with
    | some k, some ks => some (k :: ks)
    | _, _ => none
end
def RawO (a : Addr) (es : Array DictEntry) (ep : Nat) : HO := .ext fun h => ∃ o, h.get? a = some o ∧ o.ExactDict ∧ o.data = .dict es ep
theorem rawO_ne {a c : Addr} {es : Array DictEntry} {ep : Nat} {q : Str} : RawO a es ep ≠ LamX.CodeO c q := by
  intro z
  unfold RawO LamX.CodeO at z
  injection z with z
  have h1 : ∃ o, (⟨Array.replicate (a + 1) { cls := .type "dict", data := .dict es ep }, {}⟩ : Heap).get? a = some o ∧ o.ExactDict ∧ o.data = .dict es ep := by
    refine ⟨{ cls := .type "dict", data := .dict es ep }, ?_, ⟨rfl, rfl, rfl⟩, rfl⟩
    simp only [Heap.get?, Array.getElem?_replicate]
    rw [if_pos (by omega)]
  have h2 := congrFun z ⟨Array.replicate (a + 1) { cls := .type "dict", data := .dict es ep }, {}⟩
  rw [h2] at h1
  obtain ⟨oc, vs, t, e1, e2, _⟩ := h1
  simp only [Heap.get?, Array.getElem?_replicate] at e1
  by_cases hc : c < a + 1
  · rw [if_pos hc] at e1
    cases e1
    cases e2
  · rw [if_neg hc] at e1
    cases e1
def RD2 (K : PySem.W.Frag) (m : List Addr) (H : Hp) : List (D × D) → List (NestedKey × Addr × Value) → Prop
  | [], xs => xs = []
  | p :: fs, xs => ∃ k b v u xs', xs = (k, b, u) :: xs' ∧ nkey p.1 = some k ∧ k.depth ≤ 8 ∧ RV K m H p.1 (.ref b) ∧ RV K m H p.2 v ∧ RelV v u ∧ RD2 K m H fs xs'
def RO (cl : Cl) (K : PySem.W.Frag) (m : List Addr) (H : Hp) : DO → Addr → Prop
  | .lst ds, a => ∃ vs, H a = some (.lst vs) ∧ RVs K m H ds vs
  | .dic 0 kvs, a => ∃ gs, H a = some (.dK gs) ∧ RD0 K m H kvs gs
  | .dic 1 kvs, a => ∃ gs, H a = some (.dT gs) ∧ RD1 K m H kvs gs
  | .dic 2 kvs, a => ∃ xs es ep, H a = some (RawO a es ep) ∧ es.toList = xs.map (fun x => ⟨cl.hh x.1, .ref x.2.1, x.2.2⟩) ∧ (xs.map (·.1)).Nodup ∧ (a == sysModules) = false ∧ RD2 K m H kvs xs
  | .dic 3 kvs, a => ∃ gs o, H a = some (.frz o (.dK gs)) ∧ RD0 K m H kvs gs
  | .dic 4 kvs, a => ∃ ds o vs, kvs = [(.non, .tup ds)] ∧ H a = some (.frz o (.tup vs)) ∧ o.cls = .type "tuple" ∧ o.dict = none ∧ RVs K m H ds vs
  | .dic 5 kvs, a => ∃ i o u, kvs = [(.int i, .non)] ∧ H a = some (.frz o u) ∧ ∀ H', Keep H H' → cl.lam i.toNat H' o
  | .dic 6 kvs, a => ∃ xs es ep o, H a = some (.frz o (RawO a es ep)) ∧ es.toList = xs.map (fun x => ⟨cl.hh x.1, .ref x.2.1, x.2.2⟩) ∧ (xs.map (·.1)).Nodup ∧ (a == sysModules) = false ∧ RD2 K m H kvs xs
  | .dic 7 kvs, a => ∃ i ds vs o u, kvs = [(.int i, .tup ds)] ∧ H a = some (.frz o u) ∧ RVs K m H ds vs ∧ ∀ H', Keep H H' → cl.lmb i.toNat vs H' o
  | .dic _ _, _ => False
  | .ins c fs, a => ∃ dx gs, H a = some (.ins (cl c) dx gs) ∧ RF K m H fs gs
  | .dead, a => ∃ o xs, H a = some (.frz o (.lst xs))
section
variable {cl : Cl} {K : PySem.W.Frag} {m m' : List Addr} {H H' : Hp}
theorem RF.mono (x : Ext m m') (k : Keep H H') : ∀ {fs : List (Str × D)} {gs : List (Str × V)}, RF K m H fs gs → RF K m' H' fs gs
  | [], _, h => h
  | _ :: _, _, ⟨v, gs', e, r, t⟩ => ⟨v, gs', e, RV.mono x k _ r, RF.mono x k t⟩
theorem RD0.mono (x : Ext m m') (k : Keep H H') : ∀ {fs : List (D × D)} {gs : List (Key × V)}, RD0 K m H fs gs → RD0 K m' H' fs gs
  | [], _, h => h
  | _ :: _, _, ⟨q, v, gs', e, hk, r, t⟩ => ⟨q, v, gs', e, hk, RV.mono x k _ r, RD0.mono x k t⟩
theorem RD1.mono (x : Ext m m') (k : Keep H H') : ∀ {fs : List (D × D)} {gs : List (List Key × V)}, RD1 K m H fs gs → RD1 K m' H' fs gs
  | [], _, h => h
  | _ :: _, _, ⟨q, v, gs', e, hk, r, t⟩ => ⟨q, v, gs', e, hk, RV.mono x k _ r, RD1.mono x k t⟩
theorem RD2.mono (x : Ext m m') (k : Keep H H') : ∀ {fs : List (D × D)} {xs : List (NestedKey × Addr × Value)}, RD2 K m H fs xs → RD2 K m' H' fs xs
  | [], _, h => h
  | _ :: _, _, ⟨q, b, v, u, xs', e, hk, hd, r1, r2, r3, t⟩ => ⟨q, b, v, u, xs', e, hk, hd, RV.mono x k _ r1, RV.mono x k _ r2, r3, RD2.mono x k t⟩
theorem RO.mono (x : Ext m m') (k : Keep H H') {a : Addr} (ha : H' a = H a) : ∀ {o : DO}, RO cl K m H o a → RO cl K m' H' o a
  | .lst ds, ⟨vs, e, r⟩ => ⟨vs, by rw [ha]; exact e, r.mono x k⟩
  | .dic 0 kvs, ⟨gs, e, r⟩ => ⟨gs, by rw [ha]; exact e, r.mono x k⟩
  | .dic 1 kvs, ⟨gs, e, r⟩ => ⟨gs, by rw [ha]; exact e, r.mono x k⟩
  | .dic 2 kvs, ⟨xs, es, ep, e, e1, e2, e3, r⟩ => ⟨xs, es, ep, by rw [ha]; exact e, e1, e2, e3, r.mono x k⟩
  | .dic 3 kvs, ⟨gs, o, e, r⟩ => ⟨gs, o, by rw [ha]; exact e, r.mono x k⟩
  | .dic 4 kvs, ⟨ds, o, vs, e0, e, e1, e2, r⟩ => ⟨ds, o, vs, e0, by rw [ha]; exact e, e1, e2, r.mono x k⟩
  | .dic 5 kvs, ⟨i, o, u, e0, e, r⟩ => ⟨i, o, u, e0, by rw [ha]; exact e, fun H2 k2 => r H2 (k.trans k2)⟩
  | .dic 6 kvs, ⟨xs, es, ep, o, e, e1, e2, e3, r⟩ => ⟨xs, es, ep, o, by rw [ha]; exact e, e1, e2, e3, r.mono x k⟩
  | .dic 7 kvs, ⟨i, ds, vs, o, u, e0, e, r, q⟩ => ⟨i, ds, vs, o, u, e0, by rw [ha]; exact e, r.mono x k, fun H2 k2 => q H2 (k.trans k2)⟩
  | .dic (_ + 8) kvs, h => h.elim
  | .ins c fs, ⟨dx, gs, e, r⟩ => ⟨dx, gs, by rw [ha]; exact e, r.mono x k⟩
  | .dead, ⟨o, u, e⟩ => ⟨o, u, by rw [ha]; exact e⟩
def OwnH (u : HO) : Prop := (∀ ps, u ≠ .tbl ps) ∧ ∀ c q, u ≠ LamX.CodeO c q
theorem RO.some {a : Addr} : ∀ {o : DO}, RO cl K m H o a → o.live = true → ∃ u, H a = some u ∧ ¬ Imm u ∧ OwnH u
  | .lst ds, ⟨vs, e, r⟩, _ => ⟨_, e, (fun z => by obtain ⟨c, q, z⟩ := z; unfold LamX.CodeO at z; cases z), (fun _ z => by cases z), fun _ _ z => by unfold LamX.CodeO at z; cases z⟩
  | .dic 0 kvs, ⟨gs, e, r⟩, _ => ⟨_, e, (fun z => by obtain ⟨c, q, z⟩ := z; unfold LamX.CodeO at z; cases z), (fun _ z => by cases z), fun _ _ z => by unfold LamX.CodeO at z; cases z⟩
  | .dic 1 kvs, ⟨gs, e, r⟩, _ => ⟨_, e, (fun z => by obtain ⟨c, q, z⟩ := z; unfold LamX.CodeO at z; cases z), (fun _ z => by cases z), fun _ _ z => by unfold LamX.CodeO at z; cases z⟩
  | .dic 2 kvs, ⟨xs, es, ep, e, _⟩, _ => ⟨_, e, (fun z => by unfold RawO at z; obtain ⟨c, q, z⟩ := z; exact rawO_ne z), (fun _ z => by unfold RawO at z; cases z), fun _ _ z => rawO_ne z⟩
  | .dic 3 _, _, h => by cases h
  | .dic 4 _, _, h => by cases h
  | .dic 5 _, _, h => by cases h
  | .dic 6 kvs, _, h => by cases h
  | .dic 7 _, _, h => by cases h
  | .dic (_ + 8) kvs, h, _ => h.elim
  | .ins c fs, ⟨dx, gs, e, r⟩, _ => ⟨_, e, (fun z => by obtain ⟨c, q, z⟩ := z; unfold LamX.CodeO at z; cases z), (fun _ z => by cases z), fun _ _ z => by unfold LamX.CodeO at z; cases z⟩
  | .dead, _, h => by cases h
theorem RO.any {a : Addr} : ∀ {o : DO}, RO cl K m H o a → ∃ u, H a = Option.some u ∧ OwnH u
  | .dead, ⟨o, u, e⟩ => ⟨_, e, (fun _ z => by cases z), fun _ _ z => by unfold LamX.CodeO at z; cases z⟩
  | .lst _, h => let ⟨u, e, _, w⟩ := RO.some h rfl; ⟨u, e, w⟩
  | .dic 0 _, h => let ⟨u, e, _, w⟩ := RO.some h rfl; ⟨u, e, w⟩
  | .dic 1 _, h => let ⟨u, e, _, w⟩ := RO.some h rfl; ⟨u, e, w⟩
  | .dic 2 _, h => let ⟨u, e, _, w⟩ := RO.some h rfl; ⟨u, e, w⟩
  | .dic 3 _, ⟨gs, o, e, r⟩ => ⟨_, e, (fun _ z => by cases z), fun _ _ z => by unfold LamX.CodeO at z; cases z⟩
  | .dic 4 _, ⟨_, o, vs, _, e, _⟩ => ⟨_, e, (fun _ z => by cases z), fun _ _ z => by unfold LamX.CodeO at z; cases z⟩
  | .dic 5 _, ⟨_, o, u, _, e, _⟩ => ⟨_, e, (fun _ z => by cases z), fun _ _ z => by unfold LamX.CodeO at z; cases z⟩
  | .dic 6 _, ⟨_, _, _, o, e, _⟩ => ⟨_, e, (fun _ z => by cases z), fun _ _ z => by unfold LamX.CodeO at z; cases z⟩
  | .dic 7 _, ⟨_, _, _, o, _, _, e, _⟩ => ⟨_, e, (fun _ z => by cases z), fun _ _ z => by unfold LamX.CodeO at z; cases z⟩
  | .dic (_ + 8) _, h => h.elim
  | .ins _ _, h => let ⟨u, e, _, w⟩ := RO.some h rfl; ⟨u, e, w⟩
end
structure RS (cl : Cl) (K : PySem.W.Frag) (m : List Addr) (S : Sto) (H : Hp) : Prop where
  len : m.length = S.length
  nd : ∀ (i j : Nat) (a : Addr), m[i]? = some a → m[j]? = some a → i = j
  obj : ∀ (l : Nat) (o : DO) (a : Addr), S[l]? = some o → m[l]? = some a → RO cl K m H o a
  tb : LamX.Tabs cl.T H
structure RSl (K : PySem.W.Frag) (m : List Addr) (H : Hp) (sd : Sl) (σ : L2.St) : Prop where
  len : sd.length = σ.length
  at_ : ∀ (i : Nat) (d : D), sd[i]? = some (some d) → ∃ v, σ[i]? = some (some v) ∧ RV K m H d v
def RX (K : PySem.W.Frag) (m : List Addr) (H : Hp) (x : Exc) (dd : Option Addr) : Prop :=
  match x.fs with
  | none => dd = none
  | some fs => ∃ d gs, dd = some d ∧ H d = some (.xd gs) ∧ RF K m H fs gs
section
variable {cl : Cl} {K : PySem.W.Frag} {m m' : List Addr} {S : Sto} {H H' : Hp} {sd : Sl} {σ : L2.St}
theorem RS.adr (r : RS cl K m S H) {l : Nat} {o : DO} (h : S[l]? = some o) : ∃ a, m[l]? = some a ∧ RO cl K m H o a := by
  have hl : l < m.length := by rw [r.len]; exact (List.getElem?_eq_some_iff.mp h).1
  have e : m[l]? = some m[l] := by simp [hl]
  exact ⟨m[l], e, r.obj l o _ h e⟩
theorem RS.back (r : RS cl K m S H) {l : Nat} {a : Addr} (h : m[l]? = some a) : ∃ o, S[l]? = some o ∧ RO cl K m H o a := by
  have hl : l < S.length := by rw [← r.len]; exact (List.getElem?_eq_some_iff.mp h).1
  have e : S[l]? = some S[l] := by simp [hl]
  exact ⟨S[l], e, r.obj l _ _ e h⟩
theorem RS.new (r : RS cl K m S H) {p : Addr} {u : HO} {o : DO} (hp : H p = none) (ho : RO cl K (m ++ [p]) (upd H p u) o p) : RS cl K (m ++ [p]) (S ++ [o]) (upd H p u) := by
  have ne : ∀ (l : Nat) (a : Addr), m[l]? = some a → a ≠ p := fun l a e => by
    obtain ⟨o', _, ro⟩ := r.back e
    obtain ⟨u', h', _⟩ := ro.any
    exact ne_of_none h' hp
  refine ⟨by simp [r.len], fun i j a hi hj => ?_, fun l o' a hs hm => ?_, r.tb.ext fun b o e => by rw [upd_ne (ne_of_none e hp)]; exact e⟩
  · rw [List.getElem?_append] at hi hj
    split at hi <;> split at hj
    · exact r.nd i j a hi hj
    · rename_i h1 h2
      have : a = p := by
        cases hz : j - m.length with
        | zero => rw [hz] at hj; simp at hj; exact hj.symm
        | succ n => rw [hz] at hj; simp at hj
      exact absurd this (ne i a hi)
    · have : a = p := by
        cases hz : i - m.length with
        | zero => rw [hz] at hi; simp at hi; exact hi.symm
        | succ n => rw [hz] at hi; simp at hi
      exact absurd this (ne j a hj)
    · rename_i h1 h2
      have e1 : i - m.length = 0 := by
        cases hz : i - m.length with
        | zero => rfl
        | succ n => rw [hz] at hi; simp at hi
      have e2 : j - m.length = 0 := by
        cases hz : j - m.length with
        | zero => rfl
        | succ n => rw [hz] at hj; simp at hj
      omega
  · rw [List.getElem?_append] at hs hm
    rw [← r.len] at hs
    split at hm
    · rename_i h1
      rw [if_pos h1] at hs
      exact (r.obj l o' a hs hm).mono (Ext.snoc m p) (Keep.new hp) (upd_ne (ne l a hm))
    · rename_i h1
      rw [if_neg h1] at hs
      have e1 : l - m.length = 0 := by
        cases hz : l - m.length with
        | zero => rfl
        | succ n => rw [hz] at hm; simp at hm
      rw [e1] at hm hs
      simp at hm hs
      subst hm hs
      exact ho
theorem tabs_put {T : List (Addr × Str)} {H : Hp} {a : Addr} {u0 u : HO} (hu : H a = some u0) (ow : OwnH u0) (t : LamX.Tabs T H) : LamX.Tabs T (upd H a u) := fun p hp => by
  obtain ⟨ps, h1, h2, h3⟩ := t p hp
  have ne : ∀ b w, H b = some w → (w = u0 → False) → b ≠ a := fun b w e n z => by subst z; rw [hu] at e; cases e; exact n rfl
  refine ⟨ps, by rw [upd_ne (ne _ _ h1 fun z => ow.1 ps z.symm)]; exact h1, h2, fun pos cv hc => ?_⟩
  obtain ⟨c, e1, e2⟩ := h3 pos cv hc
  exact ⟨c, e1, by rw [upd_ne (ne _ _ e2 fun z => ow.2 _ _ z.symm)]; exact e2⟩
theorem RS.put (r : RS cl K m S H) {l : Nat} {a : Addr} {o o' : DO} {u : HO} (hs : S[l]? = some o) (hm : m[l]? = some a) (ho : RO cl K m (upd H a u) o' a) (lv : o.live = true := by rfl) : RS cl K m (S.set l o') (upd H a u) := by
  have hl : l < S.length := (List.getElem?_eq_some_iff.mp hs).1
  obtain ⟨u0, hu, ni, ow⟩ := (r.obj l o a hs hm).some lv
  refine ⟨by simp [r.len], r.nd, fun i o2 b h1 h2 => ?_, tabs_put hu ow r.tb⟩
  by_cases e : l = i
  · subst e
    rw [hm] at h2; cases h2
    rw [List.getElem?_set_self hl] at h1; cases h1
    exact ho
  · rw [List.getElem?_set_ne e] at h1
    have nb : b ≠ a := fun z => by subst z; exact e (r.nd l i b hm h2)
    exact (r.obj i o2 b h1 h2).mono (Ext.refl m) (Keep.put hu ni) (upd_ne nb)
theorem RS.keepPut (r : RS cl K m S H) {l : Nat} {a : Addr} {o : DO} {u : HO} (hs : S[l]? = some o) (hm : m[l]? = some a) (lv : o.live = true := by rfl) : Keep H (upd H a u) := by
  obtain ⟨u0, hu, ni, _⟩ := (r.obj l o a hs hm).some lv
  exact Keep.put hu ni
theorem RS.ext (r : RS cl K m S H) {p : Addr} {u : HO} (hp : H p = none) : RS cl K m S (upd H p u) :=
  ⟨r.len, r.nd, fun l o a h1 h2 => by
    obtain ⟨u0, hu, _⟩ := (r.obj l o a h1 h2).any
    exact (r.obj l o a h1 h2).mono (Ext.refl m) (Keep.new hp) (upd_ne (ne_of_none hu hp)), r.tb.ext fun b o e => by rw [upd_ne (ne_of_none e hp)]; exact e⟩
theorem RSl.mono (x : Ext m m') (k : Keep H H') (r : RSl K m H sd σ) : RSl K m' H' sd σ :=
  ⟨r.len, fun i d e => let ⟨v, e1, e2⟩ := r.at_ i d e; ⟨v, e1, RV.mono x k d e2⟩⟩
theorem RSl.set {d : D} {v : V} (r : RSl K m H sd σ) (i : Nat) (h : RV K m H d v) : RSl K m H (sd.set i (some d)) (σ.set i (some v)) := by
  refine ⟨by simp [r.len], fun j d' e => ?_⟩
  by_cases z : i = j
  · subst z
    have hl : i < sd.length := by have := (List.getElem?_eq_some_iff.mp e).1; simpa using this
    rw [List.getElem?_set_self hl] at e; cases e
    exact ⟨v, by rw [List.getElem?_set_self (by rw [← r.len]; exact hl)], h⟩
  · rw [List.getElem?_set_ne z] at e
    rw [List.getElem?_set_ne z]
    exact r.at_ j d' e
theorem RSl.unset (r : RSl K m H sd σ) (i : Nat) : RSl K m H (sd.set i none) (σ.set i none) := by
  refine ⟨by simp [r.len], fun j d' e => ?_⟩
  by_cases z : i = j
  · subst z
    have hl : i < sd.length := by have := (List.getElem?_eq_some_iff.mp e).1; simpa using this
    rw [List.getElem?_set_self hl] at e; cases e
  · rw [List.getElem?_set_ne z] at e
    rw [List.getElem?_set_ne z]
    exact r.at_ j d' e
end

section
variable (cl : Cl) (K : PySem.W.Frag)
def Post {α β : Type} (Rv : List Addr → Hp → α → β → Prop) (m : List Addr) (H : Hp) (E : XK) (Q : β → Hp → Prop) : Res α → Prop
  | .ok d S' => ∀ m' v H', Ext m m' → Keep H H' → RS cl K m' S' H' → Rv m' H' d v → Q v H'
  | .exc x S' => ∀ m' dd H', Ext m m' → Keep H H' → RS cl K m' S' H' → RX K m' H' x dd → E (.ref (cl x.c)) dd H'
  | .stuck => False
end
section
variable {cl : Cl} {K : PySem.W.Frag} {α β γ δ : Type} {Rv : List Addr → Hp → α → β → Prop} {Rw : List Addr → Hp → γ → δ → Prop} {m m' : List Addr} {H H' : Hp} {E : XK} {Q : β → Hp → Prop}
theorem Post.mono (x : Ext m m') (k : Keep H H') : ∀ {r : Res α}, Post cl K Rv m H E Q r → Post cl K Rv m' H' E Q r
  | .ok _ _, h => fun m2 v H2 x2 k2 => h m2 v H2 (x.trans x2) (k.trans k2)
  | .exc _ _, h => fun m2 v H2 x2 k2 => h m2 v H2 (x.trans x2) (k.trans k2)
  | .stuck, h => h
theorem Post.bind {r : Res α} {k : α → Sto → Res γ} {Q' : δ → Hp → Prop} (h : Post cl K Rw m H E Q' (r.bind k))
    (hk : ∀ d S1 m1 v H1, Ext m m1 → Keep H H1 → RS cl K m1 S1 H1 → Rv m1 H1 d v → Post cl K Rw m1 H1 E Q' (k d S1) → Q v H1) : Post cl K Rv m H E Q r := by
  cases r with
  | ok d S1 => exact fun m1 v H1 x1 k1 rs rv => hk d S1 m1 v H1 x1 k1 rs rv (Post.mono x1 k1 h)
  | exc x S1 => exact h
  | stuck => exact h
theorem Post.imp {Q' : β → Hp → Prop} (hq : ∀ v H, Q v H → Q' v H) : ∀ {r : Res α}, Post cl K Rv m H E Q r → Post cl K Rv m H E Q' r
  | .ok _ _, h => fun m2 v H2 x2 k2 a b => hq _ _ (h m2 v H2 x2 k2 a b)
  | .exc _ _, h => h
  | .stuck, h => h
theorem Post.here {d : α} {v : β} {S : Sto} (h : Post cl K Rv m H E Q (.ok d S)) (rs : RS cl K m S H) (rv : Rv m H d v) : Q v H := h m v H (Ext.refl m) (Keep.refl H) rs rv
end
def RBool : List Addr → Hp → Bool → Bool → Prop := fun _ _ a b => a = b
inductive FC where
  | nx (σ : L2.St) | ret (v : V) | brk (σ : L2.St) | cnt (σ : L2.St)
def endQ (D : Ends) : FC → Hp → Prop
  | .nx σ, H => D.nx σ H
  | .ret v, H => D.rt v H
  | .brk σ, H => D.bk σ H
  | .cnt σ, H => D.ct σ H
def RFl (K : PySem.W.Frag) (m : List Addr) (H : Hp) : Fl → FC → Prop
  | .nx sd, .nx σ => RSl K m H sd σ
  | .ret d, .ret v => RV K m H d v
  | .brk sd, .brk σ => RSl K m H sd σ
  | .cnt sd, .cnt σ => RSl K m H sd σ
  | _, _ => False

section
variable (cl : Cl) (X : Cx) (E : XK)
def DE (e : Expr) (f : Sl → Sto → Res D) : Prop :=
  ∃ t, PE X e t ∧ ∀ m S H sd σ Q, RS cl X.K m S H → RSl X.K m H sd σ → Post cl X.K (RV X.K) m H E Q (f sd S) → t σ H Q
def DT (e : Expr) (f : Sl → Sto → Res Bool) : Prop :=
  ∃ t, PT X e t ∧ ∀ m S H sd σ Q, RS cl X.K m S H → RSl X.K m H sd σ → Post cl X.K RBool m H E Q (f sd S) → t σ H Q
def DW (e : Expr) (f : Sl → Sto → Res Bool) : Prop :=
  ∃ t, PW X e t ∧ ∀ m S H sd σ Q, RS cl X.K m S H → RSl X.K m H sd σ → Post cl X.K RBool m H E Q (f sd S) → t σ H Q
def DA (es : List Expr) (f : Sl → Sto → Res (List D)) : Prop :=
  ∃ t, PA X es t ∧ ∀ m S H sd σ Q, RS cl X.K m S H → RSl X.K m H sd σ → Post cl X.K (RVs X.K) m H E Q (f sd S) → t σ H Q
def DS (st : Stmt) (f : Sl → Sto → Res Fl) : Prop :=
  ∃ t, PS X st t ∧ ∀ m S H sd σ D, RS cl X.K m S H → RSl X.K m H sd σ → Post cl X.K (RFl X.K) m H E (endQ D) (f sd S) → t D σ H
def DSs (st : List Stmt) (f : Sl → Sto → Res Fl) : Prop :=
  ∃ t, PSs X st t ∧ ∀ m S H sd σ D, RS cl X.K m S H → RSl X.K m H sd σ → Post cl X.K (RFl X.K) m H E (endQ D) (f sd S) → t D σ H
def DG (tg : Expr) (f : D → Sl → Sto → Res Sl) : Prop :=
  ∃ g, PG X tg g ∧ ∀ m S H sd σ d v Q, RS cl X.K m S H → RSl X.K m H sd σ → RV X.K m H d v → Post cl X.K (RSl X.K) m H E Q (f d sd S) → g v σ H Q
def DGs (tg : List Expr) (f : List D → Sl → Sto → Res Sl) : Prop :=
  ∃ g, PGs X tg g ∧ ∀ m S H sd σ ds vs Q, RS cl X.K m S H → RSl X.K m H sd σ → RVs X.K m H ds vs → Post cl X.K (RSl X.K) m H E Q (f ds sd S) → g vs σ H Q
end

section
variable {cl : Cl} {X : Cx} {E : XK}
def dVar (i : Nat) : Sl → Sto → Res D := fun sd S => match sd[i]? with
  | some (some d) => .ok d S
  | _ => .stuck
def dC (d : D) : Sl → Sto → Res D := fun _ S => .ok d S
theorem z3 (i : Nat) {x : Str} {pos : Pos} (hN : X.N[i]? = some x := by rfl) (hv : Vis X.env.scope x := by first | exact Or.inl rfl | exact Or.inr (Or.inl rfl) | exact Or.inr (Or.inr rfl)) (hd : (x == ("__debug__" : Str)) = false := by decide)
    (hcd : (x == ("__classdict__" : Str)) = false := by decide) : DE cl X E (.Name x pos) (dVar i) := by
  refine ⟨_, pe_var hN hv hd hcd, fun m S H sd σ Q rs rl h => ?_⟩
  unfold dVar at h
  split at h
  · rename_i d e
    obtain ⟨v, e1, r⟩ := rl.at_ i d e
    exact ⟨v, e1, h.here rs r⟩
  · exact h.elim
theorem z9 {i : Int} {j pos} : DE cl X E (.Constant (.int i) j pos) (dC (.int i)) := ⟨_, pe_int, fun m S H sd σ Q rs rl h => h.here rs rfl⟩
theorem de_bl {i : Bool} {j pos} : DE cl X E (.Constant (.bool i) j pos) (dC (.bl i)) := ⟨_, pe_bl, fun m S H sd σ Q rs rl h => h.here rs rfl⟩
theorem de_non {j pos} : DE cl X E (.Constant .none j pos) (dC .non) := ⟨_, pe_non, fun m S H sd σ Q rs rl h => h.here rs rfl⟩
theorem de_str {x : Str} {j pos} : DE cl X E (.Constant (.str x) j pos) (dC (.str x)) := ⟨_, pe_str, fun m S H sd σ Q rs rl h => h.here rs rfl⟩

def dNil : Sl → Sto → Res (List D) := fun _ S => .ok [] S
def dCons (f : Sl → Sto → Res D) (g : Sl → Sto → Res (List D)) : Sl → Sto → Res (List D) := fun sd S =>
  (f sd S).bind fun d S1 => (g sd S1).bind fun ds S2 => .ok (d :: ds) S2
theorem z7 : DA cl X E [] dNil := ⟨_, pa_nil, fun m S H sd σ Q rs rl h => h.here rs rfl⟩
theorem z4 {e : Expr} {es : List Expr} {f g} (he : DE cl X E e f) (hr : DA cl X E es g) (hs : starEach (e :: es) X.env = (false, eval e X.env) :: starEach es X.env := by rfl) : DA cl X E (e :: es) (dCons f g) := by
  obtain ⟨t, p, he⟩ := he
  obtain ⟨u, q, hr⟩ := hr
  refine ⟨_, pa_cons p q hs, fun m S H sd σ Q rs rl h => ?_⟩
  refine he m S H sd σ _ rs rl (Post.bind h fun d S1 m1 v H1 x1 k1 rs1 rv1 h1 => ?_)
  refine hr m1 S1 H1 sd σ _ rs1 (rl.mono x1 k1) (Post.bind h1 fun ds S2 m2 vs H2 x2 k2 rs2 rv2 h2 => ?_)
  exact h2.here rs2 ⟨v, vs, rfl, RV.mono x2 k2 d rv1, rv2⟩

def dTup (f : Sl → Sto → Res (List D)) : Sl → Sto → Res D := fun sd S => (f sd S).bind fun ds S1 => if ds.length ≤ sizeLine then .ok (.tup ds) S1 else .stuck
def dLst (f : Sl → Sto → Res (List D)) : Sl → Sto → Res D := fun sd S => (f sd S).bind fun ds S1 => if ds.length ≤ sizeLine then .ok (.ref S1.length) (S1 ++ [.lst ds]) else .stuck
theorem newTup {m : List Addr} {S : Sto} {H : Hp} {ds : List D} {vs : List V} {p : Addr} {K : PySem.W.Frag} (rs : RS cl K m S H) (r : RVs K m H ds vs) (hp : H p = none) :
    RS cl K m S (upd H p (.tup vs)) ∧ RV K m (upd H p (.tup vs)) (.tup ds) (.ref p) :=
  ⟨rs.ext hp, p, vs, rfl, .of upd_same, r.mono (Ext.refl m) (Keep.new hp)⟩
theorem newLst {m : List Addr} {S : Sto} {H : Hp} {ds : List D} {vs : List V} {p : Addr} {K : PySem.W.Frag} (rs : RS cl K m S H) (r : RVs K m H ds vs) (hp : H p = none) :
    RS cl K (m ++ [p]) (S ++ [.lst ds]) (upd H p (.lst vs)) ∧ RV K (m ++ [p]) (upd H p (.lst vs)) (.ref S.length) (.ref p) :=
  ⟨rs.new hp ⟨vs, upd_same, r.mono (Ext.snoc m p) (Keep.new hp)⟩, p, by rw [← rs.len]; simp, rfl⟩
theorem de_tup {es : List Expr} {f x1 pos} (h : DA cl X E es f) : DE cl X E (.Tuple es x1 pos) (dTup f) := by
  obtain ⟨t, p, h⟩ := h
  refine ⟨_, pe_tup p, fun m S H sd σ Q rs rl hh => ?_⟩
  refine h m S H sd σ _ rs rl (Post.bind hh fun ds S1 m1 vs H1 x1 k1 rs1 rv1 h1 => ?_)
  split at h1
  · rename_i hz
    refine ⟨by rw [← rv1.length]; exact hz, fun p hp => ?_⟩
    obtain ⟨a, b⟩ := newTup rs1 rv1 hp
    exact h1 m1 _ _ (Ext.refl m1) (Keep.new hp) a b
  · exact h1.elim
theorem de_lst {es : List Expr} {f pos} (h : DA cl X E es f) : DE cl X E (.List es pos) (dLst f) := by
  obtain ⟨t, p, h⟩ := h
  refine ⟨_, pe_lst p, fun m S H sd σ Q rs rl hh => ?_⟩
  refine h m S H sd σ _ rs rl (Post.bind hh fun ds S1 m1 vs H1 x1 k1 rs1 rv1 h1 => ?_)
  split at h1
  · rename_i hz
    refine ⟨by rw [← rv1.length]; exact hz, fun p hp => ?_⟩
    obtain ⟨a, b⟩ := newLst rs1 rv1 hp
    exact h1 _ _ _ (Ext.snoc m1 p) (Keep.new hp) a b
  · exact h1.elim
end
def lsD (d : D) (S : Sto) : Option (List D) := match d with
  | .frl ds => some ds
  | .ref l => match S[l]? with
    | some (.lst ds) => some ds
    | _ => none
  | _ => none
theorem ls_rv {cl : Cl} {K : PySem.W.Frag} {m : List Addr} {S : Sto} {H : Hp} {d : D} {v : V} {ds : List D} (rs : RS cl K m S H) (rv : RV K m H d v) (h : lsD d S = some ds) :
    ∃ a vs, v = .ref a ∧ SqL K H a vs ∧ RVs K m H ds vs := by
  unfold lsD at h
  split at h
  · cases h
    obtain ⟨a, vs, rfl, s1, r1⟩ := rv
    exact ⟨a, vs, rfl, s1.sq, r1⟩
  · split at h
    · rename_i es e1
      cases h
      obtain ⟨a, h1, ws, hv, r1⟩ := rs.adr e1
      obtain ⟨a', h2, rfl⟩ := rv
      rw [h1] at h2; cases h2
      exact ⟨a, ws, rfl, SqL.of hv, r1⟩
    · cases h
  · cases h
end DL

namespace DL
open PySem PySem.Spec PyProof.Rows L2

section
variable (cl : Cl) (X : Cx)
def OpD (f : Value → Value → Sem Value) (g : D → D → Sto → Res D) : Prop :=
  ∃ r, OpR X f r ∧ ∀ (E : XK) m S H x y vx vy Q, RS cl X.K m S H → RV X.K m H x vx → RV X.K m H y vy → Post cl X.K (RV X.K) m H E Q (g x y S) → r vx vy H Q
end
def d2 (g : D → D → Sto → Res D) (fa fb : Sl → Sto → Res D) : Sl → Sto → Res D := fun sd S => (fa sd S).bind fun x S1 => (fb sd S1).bind fun y S2 => g x y S2
def d2T (g : D → D → Sto → Res D) (fa fb : Sl → Sto → Res D) : Sl → Sto → Res Bool := fun sd S => (d2 g fa fb sd S).bind fun d S1 => match d with
  | .bl b => .ok b S1
  | _ => .stuck
section
variable {cl : Cl} {X : Cx} {E : XK} {a b c : Expr} {fa fb fc : Sl → Sto → Res D}
theorem zl {op : Operator} {g} (ho : OpD cl X (binaryOp op) g) (ha : DE cl X E a fa) (hb : DE cl X E b fb) {pos} : DE cl X E (.BinOp a op b pos) (d2 g fa fb) := by
  obtain ⟨r, ho, hr⟩ := ho
  obtain ⟨ta, pa, ha⟩ := ha
  obtain ⟨tb, pb, hb⟩ := hb
  refine ⟨_, pe_op ho pa pb, fun m S H sd σ Q rs rl h => ?_⟩
  refine ha m S H sd σ _ rs rl (Post.bind h fun x S1 m1 vx H1 x1 k1 rs1 rx h1 => ?_)
  refine hb m1 S1 H1 sd σ _ rs1 (rl.mono x1 k1) (Post.bind h1 fun y S2 m2 vy H2 x2 k2 rs2 ry h2 => ?_)
  exact hr E m2 S2 H2 x y vx vy Q rs2 (RV.mono x2 k2 x rx) ry h2
theorem de_cmp {op : CmpOp} {g} (ho : OpD cl X (compareOp op) g) (ha : DE cl X E a fa) (hb : DE cl X E b fb) {pos} (hm : behindInMarks op b = false := by with_unfolding_all rfl) : DE cl X E (.Compare a [op] [b] pos) (d2 g fa fb) := by
  obtain ⟨r, ho, hr⟩ := ho
  obtain ⟨ta, pa, ha⟩ := ha
  obtain ⟨tb, pb, hb⟩ := hb
  refine ⟨_, pe_cmpR ho pa pb hm, fun m S H sd σ Q rs rl h => ?_⟩
  refine ha m S H sd σ _ rs rl (Post.bind h fun x S1 m1 vx H1 x1 k1 rs1 rx h1 => ?_)
  refine hb m1 S1 H1 sd σ _ rs1 (rl.mono x1 k1) (Post.bind h1 fun y S2 m2 vy H2 x2 k2 rs2 ry h2 => ?_)
  exact hr E m2 S2 H2 x y vx vy Q rs2 (RV.mono x2 k2 x rx) ry h2
theorem bind_assoc {α β γ : Type} (r : Res α) (f : α → Sto → Res β) (g : β → Sto → Res γ) : (r.bind f).bind g = r.bind fun a S => (f a S).bind g := by
  cases r <;> rfl
theorem zp {op : CmpOp} {g} (ho : OpD cl X (compareOp op) g) (ha : DE cl X E a fa) (hb : DE cl X E b fb) {pos} (hm : behindInMarks op b = false := by with_unfolding_all rfl) : DT cl X E (.Compare a [op] [b] pos) (d2T g fa fb) := by
  obtain ⟨r, ho, hr⟩ := ho
  obtain ⟨ta, pa, ha⟩ := ha
  obtain ⟨tb, pb, hb⟩ := hb
  refine ⟨_, pt_cmpR ho pa pb hm, fun m S H sd σ Q rs rl h => ?_⟩
  unfold d2T d2 at h
  rw [bind_assoc] at h
  refine ha m S H sd σ _ rs rl (Post.bind h fun x S1 m1 vx H1 x1 k1 rs1 rx h1 => ?_)
  rw [bind_assoc] at h1
  refine hb m1 S1 H1 sd σ _ rs1 (rl.mono x1 k1) (Post.bind h1 fun y S2 m2 vy H2 x2 k2 rs2 ry h2 => ?_)
  refine hr E m2 S2 H2 x y vx vy _ rs2 (RV.mono x2 k2 x rx) ry (Post.bind h2 fun z S3 m3 vz H3 x3 k3 rs3 rz h3 => ?_)
  cases z with
  | bl k => exact ⟨k, rz, h3.here rs3 rfl⟩
  | _ => exact h3.elim
def d3 (g g' : D → D → Sto → Res D) (fa fb fc : Sl → Sto → Res D) : Sl → Sto → Res D := fun sd S => (fa sd S).bind fun x S1 => (fb sd S1).bind fun y S2 => (g x y S2).bind fun z S3 => match z with
  | .bl true => (fc sd S3).bind fun w S4 => g' y w S4
  | .bl false => .ok (.bl false) S3
  | _ => .stuck
def d3T (g g' : D → D → Sto → Res D) (fa fb fc : Sl → Sto → Res D) : Sl → Sto → Res Bool := fun sd S => (d3 g g' fa fb fc sd S).bind fun d S1 => match d with
  | .bl b => .ok b S1
  | _ => .stuck
theorem dt_chain {op op' : CmpOp} {g g'} (ho : OpD cl X (compareOp op) g) (ho' : OpD cl X (compareOp op') g') (ha : DE cl X E a fa) (hb : DE cl X E b fb) (hc : DE cl X E c fc) {pos} (hm : lastMarks [op, op'] [b, c] = false := by with_unfolding_all rfl) :
    DT cl X E (.Compare a [op, op'] [b, c] pos) (d3T g g' fa fb fc) := by
  obtain ⟨r, ho, hr⟩ := ho
  obtain ⟨r', ho', hr'⟩ := ho'
  obtain ⟨ta, pa, ha⟩ := ha
  obtain ⟨tb, pb, hb⟩ := hb
  obtain ⟨tc, pc, hc⟩ := hc
  refine ⟨_, pt_chain ho ho' pa pb pc hm, fun m S H sd σ Q rs rl h => ?_⟩
  unfold d3T d3 at h
  rw [bind_assoc] at h
  refine ha m S H sd σ _ rs rl (Post.bind h fun x S1 m1 vx H1 x1 k1 rs1 rx h1 => ?_)
  rw [bind_assoc] at h1
  refine hb m1 S1 H1 sd σ _ rs1 (rl.mono x1 k1) (Post.bind h1 fun y S2 m2 vy H2 x2 k2 rs2 ry h2 => ?_)
  rw [bind_assoc] at h2
  refine hr E m2 S2 H2 x y vx vy _ rs2 (RV.mono x2 k2 x rx) ry (Post.bind h2 fun z S3 m3 vz H3 x3 k3 rs3 rz h3 => ?_)
  cases z with
  | bl k =>
    refine ⟨k, rz, ?_⟩
    cases k with
    | false => exact iteF ⟨false, rfl, h3.here rs3 rfl⟩
    | true =>
      dsimp only at h3
      rw [bind_assoc] at h3
      refine iteT (hc m3 S3 H3 sd σ _ rs3 (rl.mono ((x1.trans x2).trans x3) ((k1.trans k2).trans k3)) (Post.bind h3 fun w S4 m4 vw H4 x4 k4 rs4 rw' h4 => ?_))
      refine hr' E m4 S4 H4 y w vy vw _ rs4 (RV.mono (x3.trans x4) (k3.trans k4) y ry) rw' (Post.bind h4 fun q S5 m5 vq H5 x5 k5 rs5 rq h5 => ?_)
      cases q with
      | bl k' => exact ⟨k', rq, h5.here rs5 rfl⟩
      | _ => exact h5.elim
  | _ => exact h3.elim
end

def addD : D → D → Sto → Res D
  | .int a, .int b, S => .ok (.int (a + b)) S
  | .str a, .str b, S => if a.length + b.length ≤ sizeLine then .ok (.str (a ++ b)) S else .stuck
  | .tup a, .tup b, S => if a.length + b.length ≤ sizeLine then .ok (.tup (a ++ b)) S else .stuck
  | a, b, S => match lsD a S, lsD b S with
    | some x, some y => if x.length + y.length ≤ sizeLine then .ok (.ref S.length) (S ++ [.lst (x ++ y)]) else .stuck
    | _, _ => .stuck
def subD : D → D → Sto → Res D
  | .int a, .int b, S => .ok (.int (a - b)) S
  | _, _, _ => .stuck
noncomputable def bnd (k : Nat) (a : Int) : Bool := @decide (-(2 ^ k : Int) ≤ a ∧ a < 2 ^ k) (Classical.propDecidable _)
theorem bnd_ok {k : Nat} {a : Int} (h : bnd k a = true) : -(2 ^ k : Int) ≤ a ∧ a < 2 ^ k := @of_decide_eq_true _ (Classical.propDecidable _) h
theorem bnd_of {k : Nat} {a : Int} (h : -(2 ^ k : Int) ≤ a ∧ a < 2 ^ k) : bnd k a = true := @decide_eq_true _ (Classical.propDecidable _) h
noncomputable def fdOk (b : Int) : Bool := @decide (0 < b ∧ b.natAbs.log2 < 9000) (Classical.propDecidable _)
theorem fdOk_ok {b : Int} (h : fdOk b = true) : 0 < b ∧ b.natAbs.log2 < 9000 := @of_decide_eq_true _ (Classical.propDecidable _) h
theorem fdOk_of {b : Int} (h : 0 < b ∧ b.natAbs.log2 < 9000) : fdOk b = true := @decide_eq_true _ (Classical.propDecidable _) h
theorem mul_ok {a b : Int} (hz : (bnd 63 a || bnd 63 b) = true) : (-(2 ^ 64) < a ∧ a < 2 ^ 64) ∨ (-(2 ^ 64) < b ∧ b < 2 ^ 64) := by
  rw [Bool.or_eq_true] at hz
  rcases hz with hz | hz
  · have := bnd_ok hz; exact .inl ⟨by omega, by omega⟩
  · have := bnd_ok hz; exact .inr ⟨by omega, by omega⟩
noncomputable def powOk (a b : Int) : Bool := @decide (0 ≤ b ∧ b ≤ 1000000 ∧ a.natAbs < 2 ^ 64) (Classical.propDecidable _)
theorem powOk_ok {a b : Int} (h : powOk a b = true) : 0 ≤ b ∧ b ≤ 1000000 ∧ a.natAbs < 2 ^ 64 := @of_decide_eq_true _ (Classical.propDecidable _) h
theorem powOk_of {a b : Int} (h : 0 ≤ b ∧ b ≤ 1000000 ∧ a.natAbs < 2 ^ 64) : powOk a b = true := @decide_eq_true _ (Classical.propDecidable _) h
def repS (z : Str) (n : Int) : Str := ⟨(List.replicate n.toNat z.cps.toList).flatten.toArray⟩
noncomputable def mulD : D → D → Sto → Res D
  | .int a, .int b, S => if (bnd 63 a || bnd 63 b) = true then .ok (.int (a * b)) S else .stuck
  | .str z, .int n, S => if bnd 63 n = true ∧ z.length * n.toNat ≤ sizeLine then .ok (.str (repS z n)) S else .stuck
  | .tup xs, .int n, S => if bnd 63 n = true ∧ xs.length * n.toNat ≤ sizeLine then .ok (.tup (List.replicate n.toNat xs).flatten) S else .stuck
  | .ref a, .int n, S => match S[a]? with
    | some (.lst xs) => if bnd 63 n = true ∧ xs.length * n.toNat ≤ sizeLine then .ok (.ref S.length) (S ++ [.lst (List.replicate n.toNat xs).flatten]) else .stuck
    | _ => .stuck
  | _, _, _ => .stuck
noncomputable def fdivD : D → D → Sto → Res D
  | .int a, .int b, S => if fdOk b = true then .ok (.int (a / b)) S else .stuck
  | _, _, _ => .stuck
def modD : D → D → Sto → Res D
  | .int a, .int b, S => if 0 < b then .ok (.int (a % b)) S else .stuck
  | _, _, _ => .stuck
noncomputable def powD : D → D → Sto → Res D
  | .int a, .int b, S => if powOk a b = true then .ok (.int (a ^ b.toNat)) S else .stuck
  | _, _, _ => .stuck
section
variable {cl : Cl} {X : Cx}
theorem op_catS : OpR X (binaryOp .Add) (fun x y H Q => ∃ l b xs zs, x = .ref l ∧ y = .ref b ∧ SqL X.K H l xs ∧ SqL X.K H b zs ∧ xs.length + zs.length ≤ sizeLine ∧ ∀ p, H p = none → Q (.ref p) (upd H p (.lst (xs ++ zs)))) := by
  intro pins s σ H x y v u Q I rx ry h
  obtain ⟨l, b, xs, zs, rfl, rfl, hH, hB, hz, q⟩ := h
  cases rx
  cases ry
  obtain ⟨its, r, ⟨⟨cls, dd, data, sl⟩, n, ho, hc, hdn, hdt⟩, hlen⟩ := I.list hH
  obtain ⟨its2, r2, ⟨⟨cls2, dd2, data2, sl2⟩, n2, ho2, hc2, hdn2, hdt2⟩, hlen2⟩ := I.list hB
  simp only at hc hdt hc2 hdt2
  subst hc hdt hc2 hdt2
  have ea : its.toArray ++ its2.toArray = (its ++ its2).toArray := by simp
  have l1 := r.length
  have l2 := r2.length
  refine concat_meets ⟨_, ho, rfl⟩ ⟨_, ho2, rfl⟩ noFill_list_add seq_list_add PySem.F.slot_list_add PySem.F.entry_list_add (PySem.F.args_list_add_2 _ _) (list_addW l b its.toArray its2.toArray n n2 dd dd2 sl sl2 (by simp; omega)) ⟨ho, ho2, ?_⟩
  rw [ea]
  exact ⟨.ref _, _, I.lnew (t' := s.toks) (r.append r2) (by rw [List.length_append]; omega), rfl, q _ I.fresh⟩
theorem flat_len (xs : List Nat) (n : Nat) : (List.replicate n xs).flatten.length = xs.length * n := by
  induction n with
  | zero => simp
  | succ n ih => rw [List.replicate_succ, List.flatten_cons, List.length_append, ih, Nat.mul_succ, Nat.add_comm]
theorem fold_rep (xs : Array Nat) : ∀ (n : Nat) (acc : Array Nat), (List.replicate n xs).foldl (· ++ ·) acc = acc ++ (List.replicate n xs.toList).flatten.toArray
  | 0, acc => by simp
  | n + 1, acc => by
    rw [List.replicate_succ, List.foldl_cons, fold_rep xs n, List.replicate_succ, List.flatten_cons]
    apply Array.ext'
    simp
theorem op_repS : OpR X (binaryOp .Mult) (fun x y H Q => ∃ (z : Str) (k : Int), x = .str z ∧ y = .int k ∧ -(2 ^ 63) ≤ k ∧ k < 2 ^ 63 ∧ z.length * k.toNat ≤ sizeLine ∧ Q (.str (repS z k)) H) := by
  intro pins s σ H x y v u Q I rx ry h
  obtain ⟨z, k, rfl, rfl, h1, h2, hz, q⟩ := h
  obtain ⟨t, rfl⟩ := rx
  obtain ⟨t', rfl⟩ := ry
  have hzl : z.length = z.cps.toList.length := by simp [Str.length]
  have sL : sizeLine = 16777216 := sizeLine_eq
  refine PySem.P.mul_str (by rw [decide_eq_false (by omega), decide_eq_false (by omega)]; rfl) (fun c1 c2 => ?_) (fun c1 c2 => ?_) ?_
  · rw [Bool.or_eq_false_iff] at c2
    have hk : 0 < k := by omega
    have e1 : (z.length : Int) * k ≤ 16777216 := by
      have : ((z.length * k.toNat : Nat) : Int) ≤ 16777216 := by rw [sL] at hz; exact Int.ofNat_le.mpr hz
      have e2 : ((z.length * k.toNat : Nat) : Int) = (z.length : Int) * k := by
        rw [Int.natCast_mul, Int.toNat_of_nonneg (by omega)]
      omega
    intro hgt
    have : (z.length : Int) ≤ (2 ^ 63 - 1) / k := by
      rw [Int.le_ediv_iff_mul_le hk]
      omega
    omega
  · exact decide_eq_false (by omega)
  · by_cases c1 : k < 1
    · rw [if_pos c1]
      have e : repS z k = Str.empty := by
        unfold repS
        rw [show k.toNat = 0 by omega]
        rfl
      rw [e] at q
      exact ⟨by decide, ⟨.str _, H, I.tok _, ⟨_, rfl⟩, q⟩⟩
    · rw [if_neg c1]
      by_cases c2 : (k == 1 || z.length == 0) = true
      · rw [if_pos c2]
        have e : repS z k = z := by
          unfold repS
          rw [Bool.or_eq_true] at c2
          rcases c2 with c2 | c2
          · have : k = 1 := by simpa using c2
            subst this
            simp
          · have : z.length = 0 := by simpa using c2
            have e0 : z.cps = #[] := by
              apply Array.eq_empty_of_size_eq_zero
              simpa [Str.length] using this
            cases z with
            | mk cps =>
              simp only at e0
              subst e0
              simp
        rw [e] at q
        exact ⟨.str _, H, I, ⟨_, rfl⟩, q⟩
      · rw [if_neg c2]
        have e : (⟨(List.replicate k.toNat z.cps).foldl (· ++ ·) #[]⟩ : Str) = repS z k := by
          unfold repS
          rw [fold_rep]
          simp
        show Made.post (.str _) _ _
        rw [e]
        refine ⟨?_, ⟨.str _, H, I.tok _, ⟨_, rfl⟩, q⟩⟩
        show (repS z k).cps.size ≤ _
        unfold repS
        rw [List.size_toArray, flat_len, ← hzl]
        exact hz
theorem tuple_mul1 (l : Addr) (items : Array Value) (n : Nat) (dd : Option Addr) (sl : Array (Option Value)) (x : Int) (u : Tok) (c0 : (decide (x < -(2 ^ 63)) || decide (x ≥ 2 ^ 63)) = false) (c1 : (items.isEmpty || x == 1) = true) :
    Meets (Builtin.«tuple.__mul__» ⟨[.ref l, .int x u], []⟩) (fun _ R s => s.heap.get? l = some { cls := .type "tuple", dict := dd, data := .seq items n, slots := sl } ∧
      R (.ok (.ret (Value.ref l))) s) :=
  .of_wp fun prog w A R s h => by
    obtain ⟨hp, g, d, tk, os⟩ := s
    obtain ⟨hl, h⟩ := h
    have f1 := AutoSeq1.idx_int
    wp_walk using wpAny_loadPart' hl
    repeat (first
      | (refine wpAny_ite_false (decide_eq_false (by rw [c0]; exact Bool.false_ne_true)) ?_; wp_walk using wpAny_loadPart' hl)
      | (refine wpAny_ite_true (decide_eq_true c1) ?_; wp_walk using wpAny_loadPart' hl))
    exact ⟨_, rfl, h⟩
theorem tuple_mul0 (l : Addr) (items : Array Value) (n : Nat) (dd : Option Addr) (sl : Array (Option Value)) (x : Int) (u : Tok) (c0 : (decide (x < -(2 ^ 63)) || decide (x ≥ 2 ^ 63)) = false) (c1 : (items.isEmpty || x == 1) = false) (c2 : (decide (x ≤ 0) || items.isEmpty) = true) :
    Meets (Builtin.«tuple.__mul__» ⟨[.ref l, .int x u], []⟩) (fun _ R s => s.heap.get? l = some { cls := .type "tuple", dict := dd, data := .seq items n, slots := sl } ∧
      R (.ok (.ret (Value.ref s.heap.objs.size))) { s with heap := s.heap.push { cls := Value.type "tuple", data := Data.seq #[] }, toks := s.toks }) :=
  .of_wp fun prog w A R s h => by
    obtain ⟨hp, g, d, tk, os⟩ := s
    obtain ⟨hl, h⟩ := h
    have f1 := AutoSeq1.idx_int
    wp_walk using wpAny_loadPart' hl
    repeat (first
      | (refine wpAny_ite_false (decide_eq_false (by rw [c0]; exact Bool.false_ne_true)) ?_; wp_walk using wpAny_loadPart' hl)
      | (refine wpAny_ite_false (decide_eq_false (by rw [c1]; exact Bool.false_ne_true)) ?_; wp_walk using wpAny_loadPart' hl)
      | (refine wpAny_ite_true (decide_eq_true c2) ?_; wp_walk using wpAny_loadPart' hl))
    exact ⟨_, rfl, h⟩
end
end DL

namespace DL
open PySem PySem.Spec PyProof.Rows L2
section
variable {cl : Cl} {X : Cx}
def rRepA (K : PySem.W.Frag) : R2 := fun x y H Q => ∃ l k xs, x = .ref l ∧ y = .int k ∧ SqT K H l xs ∧ -(2 ^ 63) ≤ k ∧ k < 2 ^ 63 ∧ xs.length * k.toNat ≤ sizeLine ∧
  ((xs = [] ∨ k = 1) → Q (.ref l) H) ∧ (¬ (xs = [] ∨ k = 1) → ∀ p, H p = none → Q (.ref p) (upd H p (.tup (List.replicate k.toNat xs).flatten)))
theorem op_repA : OpR X (binaryOp .Mult) (rRepA X.K) := by
  intro pins s σ H x y v u Q I rx ry h
  obtain ⟨l, k, xs, rfl, rfl, hT, h1, h2, hz, q1, q2⟩ := h
  cases rx
  obtain ⟨t, rfl⟩ := ry
  obtain ⟨its, r, ⟨⟨cls, dd, data, sl⟩, ho, hc, n, hd⟩, hs⟩ := I.tuple hT
  simp only at hc hd
  subst hc hd
  have hle : its.length = xs.length := r.length.symm
  have c0 : (decide (k < -(2 ^ 63)) || decide (k ≥ 2 ^ 63)) = false := by
    rw [decide_eq_false (by omega), decide_eq_false (by omega)] <;> rfl
  have sL : sizeLine = 16777216 := sizeLine_eq
  by_cases c : xs = [] ∨ k = 1
  · have c1 : (its.toArray.isEmpty || k == 1) = true := by
      rw [Bool.or_eq_true]
      rcases c with c | c
      · left
        rw [c] at hle
        rw [List.eq_nil_of_length_eq_zero hle]
        rfl
      · right; simp [c]
    refine wpAny_binaryOp_repeat_ref (T := "tuple") (U := "int") (by decide) ⟨_, ho, rfl⟩ (fun s' => typeIs_int s' k t) noFill_tuple_mul F.fills_int_mul F.slot_int_rmul repeat_tuple F.slot_int_index.lookup
      (call_meets F.slot_int_rmul (typeIs_int s k t) F.entry_int_rmul (F.args_int_rmul_2 _ _) (int_rmul_tuple k t l its.toArray n dd sl)
        ⟨ho, rfl, ⟨_, ho, rfl⟩, call_meets F.slot_tuple_mul ⟨_, ho, rfl⟩ F.entry_tuple_mul (F.args_tuple_mul_2 _ _) (tuple_mul1 l its.toArray n dd sl k t c0 c1) ⟨ho, ?_⟩⟩)
    exact ⟨.ref l, H, I, rfl, q1 c⟩
  · have hne : xs ≠ [] := fun e => c (.inl e)
    have hk1 : k ≠ 1 := fun e => c (.inr e)
    have hn : its ≠ [] := fun e => hne (by
      rw [e] at hle
      exact List.eq_nil_of_length_eq_zero hle.symm)
    have hi : its.toArray.isEmpty = false := by
      cases its with
      | nil => exact absurd rfl hn
      | cons a b => rfl
    have c1 : (its.toArray.isEmpty || k == 1) = false := by
      rw [hi, Bool.false_or]
      exact beq_eq_false_iff_ne.mpr hk1
    by_cases k0 : k ≤ 0
    · have c2 : (decide (k ≤ 0) || its.toArray.isEmpty) = true := by rw [decide_eq_true k0]; rfl
      refine wpAny_binaryOp_repeat_ref (T := "tuple") (U := "int") (by decide) ⟨_, ho, rfl⟩ (fun s' => typeIs_int s' k t) noFill_tuple_mul F.fills_int_mul F.slot_int_rmul repeat_tuple F.slot_int_index.lookup
        (call_meets F.slot_int_rmul (typeIs_int s k t) F.entry_int_rmul (F.args_int_rmul_2 _ _) (int_rmul_tuple k t l its.toArray n dd sl)
          ⟨ho, rfl, ⟨_, ho, rfl⟩, call_meets F.slot_tuple_mul ⟨_, ho, rfl⟩ F.entry_tuple_mul (F.args_tuple_mul_2 _ _) (tuple_mul0 l its.toArray n dd sl k t c0 c1 c2) ⟨ho, ?_⟩⟩)
      have e0 : (List.replicate k.toNat xs).flatten = [] := by rw [show k.toNat = 0 by omega]; rfl
      have q := q2 c
      rw [e0] at q
      refine ⟨.ref s.heap.objs.size, _, I.laid (t' := s.toks) (o := .tup []) (fun b ob q => Heap.get?_push_of_some _ q) (Nat.le_refl _) ?_, rfl, q _ (I.hok.fresh (Nat.le_refl _))⟩
      exact ⟨Nat.zero_le _, [], .nil, IsTup.new _ _⟩
    · have c2 : (decide (k ≤ 0) || its.toArray.isEmpty) = false := by
        rw [hi, Bool.or_false]
        exact decide_eq_false k0
      have hsz0 : its.toArray.size = xs.length := by rw [List.size_toArray, hle]
      have hm : ((its.toArray.size : Nat) : Int) * k ≤ 16777216 := by
        rw [hsz0]
        have e1 : ((xs.length * k.toNat : Nat) : Int) ≤ 16777216 := by rw [sL] at hz; exact Int.ofNat_le.mpr hz
        have e2 : ((xs.length * k.toNat : Nat) : Int) = (xs.length : Int) * k := by
          rw [Int.natCast_mul, Int.toNat_of_nonneg (by omega)]
        omega
      have flen : (List.replicate k.toNat its).flatten.length ≤ sizeLine := by
        rw [PyProof.Rows.lm_len_rep_flat, hle, Nat.mul_comm]
        exact hz
      have c4 : Builtin.Tuple.tupleTooMany (((its.toArray.size : Nat) : Int) * k) = false := by
        unfold Builtin.Tuple.tupleTooMany
        rw [sizeLine_eq]
        exact decide_eq_false (by omega)
      refine wpAny_binaryOp_repeat_ref (T := "tuple") (U := "int") (by decide) ⟨_, ho, rfl⟩ (fun s' => typeIs_int s' k t) noFill_tuple_mul F.fills_int_mul F.slot_int_rmul repeat_tuple F.slot_int_index.lookup
        (call_meets F.slot_int_rmul (typeIs_int s k t) F.entry_int_rmul (F.args_int_rmul_2 _ _) (int_rmul_tuple k t l its.toArray n dd sl)
          ⟨ho, rfl, ⟨_, ho, rfl⟩, call_meets F.slot_tuple_mul ⟨_, ho, rfl⟩ F.entry_tuple_mul (F.args_tuple_mul_2 _ _) (tuple_mulW l its.toArray n dd sl k t c0 c1 c2 (by omega) c4 (by rw [size_rep, List.size_toArray]; exact flen)) ⟨ho, ?_⟩⟩)
      rw [size_rep]
      refine ⟨.ref s.heap.objs.size, _, I.laid (t' := s.toks) (o := .tup (List.replicate k.toNat xs).flatten) (fun b ob q => Heap.get?_push_of_some _ q) (Nat.le_refl _) ?_, rfl, q2 c _ (I.hok.fresh (Nat.le_refl _))⟩
      exact ⟨by rw [PyProof.Rows.lm_len_rep_flat, Nat.mul_comm]; exact hz, _, r.rep k.toNat, IsTup.new _ _⟩

theorem op_addD : OpD cl X (binaryOp .Add) addD := by
  refine ⟨_, ((op_add.or op_add_str).or op_catA).or op_catS, fun E m S H x y vx vy Q rs rx ry h => ?_⟩
  unfold addD at h
  split at h
  · rename_i a b
    cases rx; cases ry
    exact .inl (.inl (.inl ⟨_, _, rfl, rfl, h.here rs rfl⟩))
  · rename_i a b
    cases rx; cases ry
    split at h
    · rename_i hz
      exact .inl (.inl (.inr ⟨_, _, rfl, rfl, hz, h.here rs rfl⟩))
    · exact h.elim
  · rename_i a b
    split at h
    · rename_i hz
      obtain ⟨p, vs, rfl, s1, r1⟩ := rx
      obtain ⟨q, ws, rfl, s2, r2⟩ := ry
      refine .inl (.inr ⟨p, q, vs, ws, rfl, rfl, s1, s2, by rw [← r1.length, ← r2.length]; exact hz, fun e => ?_, fun e1 e2 => ?_, fun e1 e2 p' hp => ?_⟩)
      · subst e
        have : a = [] := List.eq_nil_of_length_eq_zero r1.length
        subst this
        exact h.here rs ⟨q, ws, rfl, s2, r2⟩
      · subst e2
        have : b = [] := List.eq_nil_of_length_eq_zero r2.length
        subst this
        exact h.here rs ⟨p, vs, rfl, s1, by rw [List.append_nil]; exact r1⟩
      · obtain ⟨a1, b1⟩ := newTup rs (r1.append r2) hp
        exact h _ _ _ (Ext.refl m) (Keep.new hp) a1 b1
    · exact h.elim
  · rename_i a b _ _ _
    split at h
    · rename_i x y e1 e2
      split at h
      · rename_i hz
        obtain ⟨p, vs, rfl, hv, r1⟩ := ls_rv rs rx e1
        obtain ⟨q, ws, rfl, hw, r2⟩ := ls_rv rs ry e2
        refine .inr ⟨p, q, vs, ws, rfl, rfl, hv, hw, by rw [← r1.length, ← r2.length]; exact hz, fun p' hp => ?_⟩
        obtain ⟨a1, b1⟩ := newLst rs (r1.append r2) hp
        exact h _ _ _ (Ext.snoc m p') (Keep.new hp) a1 b1
      · exact h.elim
    · exact h.elim
theorem op_subD : OpD cl X (binaryOp .Sub) subD := by
  refine ⟨_, op_sub, fun E m S H x y vx vy Q rs rx ry h => ?_⟩
  unfold subD at h
  split at h
  · cases rx; cases ry
    exact ⟨_, _, rfl, rfl, h.here rs rfl⟩
  · exact h.elim
theorem op_fdivD : OpD cl X (binaryOp .FloorDiv) fdivD := by
  refine ⟨_, op_fdivW, fun E m S H x y vx vy Q rs rx ry h => ?_⟩
  unfold fdivD at h
  split at h
  · cases rx; cases ry
    split at h
    · rename_i hz
      exact ⟨_, _, rfl, rfl, fdOk_ok hz, h.here rs rfl⟩
    · exact h.elim
  · exact h.elim
theorem op_modD : OpD cl X (binaryOp .Mod) modD := by
  refine ⟨_, op_mod, fun E m S H x y vx vy Q rs rx ry h => ?_⟩
  unfold modD at h
  split at h
  · cases rx; cases ry
    split at h
    · rename_i hz
      exact ⟨_, _, rfl, rfl, hz, h.here rs rfl⟩
    · exact h.elim
  · exact h.elim
theorem op_powD : OpD cl X (binaryOp .Pow) powD := by
  refine ⟨_, op_pow, fun E m S H x y vx vy Q rs rx ry h => ?_⟩
  unfold powD at h
  split at h
  · cases rx; cases ry
    split at h
    · rename_i hz
      exact ⟨_, _, rfl, rfl, powOk_ok hz, h.here rs rfl⟩
    · exact h.elim
  · exact h.elim
theorem op_mulD : OpD cl X (binaryOp .Mult) mulD := by
  refine ⟨_, ((op_mul.or op_repS).or op_repA).or op_rep, fun E m S H x y vx vy Q rs rx ry h => ?_⟩
  unfold mulD at h
  split at h
  · cases rx; cases ry
    split at h
    · rename_i hz
      exact .inl (.inl (.inl ⟨_, _, rfl, rfl, mul_ok hz, h.here rs rfl⟩))
    · exact h.elim
  · cases rx; cases ry
    split at h
    · rename_i hz
      exact .inl (.inl (.inr ⟨_, _, rfl, rfl, (bnd_ok hz.1).1, (bnd_ok hz.1).2, hz.2, h.here rs rfl⟩))
    · exact h.elim
  · rename_i xs n
    split at h
    · rename_i hz
      obtain ⟨p, vs, rfl, s1, r1⟩ := rx
      cases ry
      refine .inl (.inr ⟨p, n, vs, rfl, rfl, s1, (bnd_ok hz.1).1, (bnd_ok hz.1).2, by rw [← r1.length]; exact hz.2, fun e => ?_, fun e p' hp => ?_⟩)
      · have e1 : (List.replicate n.toNat xs).flatten = xs := by
          rcases e with e | e
          · subst e
            have : xs = [] := List.eq_nil_of_length_eq_zero r1.length
            subst this
            simp
          · subst e; simp
        rw [e1] at h
        exact h.here rs ⟨p, vs, rfl, s1, r1⟩
      · obtain ⟨a1, b1⟩ := newTup rs (r1.rep n.toNat) hp
        exact h _ _ _ (Ext.refl m) (Keep.new hp) a1 b1
    · exact h.elim
  · rename_i a n
    split at h
    · rename_i xs e1
      split at h
      · rename_i hz
        obtain ⟨p, h1, ⟨vs, hv, r1⟩⟩ := rs.adr e1
        obtain ⟨p', h1', rfl⟩ := rx
        rw [h1] at h1'; cases h1'
        cases ry
        refine .inr ⟨p, n, vs, rfl, rfl, hv, (bnd_ok hz.1).1, (bnd_ok hz.1).2, by rw [← r1.length]; exact hz.2, fun p' hp => ?_⟩
        obtain ⟨a1, b1⟩ := newLst rs (r1.rep n.toNat) hp
        exact h _ _ _ (Ext.snoc m p') (Keep.new hp) a1 b1
      · exact h.elim
    · exact h.elim
  · exact h.elim

def mapO {α β : Type} (f : α → Option β) : List α → Option (List β)
  | [] => some []
  | x :: xs => match f x, mapO f xs with
    | some a, some b => some (a :: b)
    | _, _ => none
def toP (S : Sto) : Nat → D → Option PyData
  | _, .non => some .none
  | _, .bl b => some (.bool b)
  | _, .int i => some (.int i)
  | _, .str x => some (.str x)
  | n + 1, .tup ds => (mapO (toP S n) ds).map .tuple
  | n + 1, .frl ds => (mapO (toP S n) ds).map .list
  | n + 1, .ref l => match S[l]? with
    | some (.lst ds) => (mapO (toP S n) ds).map .list
    | _ => none
  | _, .exn _ _ _ _ => none
  | 0, _ => none
theorem dpAll {K : PySem.W.Frag} {m : List Addr} {H : Hp} {f : D → Option PyData} (hf : ∀ d p v, f d = some p → RV K m H d v → Dp K H v p) :
    ∀ (ds : List D) (ps : List PyData) (vs : List V), mapO f ds = some ps → RVs K m H ds vs → DpAll K H vs ps
  | [], ps, vs, e, r => by
    cases e; cases r; exact .nil
  | d :: ds, ps, vs, e, r => by
    obtain ⟨v, vs', rfl, r1, r2⟩ := r
    unfold mapO at e
    split at e
    · rename_i a b ea eb
      cases e
      exact .cons (hf d a v ea r1) (dpAll hf ds b vs' eb r2)
    · cases e
theorem toP_dp {K : PySem.W.Frag} {m : List Addr} {S : Sto} {H : Hp} (rs : RS cl K m S H) : ∀ (n : Nat) (d : D) (p : PyData) (v : V), toP S n d = some p → RV K m H d v → Dp K H v p := by
  have base : ∀ (n : Nat), (∀ d p v, toP S n d = some p → RV K m H d v → Dp K H v p) → ∀ d p v, toP S (n + 1) d = some p → RV K m H d v → Dp K H v p := by
    intro n ih d p v e r
    cases d with
    | non => cases e; cases r; exact .non
    | bl b => cases e; cases r; exact .bl b
    | int b => cases e; cases r; exact .int b
    | str b => cases e; cases r; exact .str b
    | exn _ _ _ _ => cases e
    | tup ds =>
      obtain ⟨a, vs, rfl, s1, r1⟩ := r
      obtain ⟨ps, e1, rfl⟩ := Option.map_eq_some_iff.mp e
      exact .tup s1 (dpAll ih ds ps vs e1 r1)
    | frl ds =>
      obtain ⟨a, vs, rfl, s1, r1⟩ := r
      obtain ⟨ps, e1, rfl⟩ := Option.map_eq_some_iff.mp e
      exact .lst s1.sq (dpAll ih ds ps vs e1 r1)
    | ref l =>
      obtain ⟨a, e0, rfl⟩ := r
      unfold toP at e
      split at e
      · rename_i ds es
        obtain ⟨a', h1, vs, hv, r1⟩ := rs.adr es
        rw [e0] at h1; cases h1
        obtain ⟨ps, e1, rfl⟩ := Option.map_eq_some_iff.mp e
        exact .lst (SqL.of hv) (dpAll ih ds ps vs e1 r1)
      · cases e
  intro n
  induction n with
  | zero =>
    intro d p v e r
    cases d with
    | non => cases e; cases r; exact .non
    | bl b => cases e; cases r; exact .bl b
    | int b => cases e; cases r; exact .int b
    | str b => cases e; cases r; exact .str b
    | _ => cases e
  | succ n ih => exact base n ih
def sameD (x y : D) (S : Sto) : Option Bool :=
  match x, y with
  | .int a, .int b => some (decide (a = b))
  | .str a, .str b => some (decide (a = b))
  | .bl a, .bl b => some (decide (a = b))
  | _, _ => match toP S 60 x, toP S 60 y with
    | some a, some b => if SeqAt.shaped a && SeqAt.shaped b then some (PyData.eqv a b) else none
    | _, _ => none
def eqD (x y : D) (S : Sto) : Res D := match sameD x y S with
  | some b => .ok (.bl b) S
  | none => .stuck
def neD (x y : D) (S : Sto) : Res D := match sameD x y S with
  | some b => .ok (.bl (!b)) S
  | none => .stuck
theorem sameD_cases {x y : D} {S : Sto} {b : Bool} (h : sameD x y S = some b) :
    (∃ i j, x = .int i ∧ y = .int j ∧ b = decide (i = j)) ∨ (∃ i j, x = .str i ∧ y = .str j ∧ b = decide (i = j)) ∨ (∃ i j, x = .bl i ∧ y = .bl j ∧ b = decide (i = j)) ∨
    ∃ p q, toP S 60 x = some p ∧ toP S 60 y = some q ∧ SeqAt.shaped p = true ∧ SeqAt.shaped q = true ∧ b = PyData.eqv p q := by
  unfold sameD at h
  split at h
  · cases h; exact .inl ⟨_, _, rfl, rfl, rfl⟩
  · cases h; exact .inr (.inl ⟨_, _, rfl, rfl, rfl⟩)
  · cases h; exact .inr (.inr (.inl ⟨_, _, rfl, rfl, rfl⟩))
  · split at h
    · rename_i p q e1 e2
      split at h
      · rename_i hs
        rw [Bool.and_eq_true] at hs
        cases h
        exact .inr (.inr (.inr ⟨p, q, e1, e2, hs.1, hs.2, rfl⟩))
      · cases h
    · cases h
theorem op_eqDD (hu : X.A.units + 64 < cLine) : OpD cl X (compareOp .Eq) eqD := by
  refine ⟨_, op_eq.or (op_eqD hu), fun E m S H x y vx vy Q rs rx ry h => ?_⟩
  unfold eqD at h
  split at h
  · rename_i b e
    rcases sameD_cases e with ⟨i, j, rfl, rfl, rfl⟩ | ⟨i, j, rfl, rfl, rfl⟩ | ⟨i, j, rfl, rfl, rfl⟩ | ⟨p, q, e1, e2, s1, s2, rfl⟩
    · cases rx; cases ry
      refine .inl ⟨rfl, ?_⟩
      have : decide (V.int i = V.int j) = decide (i = j) := by simp
      rw [this]; exact h.here rs rfl
    · cases rx; cases ry
      refine .inl ⟨rfl, ?_⟩
      have : decide (V.str i = V.str j) = decide (i = j) := by simp
      rw [this]; exact h.here rs rfl
    · cases rx; cases ry
      refine .inl ⟨rfl, ?_⟩
      have : decide (V.bl i = V.bl j) = decide (i = j) := by simp
      rw [this]; exact h.here rs rfl
    · exact .inr ⟨p, q, toP_dp rs _ _ _ _ e1 rx, toP_dp rs _ _ _ _ e2 ry, s1, s2, h.here rs rfl⟩
  · exact h.elim
theorem op_neDD (hu : X.A.units + 64 < cLine) : OpD cl X (compareOp .NotEq) neD := by
  refine ⟨_, op_ne.or (op_neD hu), fun E m S H x y vx vy Q rs rx ry h => ?_⟩
  unfold neD at h
  split at h
  · rename_i b e
    rcases sameD_cases e with ⟨i, j, rfl, rfl, rfl⟩ | ⟨i, j, rfl, rfl, rfl⟩ | ⟨i, j, rfl, rfl, rfl⟩ | ⟨p, q, e1, e2, s1, s2, rfl⟩
    · cases rx; cases ry
      refine .inl ⟨rfl, ?_⟩
      have : decide (V.int i = V.int j) = decide (i = j) := by simp
      rw [this]; exact h.here rs rfl
    · cases rx; cases ry
      refine .inl ⟨rfl, ?_⟩
      have : decide (V.str i = V.str j) = decide (i = j) := by simp
      rw [this]; exact h.here rs rfl
    · cases rx; cases ry
      refine .inl ⟨rfl, ?_⟩
      have : decide (V.bl i = V.bl j) = decide (i = j) := by simp
      rw [this]; exact h.here rs rfl
    · exact .inr ⟨p, q, toP_dp rs _ _ _ _ e1 rx, toP_dp rs _ _ _ _ e2 ry, s1, s2, h.here rs rfl⟩
  · exact h.elim
def ltD : D → D → Sto → Res D
  | .int a, .int b, S => .ok (.bl (decide (a < b))) S
  | _, _, _ => .stuck
def leD : D → D → Sto → Res D
  | .int a, .int b, S => .ok (.bl (decide (a ≤ b))) S
  | _, _, _ => .stuck
def gtD : D → D → Sto → Res D
  | .int a, .int b, S => .ok (.bl (decide (b < a))) S
  | _, _, _ => .stuck
def geD : D → D → Sto → Res D
  | .int a, .int b, S => .ok (.bl (decide (b ≤ a))) S
  | _, _, _ => .stuck
theorem op_ltD : OpD cl X (compareOp .Lt) ltD := by
  refine ⟨_, op_lt, fun E m S H x y vx vy Q rs rx ry h => ?_⟩
  unfold ltD at h
  split at h
  · cases rx; cases ry; exact ⟨_, _, rfl, rfl, h.here rs rfl⟩
  · exact h.elim
theorem op_leD : OpD cl X (compareOp .LtE) leD := by
  refine ⟨_, op_le, fun E m S H x y vx vy Q rs rx ry h => ?_⟩
  unfold leD at h
  split at h
  · cases rx; cases ry; exact ⟨_, _, rfl, rfl, h.here rs rfl⟩
  · exact h.elim
theorem op_gtD : OpD cl X (compareOp .Gt) gtD := by
  refine ⟨_, op_gt, fun E m S H x y vx vy Q rs rx ry h => ?_⟩
  unfold gtD at h
  split at h
  · cases rx; cases ry; exact ⟨_, _, rfl, rfl, h.here rs rfl⟩
  · exact h.elim
theorem op_geD : OpD cl X (compareOp .GtE) geD := by
  refine ⟨_, op_ge, fun E m S H x y vx vy Q rs rx ry h => ?_⟩
  unfold geD at h
  split at h
  · cases rx; cases ry; exact ⟨_, _, rfl, rfl, h.here rs rfl⟩
  · exact h.elim
def isD : D → D → Sto → Res D
  | x, .non, S => .ok (.bl (decide (x = .non))) S
  | _, _, _ => .stuck
def isNotD : D → D → Sto → Res D
  | x, .non, S => .ok (.bl (!decide (x = .non))) S
  | _, _, _ => .stuck
theorem rv_non {K : PySem.W.Frag} {m : List Addr} {H : Hp} {x : D} {v : V} (r : RV K m H x v) : decide (v = .non) = decide (x = .non) := by
  cases x with
  | non => cases r; simp
  | bl _ => cases r; simp
  | int _ => cases r; simp
  | str _ => cases r; simp
  | tup _ => obtain ⟨a, vs, rfl, _⟩ := r; simp
  | frl _ => obtain ⟨a, vs, rfl, _⟩ := r; simp
  | ref _ => obtain ⟨a, _, rfl⟩ := r; simp
  | exn _ _ _ _ => obtain ⟨rfl, _⟩ := r; simp
theorem op_isD : OpD cl X (compareOp .Is) isD := by
  refine ⟨_, op_isN, fun E m S H x y vx vy Q rs rx ry h => ?_⟩
  unfold isD at h
  split at h
  · cases ry
    refine ⟨rfl, ?_⟩
    rw [rv_non rx]; exact h.here rs rfl
  · exact h.elim
theorem op_isNotD : OpD cl X (compareOp .IsNot) isNotD := by
  refine ⟨_, op_notN, fun E m S H x y vx vy Q rs rx ry h => ?_⟩
  unfold isNotD at h
  split at h
  · cases ry
    refine ⟨rfl, ?_⟩
    rw [rv_non rx]; exact h.here rs rfl
  · exact h.elim
end
end DL

namespace DL
open PySem PySem.Spec PyProof.Rows L2
section
variable {cl : Cl} {K : PySem.W.Frag} {m : List Addr} {H : Hp} {E : XK} {D : Ends} {S : Sto} {sd : Sl} {σ : L2.St}
theorem Post.toNx (h : Post cl K (RFl K) m H E (endQ D) (.ok (.nx sd) S)) (rs : RS cl K m S H) (rl : RSl K m H sd σ) : D.nx σ H := h m (.nx σ) H (Ext.refl m) (Keep.refl H) rs rl
theorem Post.toBk (h : Post cl K (RFl K) m H E (endQ D) (.ok (.brk sd) S)) (rs : RS cl K m S H) (rl : RSl K m H sd σ) : D.bk σ H := h m (.brk σ) H (Ext.refl m) (Keep.refl H) rs rl
theorem Post.toCt (h : Post cl K (RFl K) m H E (endQ D) (.ok (.cnt sd) S)) (rs : RS cl K m S H) (rl : RSl K m H sd σ) : D.ct σ H := h m (.cnt σ) H (Ext.refl m) (Keep.refl H) rs rl
end
section
variable {cl : Cl} {K : PySem.W.Frag} {m : List Addr} {H : Hp} {E : XK} {En : Ends} {S : Sto} {d : D} {v : V}
theorem Post.toRt (h : Post cl K (RFl K) m H E (endQ En) (.ok (.ret d) S)) (rs : RS cl K m S H) (rv : RV K m H d v) : En.rt v H := h m (.ret v) H (Ext.refl m) (Keep.refl H) rs rv
end
def tstB (f : Sl → Sto → Res D) : Sl → Sto → Res Bool := fun sd S => (f sd S).bind fun d S1 => match d with
  | .bl b => .ok b S1
  | _ => .stuck
def tAndD (f g : Sl → Sto → Res Bool) : Sl → Sto → Res Bool := fun sd S => (f sd S).bind fun b S1 => if b then g sd S1 else .ok false S1
def tOrD (f g : Sl → Sto → Res Bool) : Sl → Sto → Res Bool := fun sd S => (f sd S).bind fun b S1 => if b then .ok true S1 else g sd S1
def tNotD (f : Sl → Sto → Res Bool) : Sl → Sto → Res Bool := fun sd S => (f sd S).bind fun b S1 => .ok (!b) S1
def dAnd (f g : Sl → Sto → Res D) : Sl → Sto → Res D := fun sd S => (f sd S).bind fun d S1 => match d with
  | .bl true => g sd S1
  | .bl false => .ok (.bl false) S1
  | _ => .stuck
def dOr (f g : Sl → Sto → Res D) : Sl → Sto → Res D := fun sd S => (f sd S).bind fun d S1 => match d with
  | .bl true => .ok (.bl true) S1
  | .bl false => g sd S1
  | _ => .stuck
def dNot (f : Sl → Sto → Res D) : Sl → Sto → Res D := fun sd S => (f sd S).bind fun d S1 => match d with
  | .bl b => .ok (.bl (!b)) S1
  | _ => .stuck
def dIf (c : Sl → Sto → Res Bool) (f g : Sl → Sto → Res D) : Sl → Sto → Res D := fun sd S => (c sd S).bind fun b S1 => if b then f sd S1 else g sd S1
def dNeg (f : Sl → Sto → Res D) : Sl → Sto → Res D := fun sd S => (f sd S).bind fun d S1 => match d with
  | .int i => .ok (.int (-i)) S1
  | _ => .stuck
section
variable {cl : Cl} {X : Cx} {E : XK} {a b c : Expr} {rest : List Expr} {fa fb fc : Sl → Sto → Res D} {ga gb gc : Sl → Sto → Res Bool} {pos : Pos}
theorem dt_val (ha : DE cl X E a fa) (he : ∀ whole, isTrue a X.env whole = (do let v ← whole; standAt a.pos; holding [v] (truthy v)) := by intro _; rfl) : DT cl X E a (tstB fa) := by
  obtain ⟨ta, pa, ha⟩ := ha
  refine ⟨_, pt_val pa he, fun m S H sd σ Q rs rl h => ?_⟩
  refine ha m S H sd σ _ rs rl (Post.bind h fun x S1 m1 vx H1 x1 k1 rs1 rx h1 => ?_)
  cases x with
  | bl k => exact ⟨k, rx, h1.here rs1 rfl⟩
  | _ => exact h1.elim
theorem dt_bool (h : DW cl X E a ga) : DT cl X E a ga := by
  obtain ⟨t, p, h⟩ := h
  exact ⟨t, p.pt, h⟩
theorem dw_and1 (ha : DT cl X E a ga) : DW cl X E (.BoolOp .And [a] pos) ga := by
  obtain ⟨t, p, h⟩ := ha
  exact ⟨t, pw_and1 p, h⟩
theorem dw_or1 (ha : DT cl X E a ga) : DW cl X E (.BoolOp .Or [a] pos) ga := by
  obtain ⟨t, p, h⟩ := ha
  exact ⟨t, pw_or1 p, h⟩
theorem dw_and (ha : DT cl X E a ga) (hb : DW cl X E (.BoolOp .And (b :: rest) pos) gb) : DW cl X E (.BoolOp .And (a :: b :: rest) pos) (tAndD ga gb) := by
  obtain ⟨t, p, ha⟩ := ha
  obtain ⟨u, q, hb⟩ := hb
  refine ⟨_, pw_and p q, fun m S H sd σ Q rs rl h => ?_⟩
  refine ha m S H sd σ _ rs rl (Post.bind h fun x S1 m1 vx H1 x1 k1 rs1 rx h1 => ?_)
  cases rx
  cases x with
  | true => exact iteT (hb m1 S1 H1 sd σ _ rs1 (rl.mono x1 k1) h1)
  | false => exact iteF (h1.here rs1 rfl)
theorem dw_or (ha : DT cl X E a ga) (hb : DW cl X E (.BoolOp .Or (b :: rest) pos) gb) : DW cl X E (.BoolOp .Or (a :: b :: rest) pos) (tOrD ga gb) := by
  obtain ⟨t, p, ha⟩ := ha
  obtain ⟨u, q, hb⟩ := hb
  refine ⟨_, pw_or p q, fun m S H sd σ Q rs rl h => ?_⟩
  refine ha m S H sd σ _ rs rl (Post.bind h fun x S1 m1 vx H1 x1 k1 rs1 rx h1 => ?_)
  cases rx
  cases x with
  | true => exact iteT (h1.here rs1 rfl)
  | false => exact iteF (hb m1 S1 H1 sd σ _ rs1 (rl.mono x1 k1) h1)
theorem dt_not (ha : DT cl X E a ga) : DT cl X E (.UnaryOp .Not a pos) (tNotD ga) := by
  obtain ⟨t, p, ha⟩ := ha
  refine ⟨_, pt_not p, fun m S H sd σ Q rs rl h => ?_⟩
  refine ha m S H sd σ _ rs rl (Post.bind h fun x S1 m1 vx H1 x1 k1 rs1 rx h1 => ?_)
  cases rx
  exact h1.here rs1 rfl
theorem de_one {op} (ha : DE cl X E a fa) : DE cl X E (.BoolOp op [a] pos) fa := by
  obtain ⟨t, p, ha⟩ := ha
  exact ⟨t, pe_one p, ha⟩
theorem de_and (ha : DE cl X E a fa) (hb : DE cl X E (.BoolOp .And (b :: rest) pos) fb) : DE cl X E (.BoolOp .And (a :: b :: rest) pos) (dAnd fa fb) := by
  obtain ⟨t, p, ha⟩ := ha
  obtain ⟨u, q, hb⟩ := hb
  refine ⟨_, pe_and p q, fun m S H sd σ Q rs rl h => ?_⟩
  refine ha m S H sd σ _ rs rl (Post.bind h fun x S1 m1 vx H1 x1 k1 rs1 rx h1 => ?_)
  cases x with
  | bl k =>
    refine ⟨k, rx, ?_⟩
    cases k with
    | true => exact iteT (hb m1 S1 H1 sd σ _ rs1 (rl.mono x1 k1) h1)
    | false => exact iteF (h1.here rs1 rfl)
  | _ => exact h1.elim
theorem de_neg (ha : DE cl X E a fa) : DE cl X E (.UnaryOp .USub a pos) (dNeg fa) := by
  obtain ⟨t, p, ha⟩ := ha
  refine ⟨_, pe_un un_neg p, fun m S H sd σ Q rs rl h => ?_⟩
  refine ha m S H sd σ _ rs rl (Post.bind h fun x S1 m1 vx H1 x1 k1 rs1 rx h1 => ?_)
  cases x with
  | int k => exact ⟨k, rx, h1.here rs1 rfl⟩
  | _ => exact h1.elim
theorem de_if (hc : DT cl X E c gc) (ha : DE cl X E a fa) (hb : DE cl X E b fb) : DE cl X E (.IfExp c a b pos) (dIf gc fa fb) := by
  obtain ⟨tc, pc, hc⟩ := hc
  obtain ⟨t, p, ha⟩ := ha
  obtain ⟨u, q, hb⟩ := hb
  refine ⟨_, pe_ifExp pc p q, fun m S H sd σ Q rs rl h => ?_⟩
  refine hc m S H sd σ _ rs rl (Post.bind h fun x S1 m1 vx H1 x1 k1 rs1 rx h1 => ?_)
  cases rx
  cases x with
  | true => exact iteT (ha m1 S1 H1 sd σ _ rs1 (rl.mono x1 k1) h1)
  | false => exact iteF (hb m1 S1 H1 sd σ _ rs1 (rl.mono x1 k1) h1)
end

def sNext : Sl → Sto → Res Fl := fun sd S => .ok (.nx sd) S
def sSeq (f g : Sl → Sto → Res Fl) : Sl → Sto → Res Fl := fun sd S => (f sd S).bind fun fl S1 => match fl with
  | .nx sd1 => g sd1 S1
  | r => .ok r S1
def sIf (c : Sl → Sto → Res Bool) (f g : Sl → Sto → Res Fl) : Sl → Sto → Res Fl := fun sd S => (c sd S).bind fun b S1 => if b then f sd S1 else g sd S1
def sRet (f : Sl → Sto → Res D) : Sl → Sto → Res Fl := fun sd S => (f sd S).bind fun d S1 => .ok (.ret d) S1
def sExpr (f : Sl → Sto → Res D) : Sl → Sto → Res Fl := fun sd S => (f sd S).bind fun _ S1 => .ok (.nx sd) S1
def sAsg (f : Sl → Sto → Res D) (g : D → Sl → Sto → Res Sl) : Sl → Sto → Res Fl := fun sd S => (f sd S).bind fun d S1 => (g d sd S1).bind fun sd1 S2 => .ok (.nx sd1) S2
def gVar (i : Nat) : D → Sl → Sto → Res Sl := fun d sd S => .ok (sd.set i (some d)) S
section
variable {cl : Cl} {X : Cx} {E : XK} {a b c e : Expr} {st : Stmt} {sts sts' : List Stmt} {fa fb fc : Sl → Sto → Res D} {gc : Sl → Sto → Res Bool} {f g : Sl → Sto → Res Fl} {pos : Pos}
theorem dss_nil : DSs cl X E [] sNext := ⟨_, pss_nil, fun m S H sd σ D rs rl h => h.toNx rs rl⟩
theorem z8 (h1 : DS cl X E st f) (h2 : DSs cl X E sts g) : DSs cl X E (st :: sts) (sSeq f g) := by
  obtain ⟨t, p, h1⟩ := h1
  obtain ⟨u, q, h2⟩ := h2
  refine ⟨_, pss_cons p q, fun m S H sd σ D rs rl h => ?_⟩
  refine h1 m S H sd σ { D with nx := u D } rs rl (Post.bind h fun fl S1 m1 v H1 x1 k1 rs1 rv h3 => ?_)
  cases fl with
  | nx sd1 =>
    cases v with
    | nx σ1 => exact h2 m1 S1 H1 sd1 σ1 D rs1 rv h3
    | _ => exact rv.elim
  | ret d =>
    cases v with
    | ret w => exact h3.toRt rs1 rv
    | _ => exact rv.elim
  | brk sd1 =>
    cases v with
    | brk σ1 => exact h3.toBk rs1 rv
    | _ => exact rv.elim
  | cnt sd1 =>
    cases v with
    | cnt σ1 => exact h3.toCt rs1 rv
    | _ => exact rv.elim
theorem za (h1 : DS cl X E st f) : DSs cl X E [st] f := by
  obtain ⟨t, p, h1⟩ := h1
  exact ⟨_, pss_one p, h1⟩
def sBrk : Sl → Sto → Res Fl := fun sd S => .ok (.brk sd) S
theorem ds_if (hc : DT cl X E c gc) (ha : DSs cl X E sts f) (hb : DSs cl X E sts' g) : DS cl X E (.If c sts sts' pos) (sIf gc f g) := by
  obtain ⟨tc, pc, hc⟩ := hc
  obtain ⟨t, p, ha⟩ := ha
  obtain ⟨u, q, hb⟩ := hb
  refine ⟨_, ps_if pc p q, fun m S H sd σ D rs rl h => ?_⟩
  refine hc m S H sd σ _ rs rl (Post.bind h fun x S1 m1 vx H1 x1 k1 rs1 rx h1 => ?_)
  cases rx
  cases x with
  | true => exact iteT (ha m1 S1 H1 sd σ _ rs1 (rl.mono x1 k1) h1)
  | false => exact iteF (hb m1 S1 H1 sd σ _ rs1 (rl.mono x1 k1) h1)
theorem zi (he : DE cl X E e fa) : DS cl X E (.Return (some e) pos) (sRet fa) := by
  obtain ⟨t, p, he⟩ := he
  refine ⟨_, ps_ret p, fun m S H sd σ D rs rl h => ?_⟩
  refine he m S H sd σ _ rs rl (Post.bind h fun x S1 m1 vx H1 x1 k1 rs1 rx h1 => ?_)
  exact h1.toRt rs1 rx
theorem ds_expr (he : DE cl X E e fa) (hs : swapsWith e none pos.line X.env = pure false := by rfl) : DS cl X E (.Expr e pos) (sExpr fa) := by
  obtain ⟨t, p, he⟩ := he
  refine ⟨_, ps_expr p hs, fun m S H sd σ D rs rl h => ?_⟩
  refine he m S H sd σ _ rs rl (Post.bind h fun x S1 m1 vx H1 x1 k1 rs1 rx h1 => ?_)
  exact h1.toNx rs1 (rl.mono x1 k1)
theorem zg {i : Nat} {x : Str} {pos' : Pos} (hN : X.N.Nodup) (hi : X.N[i]? = some x) (hx : Loc X.env.scope x) (he : DE cl X E e fa) (hs : swapsWith e (some (.Name x pos')) pos.line X.env = pure false := by rfl) (hf : X.fn x = true ∨ X.env.scope.names.lookup x = some .local := by first | exact .inl rfl | exact .inr rfl | assumption) :
    DS cl X E (.Assign [.Name x pos'] e pos) (sAsg fa (gVar i)) := by
  obtain ⟨t, p, he⟩ := he
  refine ⟨_, ps_set hN hi hx p hs hf, fun m S H sd σ D rs rl h => ?_⟩
  refine he m S H sd σ _ rs rl (Post.bind h fun y S1 m1 vx H1 x1 k1 rs1 rx h1 => ?_)
  exact h1.toNx rs1 ((rl.mono x1 k1).set i rx)
theorem ze {i : Nat} {x : Str} (hN : X.N.Nodup) (hi : X.N[i]? = some x) (hx : Loc X.env.scope x) (hf : X.fn x = true ∨ X.env.scope.names.lookup x = some .local := by first | exact .inl rfl | exact .inr rfl | assumption) : DG cl X E (.Name x pos) (gVar i) := by
  refine ⟨_, pg_name hN hi hx hf, fun m S H sd σ d v Q rs rl rv h => ?_⟩
  exact h.here rs (rl.set i rv)
def gsNil : List D → Sl → Sto → Res Sl := fun ds sd S => match ds with
  | [] => .ok sd S
  | _ => .stuck
def gsCons (g : D → Sl → Sto → Res Sl) (k : List D → Sl → Sto → Res Sl) : List D → Sl → Sto → Res Sl := fun ds sd S => match ds with
  | d :: r => (g d sd S).bind fun sd1 S1 => k r sd1 S1
  | _ => .stuck
theorem dgs_nil : DGs cl X E [] gsNil := by
  refine ⟨_, pgs_nil, fun m S H sd σ ds vs Q rs rl rv h => ?_⟩
  cases ds with
  | nil => exact ⟨rv, h.here rs rl⟩
  | cons _ _ => exact h.elim
theorem zh {e : Expr} {es : List Expr} {g k} (h1 : DG cl X E e g) (h2 : DGs cl X E es k) (hs : (assignEach (e :: es) X.env).map (·.2) = assign e X.env :: (assignEach es X.env).map (·.2) := by rfl) : DGs cl X E (e :: es) (gsCons g k) := by
  obtain ⟨t, p, h1⟩ := h1
  obtain ⟨u, q, h2⟩ := h2
  refine ⟨_, pgs_cons p q hs, fun m S H sd σ ds vs Q rs rl rv h => ?_⟩
  cases ds with
  | nil => exact h.elim
  | cons d r =>
    obtain ⟨v, vr, rfl, r1, r2⟩ := rv
    refine ⟨v, vr, rfl, ?_⟩
    refine h1 m S H sd σ d v _ rs rl r1 (Post.bind h fun sd1 S1 m1 σ1 H1 x1 k1 rs1 rl1 h3 => ?_)
    exact h2 m1 S1 H1 sd1 σ1 r vr Q rs1 rl1 (r2.mono x1 k1) h3
def gTupD (n : Nat) (k : List D → Sl → Sto → Res Sl) : D → Sl → Sto → Res Sl := fun d sd S => match d with
  | .tup ds => if ds.length = n then k ds sd S else .stuck
  | d => match lsD d S with
    | some ds => if ds.length = n then k ds sd S else .stuck
    | _ => .stuck
theorem PG.or {tg : Expr} {t u : TG} (h : PG X tg t) (h' : PG X tg u) : PG X tg (fun v σ H Q => t v σ H Q ∨ u v σ H Q) :=
  ⟨fun pins s σ H v w Q I r hw => hw.elim (fun z => h.run pins s σ H v w Q I r z) (fun z => h'.run pins s σ H v w Q I r z)⟩
theorem dg_tup {es : List Expr} {k : Nat} {t} {n : Nat} (hc : X.calm = true) (h : DGs cl X E es t)
    (hn : (assignEach es X.env).length = n := by rfl) (hst : (assignEach es X.env).findIdx? (·.1) = none := by rfl) : DG cl X E (.Tuple es k pos) (gTupD n t) := by
  obtain ⟨u, q, h⟩ := h
  refine ⟨_, PG.or (pg_tup hc q hn hst) (pg_unl hc q hn hst), fun m S H sd σ d v Q rs rl rv hh => ?_⟩
  unfold gTupD at hh
  split at hh
  · rename_i ds
    split at hh
    · rename_i hl
      obtain ⟨a, vs, rfl, s1, r1⟩ := rv
      exact .inl ⟨a, vs, rfl, s1, by rw [← r1.length]; exact hl, h m S H sd σ ds vs Q rs rl r1 hh⟩
    · exact hh.elim
  · split at hh
    · rename_i ds e1
      split at hh
      · rename_i hl
        obtain ⟨a, vs, rfl, hv, r1⟩ := ls_rv rs rv e1
        exact .inr ⟨a, vs, rfl, hv, by rw [← r1.length]; exact hl, h m S H sd σ ds vs Q rs rl r1 hh⟩
      · exact hh.elim
    · exact hh.elim
theorem ds_asg {tg : Expr} {g} (he : DE cl X E e fa) (hg : DG cl X E tg g) (hs : swapsWithSole [tg] e pos.line X.env = pure false := by rfl) (hw : swappedStores [tg] e X.env = pure none := by rfl)
    (h1 : (assignEach [tg] X.env).map (·.2) = [assign tg X.env] := by rfl) : DS cl X E (.Assign [tg] e pos) (sAsg fa g) := by
  obtain ⟨t, p, he⟩ := he
  obtain ⟨u, q, hg⟩ := hg
  refine ⟨_, ps_asg p q hs hw h1, fun m S H sd σ D rs rl h => ?_⟩
  refine he m S H sd σ _ rs rl (Post.bind h fun y S1 m1 vx H1 x1 k1 rs1 rx h2 => ?_)
  refine hg m1 S1 H1 sd σ y vx _ rs1 (rl.mono x1 k1) rx (Post.bind h2 fun sd1 S2 m2 σ2 H2 x2 k2 rs2 rl2 h3 => ?_)
  exact h3.toNx rs2 rl2
def sPar (i j : Nat) (f : Sl → Sto → Res (List D)) : Sl → Sto → Res Fl := fun sd S => (f sd S).bind fun ds S1 => match ds with
  | [x, y] => .ok (.nx ((sd.set i (some x)).set j (some y))) S1
  | _ => .stuck
end
end DL

namespace DL
open PySem PySem.Spec PyProof.Rows L2
inductive Sk where
  | l (a : Addr) | t (a : Addr) | s (z : Str)
def Sk.v : Sk → V
  | .l a => .ref a
  | .t a => .ref a
  | .s z => .str z
def signs (z : Str) : List V := z.cps.toList.map fun c => V.str ⟨#[c]⟩
def Sk.Rd (K : PySem.W.Frag) (H : Hp) : Sk → List V → Prop
  | .l a, xs => SqL K H a xs
  | .t a, xs => SqT K H a xs
  | .s z, xs => xs = signs z
def Sk.It : Sk → Addr → Nat → Heap → Prop
  | .l a, it, i, h => h.IsListIter it a i
  | .t a, it, i, h => h.IsTupleIter it a i
  | .s z, it, i, h => ∃ t, h.IsStrIter it (strIterType z) z t i
section
variable {X : Cx} {pins : List (Addr × Obj)} {σ : L2.St} {H : Hp} {s : Shared} {k : Sk} {xs ys : List V} {it b a : Addr} {i : Nat}
theorem Sk.inj (I : Inv X pins σ H s) (h : k.Rd X.K H xs) (h' : k.Rd X.K H ys) : xs = ys := by
  cases k with
  | l a => exact I.list_inj h h'
  | t a => exact I.tuple_inj h h'
  | s z => exact Eq.trans h (Eq.symm h')
theorem Sk.It.keep {h h' : Heap} (x : k.It it i h) (hk : ∀ o, h.get? it = some o → h'.get? it = some o) : k.It it i h' := by
  cases k with
  | l a => obtain ⟨o, e, r⟩ := x; exact ⟨o, hk o e, r⟩
  | t a => obtain ⟨o, e, r⟩ := x; exact ⟨o, hk o e, r⟩
  | s z => obtain ⟨t, o, e, r⟩ := x; exact ⟨t, o, hk o e, r⟩
theorem Sk.It.obj {h : Heap} (x : k.It it i h) : ∃ o, h.get? it = some o ∧ ∀ v, o.data ≠ .cell v := by
  cases k with
  | l a => obtain ⟨o, e, _, r⟩ := x; exact ⟨o, e, fun v q => by rw [r] at q; cases q⟩
  | t a => obtain ⟨o, e, _, r⟩ := x; exact ⟨o, e, fun v q => by rw [r] at q; cases q⟩
  | s z => obtain ⟨t, o, e, _, r⟩ := x; exact ⟨o, e, fun v q => by rw [r] at q; cases q⟩
theorem fp_neL (I : Inv X pins σ H s) (f : FpOk X pins H b) (h : SqL X.K H a xs) : b ≠ a := by
  rintro rfl
  obtain ⟨f0, f1, f2, f3, f4, f5⟩ := f
  rcases h with (h | ⟨o, h⟩) | ⟨o, its, n, hk, _⟩
  · rw [f0] at h; cases h
  · rw [f0] at h; cases h
  · have e := I.mod.kin _ _ hk
    rcases f3 with f3 | f3
    · exact I.ok.noex _ _ e f3
    · exact absurd (Nat.lt_of_lt_of_le (Heap.lt_size e) (Nat.le_trans I.ok.bsz f3)) (Nat.lt_irrefl _)
theorem fp_neT (I : Inv X pins σ H s) (f : FpOk X pins H b) (h : SqT X.K H a xs) : b ≠ a := by
  rintro rfl
  obtain ⟨f0, f1, f2, f3, f4, f5⟩ := f
  rcases h with (h | ⟨o, h⟩) | ⟨o, its, n, hk, _⟩
  · rw [f0] at h; cases h
  · rw [f0] at h; cases h
  · have e := I.mod.kin _ _ hk
    rcases f3 with f3 | f3
    · exact I.ok.noex _ _ e f3
    · exact absurd (Nat.lt_of_lt_of_le (Heap.lt_size e) (Nat.le_trans I.ok.bsz f3)) (Nat.lt_irrefl _)
theorem draws_imp {prog : Program} {w : World} {A : Around} {fp : List Addr} {n : Nat} {P P' : Nat → Value → Prop} {St : Nat → Heap → Prop} (D : Draws prog w A it fp n P St) (h : ∀ i v, P i v → P' i v) : Draws prog w A it fp n P' St :=
  ⟨D.live, D.frame, fun i s Q E hi st hQ => D.item i s Q E hi st fun x h' tk p => hQ x h' tk (h i x p), D.done⟩
theorem Sk.draws (I : Inv X pins σ H s) (hc : X.calm = true) (hr : k.Rd X.K H xs) (hit : k.It it i s.heap) (f : FpOk X pins H it) :
    ∃ (fp : List Addr) (St : Nat → Heap → Prop), Draws X.prog X.w X.A.in1 it fp xs.length (fun j v => ∃ x, xs[j]? = some x ∧ RelV x v) St ∧ St i s.heap ∧ (∀ j h', St j h' → k.It it j h') ∧ it ∈ fp ∧ ∀ b, FpOk X pins H b → b ≠ it → b ∉ fp := by
  have hh : X.A.in1.handled = none := I.ok.hd hc
  cases k with
  | l a =>
    obtain ⟨its, rv, p, hz⟩ := I.list hr
    have hne : a ≠ it := fun e => fp_neL I f hr e.symm
    have e : its.toArray.size = xs.length := by simp [rv.length]
    refine ⟨[it, a], _, draws_imp (e ▸ Draws.list (prog := X.prog) (w := X.w) hh it a hne its.toArray) ?_, ⟨hit, p.isList⟩, fun j h' st => st.1, by simp, fun b fb hb => ?_⟩
    · intro j v hv
      have hv' : its[j]? = some v := by simpa using hv
      have hj : j < xs.length := by rw [rv.length]; exact (List.getElem?_eq_some_iff.mp hv').1
      obtain ⟨u, hu, ru⟩ := rv.get (i := j) (x := xs[j]) (by simp [hj])
      rw [hv'] at hu; cases hu
      exact ⟨_, by simp [hj], ru⟩
    · have := fp_neL I fb hr
      simp [hb, this]
  | t a =>
    obtain ⟨its, rv, p, hz⟩ := I.tuple hr
    have hne : a ≠ it := fun e => fp_neT I f hr e.symm
    have e : its.toArray.size = xs.length := by simp [rv.length]
    refine ⟨[it, a], _, draws_imp (e ▸ Draws.tuple (prog := X.prog) (w := X.w) hh it a hne its.toArray) ?_, ⟨hit, p⟩, fun j h' st => st.1, by simp, fun b fb hb => ?_⟩
    · intro j v hv
      have hv' : its[j]? = some v := by simpa using hv
      have hj : j < xs.length := by rw [rv.length]; exact (List.getElem?_eq_some_iff.mp hv').1
      obtain ⟨u, hu, ru⟩ := rv.get (i := j) (x := xs[j]) (by simp [hj])
      rw [hv'] at hu; cases hu
      exact ⟨_, by simp [hj], ru⟩
    · have := fp_neT I fb hr
      simp [hb, this]
  | s z =>
    obtain ⟨t, hit⟩ := hit
    have hr' : xs = signs z := hr
    have e : z.cps.size = xs.length := by rw [hr']; simp [signs]
    refine ⟨[it], _, draws_imp (e ▸ Draws.text (prog := X.prog) (w := X.w) hh it z t) ?_, hit, fun j h' st => ⟨t, st⟩, by simp, fun b fb hb => by simp [hb]⟩
    rintro j v ⟨c, u, hc', rfl⟩
    refine ⟨.str ⟨#[c]⟩, ?_, u, rfl⟩
    rw [hr']
    unfold signs
    rw [List.getElem?_map, Array.getElem?_toList, hc']
    rfl
end
set_option maxHeartbeats 4000000 in
theorem meets_enumerate_newB1 {v : Value} {o : Obj} {H : Heap → Prop} (B : Begins v o H) :
    Meets (Builtin.«enumerate.__new__» ⟨[.type "enumerate", v], []⟩) (fun _ R s => H s.heap ∧
      R (.ok (.ret (.ref (s.heap.push o).objs.size))) { s with heap := (s.heap.push o).push { cls := .type "enumerate", data := .fields #[.none, .bool false, .ref s.heap.objs.size, rawInt 0, .none, .none] } }) :=
  .of_wp fun prog w A R s h => by
    obtain ⟨hp, g, d, tk, os⟩ := s; obtain ⟨h1, h⟩ := h
    have hsub := sub_enumerate
    have q1 : ∀ {A' : Around} {E : Value → Shared → Prop} {Q : Value → Shared → Prop}, Q (.ref hp.objs.size) ⟨hp.push o, g, d, tk, os⟩ → wpAny (model prog w) A' (pyIter v) Q E ⟨hp, g, d, tk, os⟩ :=
      fun q => B.iter prog w _ _ ⟨hp, g, d, tk, os⟩ _ h1 q
    wp_walk using q1
    refine wpAny_stack_any fun st => wpAny_pure ?_
    split
    · rename_i c _ _ _ _ _
      cases (c == Value.type "enumerate")
      · wp_walk using q1
        exact ⟨_, rfl, h⟩
      · wp_walk using q1
        exact ⟨_, rfl, h⟩
    · wp_walk using q1
      exact ⟨_, rfl, h⟩
theorem enum_begins1 {prog : Program} {w : World} {A : Around} {E : Value → Shared → Prop} {s : Shared} {v : Value} {o : Obj} {H : Heap → Prop} {Q : Value → Shared → Prop} (B : Begins v o H) (h1 : H s.heap)
    (h : ∀ h', IsEnum h' (s.heap.objs.size + 1) s.heap.objs.size 0 .none → h'.get? s.heap.objs.size = some o → h'.objs.size = s.heap.objs.size + 2 →
      (∀ b o, s.heap.get? b = some o → h'.get? b = some o) → Q (.ref (s.heap.objs.size + 1)) { s with heap := h' }) :
    wpAny (model prog w) A (call (.type "enumerate") [v]) Q E s := by
  refine callType_new F.called_enumerate (by decide) (F.typeCall_enumerate_1 _) (F.newCall_enumerate_1 _) (fun obj => F.args_object_init_2 obj _) F.entry_enumerate_new
    (meets_enumerate_newB1 B) ⟨h1, ?_⟩
  have hz : (s.heap.push o).objs.size = s.heap.objs.size + 1 := Heap.size_push ..
  show _ ∧ _
  rw [hz]
  have he : IsEnum ((s.heap.push o).push { cls := .type "enumerate", data := .fields #[.none, .bool false, .ref s.heap.objs.size, rawInt 0, .none, .none] }) (s.heap.objs.size + 1) s.heap.objs.size 0 .none := by
    have := Heap.get?_push_size (s.heap.push o) (o := { cls := .type "enumerate", data := .fields #[.none, .bool false, .ref s.heap.objs.size, rawInt 0, .none, .none] }) rfl
    rw [hz] at this; exact this
  refine ⟨⟨_, he, rfl⟩, h _ he (Heap.get?_push_of_some _ (Heap.get?_push_size _ B.free)) (by rw [Heap.size_push, hz]) fun b o x => Heap.get?_push_of_some _ (Heap.get?_push_of_some _ x)⟩
theorem Sk.begins {X : Cx} {pins : List (Addr × Obj)} {σ : L2.St} {H : Hp} {s : Shared} {k : Sk} {xs : List V} {u : Value} (I : Inv X pins σ H s) (hr : k.Rd X.K H xs) (ru : RelV k.v u) :
    ∃ (o : Obj) (G : Heap → Prop), Begins u o G ∧ G s.heap ∧ ∀ h' it, h'.get? it = some o → k.It it 0 h' := by
  cases k with
  | l a =>
    obtain ⟨its, rv, p, hz⟩ := I.list hr
    cases ru
    exact ⟨_, _, begins_list a its.toArray, p.isList, fun h' it e => ⟨_, e, rfl, rfl⟩⟩
  | t a =>
    obtain ⟨its, rv, p, hz⟩ := I.tuple hr
    cases ru
    exact ⟨_, _, begins_tuple a its.toArray, p, fun h' it e => ⟨_, e, rfl, rfl⟩⟩
  | s z =>
    obtain ⟨t, rfl⟩ := ru
    exact ⟨_, _, begins_text z t, trivial, fun h' it e => ⟨t, _, e, rfl, rfl⟩⟩
def IteS (K : PySem.W.Frag) (k : Sk) : It :=
  ⟨fun i H => ∃ (xs : List V) (x : V), k.Rd K H xs ∧ xs[i]? = some x, fun i H v H' => ∃ T x, v = .ref T ∧ H T = none ∧ H' = upd H T (.tup [.int (i : Nat), x]) ∧ ∀ xs, k.Rd K H xs → xs[i]? = some x, fun i H => ∃ xs : List V, k.Rd K H xs ∧ xs.length = i⟩
theorem turn_enumS {P : Program} {w : World} {K : PySem.W.Frag} {elts : List Expr} {kk : Nat} {tpos : Pos} (k : Sk) (e it : Addr) :
    Turn P w K (.Tuple elts kk tpos) (IteS K k) [e, it] e (fun i h => (∃ old, IsEnum h e it ((i : Nat) : Int) old) ∧ k.It it i h ∧ e ≠ it) where
  mem := by simp
  obj := fun i h st b hb => by
    obtain ⟨⟨old, he⟩, hi, _⟩ := st
    have e' : b = e ∨ b = it := by simpa using hb
    rcases e' with z | z
    · rw [z]; exact ⟨_, he, fun v q => nomatch q⟩
    · rw [z]; exact hi.obj
  keep := fun i h h' st kk => let ⟨⟨old, he⟩, hi, hne⟩ := st; ⟨⟨old, kk e (by simp) _ he⟩, hi.keep fun o q => kk it (by simp) o q, hne⟩
  item := by
    intro X hP hw hK hc i pins s σ H E I hf st hg
    subst hP hw hK
    obtain ⟨⟨old, he⟩, hit, hne⟩ := st
    obtain ⟨xs, x, hq, hx⟩ := hg
    obtain ⟨fp, St, D, st0, back, hm, hout⟩ := Sk.draws I hc hq hit (hf it (by simp))
    have hel : e < s.heap.objs.size := Heap.lt_size he
    have hil : it < s.heap.objs.size := by obtain ⟨_, q, _⟩ := hit.obj; exact Heap.lt_size q
    have hlt : i < xs.length := (List.getElem?_eq_some_iff.mp hx).1
    refine wpAny_pyNext_enum_itemC D he st0 hlt hne (hout e (hf e (by simp)) hne) fun u h' tk hP ho hst' hT hsz hk => ?_
    obtain ⟨x', hx', ru⟩ := hP
    rw [hx] at hx'; cases hx'
    refine ⟨_, rfl, wpAny_letOwnedTupleGo_enum (s := { s with heap := h', toks := tk + 1 }) ho fun h'' he' sb => ?_⟩
    have hT2 : h''.get? s.heap.objs.size = some { cls := .type "tuple", data := .seq #[.int i tk, u] } := (sb.2 _ (Nat.ne_of_gt hel)).trans hT
    have new : ObjOk X.prog X.w (upd H s.heap.objs.size (.tup [.int (i : Nat), x])) h'' s.heap.objs.size (.tup [.int (i : Nat), x]) :=
      ⟨by show 2 ≤ sizeLine; decide, [.int i tk, u], .cons ⟨_, rfl⟩ (.cons ru .nil), ⟨_, hT2, rfl, _, rfl⟩⟩
    have I1 : Inv X pins σ (upd H s.heap.objs.size (.tup [.int (i : Nat), x])) { s with heap := h'', toks := tk + 1 } :=
      I.turnedNew (ch := [e, it]) (fun b ob hb q => (sb.2 b (fun z => hb (by simp [z]))).trans (hk b ob (fun z => hb (by simp [z])) (fun z => hb (by simp [z])) q)) hf (Nat.le_refl _) new
    refine ⟨.ref s.heap.objs.size, _, I1, rfl, ⟨_, x, rfl, I.hok.fresh (Nat.le_refl _), rfl, fun ys hy => by rw [Sk.inj I hy hq]; exact hx⟩, ⟨⟨u, ?_⟩, (back _ _ hst').keep fun o q => (sb.2 it (Ne.symm hne)).trans q, hne⟩, fun b hb => ?_⟩
    · have e1 : ((i + 1 : Nat) : Int) = (i : Int) + 1 := by omega
      rw [e1]; exact he'
    · have hb' : b < s.heap.objs.size := by
        have e' : b = e ∨ b = it := by simpa using hb
        rcases e' with z | z
        · rw [z]; exact hel
        · rw [z]; exact hil
      rw [upd_ne (Nat.ne_of_lt hb')]
      exact (hf b hb).1
  done := by
    intro X hP hw hK hc i pins s σ H E I hf st hg
    subst hP hw hK
    obtain ⟨⟨old, he⟩, hit, hne⟩ := st
    obtain ⟨xs, hq, hx⟩ := hg
    obtain ⟨fp, St, D, st0, back, hm, hout⟩ := Sk.draws I hc hq hit (hf it (by simp))
    obtain ⟨f0, f1, f2, f3, f4, f5⟩ := hf it (by simp)
    subst hx
    exact wpAny_pyNext_enum_endD D he st0 fun h' eb => ⟨rfl, I.turned (t' := s.toks) (fun b o hb q => eb b o hb q) f0 f1 f3 f4 f5⟩
  self := fun A i s Q E st h => let ⟨⟨_, he⟩, _⟩ := st; wpAny_pyIter_enum he h
def iEnumS (K : PySem.W.Frag) (ta : TA) : TI := fun σ H R => ta σ H fun vs H1 => ∃ (k : Sk) (xs : List V), vs = [k.v] ∧ k.Rd K H1 xs ∧ R (IteS K k) H1
theorem pi_enumS {X : Cx} {e : Expr} {ta : TA} {p pos tpos : Pos} {elts : List Expr} {kk : Nat} (hg : Gl X "enumerate") (hm : X.mg "enumerate" = none) (ha : PA X [e] ta) (hs : starEach [e] X.env = [(false, eval e X.env)] := by rfl) :
    PI X (.Tuple elts kk tpos) (.Call (.Name "enumerate" p) [e] [] pos) (iEnumS X.K ta) := by
  refine ⟨fun pins s σ H R I h => ?_⟩
  refine Call_ (ld_blt I hg hm boot_enumerate (PyProof.Rows.callWith_type1 (thn (ha.run pos pins s σ H _ I h) fun us s1 ⟨vs, H1, I1, r1, q1⟩ => ?_) hs rfl))
  obtain ⟨k, xs, ex, hq, q⟩ := q1
  subst ex
  cases r1 with
  | cons r rr =>
    cases rr
    obtain ⟨o, G, B, g1, hb⟩ := Sk.begins I1 hq r
    refine enum_begins1 B g1 fun h' he hit hsz hk => wpAny_pyIter_enum he ?_
    have I2 : Inv X pins σ H1 { s1 with heap := h' } := I1.kept (t' := s1.toks) hk
    refine ⟨s1.heap.objs.size + 1, [s1.heap.objs.size + 1, s1.heap.objs.size], _, _, H1, rfl, I2, turn_enumS k (s1.heap.objs.size + 1) s1.heap.objs.size, ⟨⟨.none, he⟩, hb h' _ hit, Nat.succ_ne_self _⟩, fun b hb => ?_, q⟩
    have e' : b = s1.heap.objs.size + 1 ∨ b = s1.heap.objs.size := by simpa using hb
    have hle : s1.heap.objs.size ≤ b := by
      rcases e' with z | z
      · rw [z]; exact Nat.le_add_right _ _
      · rw [z]; exact Nat.le_refl _
    exact I1.fpOk hle (I1.hok.fresh hle)
def ItzS (K : PySem.W.Frag) (k l : Sk) : It :=
  ⟨fun i H => ∃ (xs ys : List V) (x y : V), k.Rd K H xs ∧ l.Rd K H ys ∧ xs[i]? = some x ∧ ys[i]? = some y,
    fun i H v H' => ∃ T x y, v = .ref T ∧ H T = none ∧ H' = upd H T (.tup [x, y]) ∧ (∀ xs, k.Rd K H xs → xs[i]? = some x) ∧ ∀ ys, l.Rd K H ys → ys[i]? = some y,
    fun i H => ∃ xs ys : List V, k.Rd K H xs ∧ l.Rd K H ys ∧ i ≤ xs.length ∧ i ≤ ys.length ∧ (xs.length = i ∨ ys.length = i)⟩
structure ZAp (z TI TO i1 i2 : Addr) : Prop where
  TIz : TI ≠ z
  TOz : TO ≠ z
  TITO : TI ≠ TO
  TIi1 : TI ≠ i1
  TIi2 : TI ≠ i2
  zi1 : z ≠ i1
  zi2 : z ≠ i2
  TOi1 : TO ≠ i1
  TOi2 : TO ≠ i2
  i12 : i1 ≠ i2
theorem turn_zipS {P : Program} {w : World} {K : PySem.W.Frag} {elts : List Expr} {kk : Nat} {tpos : Pos} {z TI TO i1 i2 : Addr} (k l : Sk) (D : ZAp z TI TO i1 i2) :
    Turn P w K (.Tuple elts kk tpos) (ItzS K k l) [z, TI, TO, i1, i2] z (fun i h => IsZip h z TI TO .none ∧ IsTupOf2 h TI (.ref i1) (.ref i2) ∧ (∃ x y, IsTupOf2 h TO x y) ∧ k.It i1 i h ∧ l.It i2 i h) where
  mem := by simp
  obj := fun i h st c hc => by
    obtain ⟨hz, hTI, ⟨x, y, hTO⟩, h1, h2⟩ := st
    have e' : c = z ∨ c = TI ∨ c = TO ∨ c = i1 ∨ c = i2 := by simpa using hc
    rcases e' with q | q | q | q | q
    · rw [q]; exact ⟨_, hz, fun v q => nomatch q⟩
    · rw [q]; exact ⟨_, hTI, fun v q => nomatch q⟩
    · rw [q]; exact ⟨_, hTO, fun v q => nomatch q⟩
    · rw [q]; exact h1.obj
    · rw [q]; exact h2.obj
  keep := fun i h h' st kk => by
    obtain ⟨hz, hTI, ⟨x, y, hTO⟩, h1, h2⟩ := st
    exact ⟨kk z (by simp) _ hz, kk TI (by simp) _ hTI, ⟨x, y, kk TO (by simp) _ hTO⟩, h1.keep fun o q => kk i1 (by simp) o q, h2.keep fun o q => kk i2 (by simp) o q⟩
  item := by
    intro X hP hw hK hc i pins s σ H E I hf st hg
    subst hP hw hK
    obtain ⟨hz, hTI, ⟨x0, y0, hTO⟩, h1, h2⟩ := st
    obtain ⟨xs, ys, x, y, hqx, hqy, hx, hy⟩ := hg
    obtain ⟨fp1, St1, D1, st1, back1, hm1, hout1⟩ := Sk.draws I hc hqx h1 (hf i1 (by simp))
    obtain ⟨fp2, St2, D2, st2, back2, hm2, hout2⟩ := Sk.draws I hc hqy h2 (hf i2 (by simp))
    have hzl : z < s.heap.objs.size := Heap.lt_size hz
    have S : ZipSep2 z TI TO i1 i2 fp1 fp2 := ⟨D.TIz, D.TOz, D.TITO, D.TIi1, hm1, hout1 z (hf z (by simp)) D.zi1, hout1 TO (hf TO (by simp)) D.TOi1, D.TIi2, hm2, hout2 z (hf z (by simp)) D.zi2, hout2 TO (hf TO (by simp)) D.TOi2,
      hout2 i1 (hf i1 (by simp)) D.i12, hout1 i2 (hf i2 (by simp)) (Ne.symm D.i12)⟩
    refine wpAny_pyNext_zipD2_item S D1 D2 hz hTI hTO st1 st2 (List.getElem?_eq_some_iff.mp hx).1 (List.getElem?_eq_some_iff.mp hy).1 fun u u2 h' tk p1 p2 z' TO' h1' h2' hT hsz hk => ?_
    obtain ⟨x', hx', ru⟩ := p1
    rw [hx] at hx'; cases hx'
    obtain ⟨y', hy', ru2⟩ := p2
    rw [hy] at hy'; cases hy'
    refine ⟨_, rfl, wpAny_letOwnedTupleGo_zip (s := { s with heap := h', toks := tk }) z' fun h'' z'' sb => ?_⟩
    have hT2 : h''.get? s.heap.objs.size = some { cls := .type "tuple", data := .seq #[u, u2] } := (sb.2 _ (Nat.ne_of_gt hzl)).trans hT
    have new : ObjOk X.prog X.w (upd H s.heap.objs.size (.tup [x, y])) h'' s.heap.objs.size (.tup [x, y]) :=
      ⟨by show 2 ≤ sizeLine; decide, [u, u2], .cons ru (.cons ru2 .nil), ⟨_, hT2, rfl, _, rfl⟩⟩
    have I1 : Inv X pins σ (upd H s.heap.objs.size (.tup [x, y])) { s with heap := h'', toks := tk } :=
      I.turnedNew (t' := tk) (ch := [z, TI, TO, i1, i2]) (fun c o hb q => (sb.2 c (fun q' => hb (by simp [q']))).trans (hk c o (fun q' => hb (by simp [q'])) (fun q' => hb (by simp [q'])) (fun q' => hb (by simp [q'])) (fun q' => hb (by simp [q'])) q)) hf (Nat.le_refl _) new
    refine ⟨.ref s.heap.objs.size, _, I1, rfl, ⟨_, x, y, rfl, I.hok.fresh (Nat.le_refl _), rfl, fun l hl => by rw [Sk.inj I hl hqx]; exact hx, fun l hl => by rw [Sk.inj I hl hqy]; exact hy⟩, ⟨z'', ?_, ⟨u, u2, ?_⟩, ?_, ?_⟩, fun c hcm => ?_⟩
    · exact (sb.2 _ D.TIz).trans (hk _ _ D.TIz D.TITO D.TIi1 D.TIi2 hTI)
    · exact (sb.2 _ D.TOz).trans TO'
    · exact (back1 _ _ h1').keep fun o q => (sb.2 _ (Ne.symm D.zi1)).trans q
    · exact (back2 _ _ h2').keep fun o q => (sb.2 _ (Ne.symm D.zi2)).trans q
    · have hlt : c < s.heap.objs.size := by
        have e' : c = z ∨ c = TI ∨ c = TO ∨ c = i1 ∨ c = i2 := by simpa using hcm
        rcases e' with q | q | q | q | q
        · rw [q]; exact hzl
        · rw [q]; exact Heap.lt_size hTI
        · rw [q]; exact Heap.lt_size hTO
        · rw [q]; obtain ⟨_, e1, _⟩ := h1.obj; exact Heap.lt_size e1
        · rw [q]; obtain ⟨_, e2, _⟩ := h2.obj; exact Heap.lt_size e2
      rw [upd_ne (Nat.ne_of_lt hlt)]
      exact (hf c hcm).1
  done := by
    intro X hP hw hK hc i pins s σ H E I hf st hg
    subst hP hw hK
    obtain ⟨hz, hTI, ⟨x0, y0, hTO⟩, h1, h2⟩ := st
    obtain ⟨xs, ys, hqx, hqy, hl1, hl2, hend⟩ := hg
    obtain ⟨fp1, St1, D1, st1, back1, hm1, hout1⟩ := Sk.draws I hc hqx h1 (hf i1 (by simp))
    obtain ⟨fp2, St2, D2, st2, back2, hm2, hout2⟩ := Sk.draws I hc hqy h2 (hf i2 (by simp))
    have S : ZipSep2 z TI TO i1 i2 fp1 fp2 := ⟨D.TIz, D.TOz, D.TITO, D.TIi1, hm1, hout1 z (hf z (by simp)) D.zi1, hout1 TO (hf TO (by simp)) D.TOi1, D.TIi2, hm2, hout2 z (hf z (by simp)) D.zi2, hout2 TO (hf TO (by simp)) D.TOi2,
      hout2 i1 (hf i1 (by simp)) D.i12, hout1 i2 (hf i2 (by simp)) (Ne.symm D.i12)⟩
    have he : i = xs.length ∨ i = ys.length := by
      rcases hend with q | q
      · exact .inl q.symm
      · exact .inr q.symm
    exact wpAny_pyNext_zipD2_end S D1 D2 hz hTI hTO st1 st2 hl1 hl2 he fun h' tk hk => ⟨rfl, I.turnedL (t' := tk) (ch := [z, TI, TO, i1, i2]) (fun c o hb q =>
      hk c o (fun q' => hb (by simp [q'])) (fun q' => hb (by simp [q'])) (fun q' => hb (by simp [q'])) (fun q' => hb (by simp [q'])) q) hf⟩
  self := fun A i s Q E st h => wpAny_pyIter_zip st.1 h
def iZipS (K : PySem.W.Frag) (ta : TA) : TI := fun σ H R => ta σ H fun vs H1 => ∃ (k l : Sk) (xs ys : List V), vs = [k.v, l.v] ∧ k.Rd K H1 xs ∧ l.Rd K H1 ys ∧ R (ItzS K k l) H1
theorem pi_zipS {X : Cx} {e e2 : Expr} {ta : TA} {p pos tpos : Pos} {elts : List Expr} {kk : Nat} (hg : Gl X "zip") (hm : X.mg "zip" = none) (ha : PA X [e, e2] ta)
    (hs : starEach [e, e2] X.env = (false, eval e X.env) :: starEach [e2] X.env := by rfl) (hpl : (backTo pos (starEach [e2] X.env)).any (·.1) = false := by rfl) :
    PI X (.Tuple elts kk tpos) (.Call (.Name "zip" p) [e, e2] [] pos) (iZipS X.K ta) := by
  refine ⟨fun pins s σ H R I h => ?_⟩
  refine Call_ (ld_blt I hg hm PyProof.Rows.boot_zip (PyProof.Rows.callWith_type1 (thn (ha.run pos pins s σ H _ I h) fun us s1 ⟨vs, H1, I1, r1, q1⟩ => ?_) hs hpl))
  obtain ⟨k, l, xs, ys, ex, hqx, hqy, q⟩ := q1
  subst ex
  cases r1 with
  | cons r rr =>
    cases rr with
    | cons r' rr =>
      cases rr
      obtain ⟨o1, G1, B1, g1, hb1⟩ := Sk.begins I1 hqx r
      obtain ⟨o2, G2, B2, g2, hb2⟩ := Sk.begins I1 hqy r'
      refine zip_begins2 B1 B2 g1 g2 fun h' hz hTI hTO h1 h2 hsz hk => wpAny_pyIter_zip hz ?_
      have I2 : Inv X pins σ H1 { s1 with heap := h' } := I1.kept (t' := s1.toks) hk
      have ap : ∀ N : Nat, ZAp (N + 4) (N + 2) (N + 3) N (N + 1) := fun N => by constructor <;> (show (_ : Nat) ≠ _; omega)
      refine ⟨s1.heap.objs.size + 4, [s1.heap.objs.size + 4, s1.heap.objs.size + 2, s1.heap.objs.size + 3, s1.heap.objs.size, s1.heap.objs.size + 1], _, _, H1, rfl, I2, turn_zipS k l (ap s1.heap.objs.size), ⟨hz, hTI, ⟨_, _, hTO⟩, hb1 h' _ h1, hb2 h' _ h2⟩, fun c hcm => ?_, q⟩
      have e' : c = s1.heap.objs.size + 4 ∨ c = s1.heap.objs.size + 2 ∨ c = s1.heap.objs.size + 3 ∨ c = s1.heap.objs.size ∨ c = s1.heap.objs.size + 1 := by simpa using hcm
      have hle : s1.heap.objs.size ≤ c := by
        rcases e' with z | z | z | z | z
        · rw [z]; exact Nat.le_add_right _ _
        · rw [z]; exact Nat.le_add_right _ _
        · rw [z]; exact Nat.le_add_right _ _
        · rw [z]; exact Nat.le_refl _
        · rw [z]; exact Nat.le_add_right _ _
      exact I1.fpOk hle (I1.hok.fresh hle)
end DL

namespace DL
open PySem PySem.Spec PyProof.Rows L2
structure ItD where
  items : List D
  chk : Sto → Bool
def yes : Sto → Bool := fun _ => true
def chkL (l : Nat) (xs : List D) : Sto → Bool := fun S => decide (S[l]? = some (.lst xs))
def IR (cl : Cl) (K : PySem.W.Frag) (m0 : List Addr) (H0 : Hp) (it : ItD) (J : It) : Prop :=
  ∀ (i : Nat) m S H, Ext m0 m → Keep H0 H → RS cl K m S H → it.chk S = true →
    (i = it.items.length → J.stop i H) ∧ ∀ d, it.items[i]? = some d → J.go i H ∧ ∀ x H', J.yld i H x H' → Keep H H' ∧ RS cl K m S H' ∧ RV K m H' d x
def DI (cl : Cl) (X : Cx) (E : XK) (tg iter : Expr) (f : Sl → Sto → Res ItD) : Prop :=
  ∃ wi, PI X tg iter wi ∧ ∀ m S H sd σ R, RS cl X.K m S H → RSl X.K m H sd σ → Post cl X.K (IR cl X.K) m H E R (f sd S) → wi σ H R
def signsD (z : Str) : List D := z.cps.toList.map fun c => D.str ⟨#[c]⟩
def itemsD (d : D) (S : Sto) : Option ItD := match d with
  | .tup ds => some ⟨ds, yes⟩
  | .frl ds => some ⟨ds, yes⟩
  | .str z => some ⟨signsD z, yes⟩
  | .ref l => match S[l]? with
    | some (.lst ds) => some ⟨ds, chkL l ds⟩
    | _ => none
  | _ => none
def iVal (f : Sl → Sto → Res D) : Sl → Sto → Res ItD := fun sd S => (f sd S).bind fun d S1 => match itemsD d S1 with
  | some it => .ok it S1
  | none => .stuck
section
variable {cl : Cl} {X : Cx} {E : XK} {tg e e2 : Expr} {fa fb : Sl → Sto → Res D}
theorem chkL_eq {l : Nat} {xs : List D} {S : Sto} (h : chkL l xs S = true) : S[l]? = some (.lst xs) := of_decide_eq_true h
theorem rvs_signs {K : PySem.W.Frag} {m : List Addr} {H : Hp} (z : Str) : RVs K m H (signsD z) (signs z) := by
  unfold signsD signs
  induction z.cps.toList with
  | nil => exact rfl
  | cons c cs ih => exact ⟨_, _, rfl, rfl, ih⟩
theorem items_src {K : PySem.W.Frag} {m : List Addr} {S : Sto} {H : Hp} {d : D} {v : V} {it : ItD} (rs : RS cl K m S H) (rv : RV K m H d v) (h : itemsD d S = some it) :
    it.chk S = true ∧ ∃ (k : Sk), v = k.v ∧ ∀ m' S' H', Ext m m' → Keep H H' → RS cl K m' S' H' → it.chk S' = true → ∃ xs, k.Rd K H' xs ∧ RVs K m' H' it.items xs := by
  unfold itemsD at h
  split at h
  · rename_i ds
    cases h
    obtain ⟨a, vs, rfl, s1, r1⟩ := rv
    exact ⟨rfl, .t a, rfl, fun m' S' H' x k _ _ => ⟨vs, sqT_keep k s1, r1.mono x k⟩⟩
  · rename_i ds
    cases h
    obtain ⟨a, vs, rfl, s1, r1⟩ := rv
    exact ⟨rfl, .l a, rfl, fun m' S' H' x k _ _ => ⟨vs, (s1.keep k).sq, r1.mono x k⟩⟩
  · rename_i z
    cases h; cases rv
    exact ⟨rfl, .s z, rfl, fun m' S' H' x k _ _ => ⟨_, rfl, rvs_signs z⟩⟩
  · rename_i l
    split at h
    · rename_i ds e1
      cases h
      obtain ⟨a, h1, rfl⟩ := rv
      refine ⟨decide_eq_true e1, .l a, rfl, fun m' S' H' x k rs' hc => ?_⟩
      obtain ⟨a', h2, vs, hv, r1⟩ := rs'.adr (chkL_eq hc)
      rw [x l a h1] at h2; cases h2
      exact ⟨vs, SqL.of hv, r1⟩
    · cases h
  · cases h
def itS (K : PySem.W.Frag) : Sk → It
  | .l a => Itl K a
  | .t a => Itt K a
  | .s z => Its z
def iSrc (K : PySem.W.Frag) (te : TE) : TI := fun σ H R => te σ H fun v H1 => ∃ (k : Sk) (xs : List V), v = k.v ∧ k.Rd K H1 xs ∧ R (itS K k) H1
theorem pi_src {l : Expr} {tl : TE} (hl : PE X l tl) : PI X tg l (iSrc X.K tl) := by
  refine ⟨fun pins s σ H R I h => ?_⟩
  refine thn (hl.run pins s σ H _ I h) fun v s1 ⟨y, H1, I1, r1, q1⟩ => ?_
  obtain ⟨k, xs, e, hq, q⟩ := q1
  subst e
  cases k with
  | l a =>
    cases r1
    obtain ⟨its, rv, p, hz⟩ := I1.list hq
    refine wpAny_pyIter_list p.isList ?_
    refine ⟨s1.heap.objs.size, [s1.heap.objs.size], _, _, H1, rfl, I1.kept (t' := s1.toks) fun b o e => Heap.get?_push_of_some _ e, turn_list a _, ⟨_, Heap.get?_push_size _ rfl, rfl, rfl⟩, fun b hb => ?_, q⟩
    have e : b = s1.heap.objs.size := by simpa using hb
    subst e
    exact I1.fpOk (Nat.le_refl _) (I1.hok.fresh (Nat.le_refl _))
  | t a =>
    cases r1
    obtain ⟨its, rv, p, hz⟩ := I1.tuple hq
    refine wpAny_pyIter_tuple (show s1.heap.IsTuple a its.toArray from p) ?_
    refine ⟨s1.heap.objs.size, [s1.heap.objs.size], _, _, H1, rfl, I1.kept (t' := s1.toks) fun b o e => Heap.get?_push_of_some _ e, turn_tuple a _, ⟨_, Heap.get?_push_size _ rfl, rfl, rfl⟩, fun b hb => ?_, q⟩
    have e : b = s1.heap.objs.size := by simpa using hb
    subst e
    exact I1.fpOk (Nat.le_refl _) (I1.hok.fresh (Nat.le_refl _))
  | s x =>
    obtain ⟨t, rfl⟩ := r1
    cases ha : x.cps.all (· < 128)
    · exact wpAny_pyIter_wide ha (pi_one (tk := s1.toks) I1 _ (turn_str _ x t "str_iterator" (.inr rfl)) ⟨_, Heap.get?_push_size _ rfl, rfl, rfl⟩ q)
    · exact wpAny_pyIter_ascii ha (pi_one (tk := s1.toks) I1 _ (turn_str _ x t "str_ascii_iterator" (.inl rfl)) ⟨_, Heap.get?_push_size _ rfl, rfl, rfl⟩ q)
theorem ir_src {K : PySem.W.Frag} {m : List Addr} {H : Hp} {it : ItD} {k : Sk} (src : ∀ m' S' H', Ext m m' → Keep H H' → RS cl K m' S' H' → it.chk S' = true → ∃ xs, k.Rd K H' xs ∧ RVs K m' H' it.items xs) : IR cl K m H it (itS K k) := by
  intro i m' S' H' x kp rs' hc'
  obtain ⟨ys, hr', hv'⟩ := src m' S' H' x kp rs' hc'
  cases k with
  | l a =>
    refine ⟨fun e => ⟨ys, hr', by rw [← hv'.length, e]; exact Nat.le_refl _⟩, fun d' hd => ?_⟩
    obtain ⟨w, hw, rw'⟩ := hv'.get hd
    exact ⟨⟨ys, w, hr', hw⟩, fun y H2 ⟨e, hy⟩ => by subst e; have := hy ys hr'; rw [hw] at this; cases this; exact ⟨Keep.refl _, rs', rw'⟩⟩
  | t a =>
    refine ⟨fun e => ⟨ys, hr', by rw [← hv'.length, e]; exact Nat.le_refl _⟩, fun d' hd => ?_⟩
    obtain ⟨w, hw, rw'⟩ := hv'.get hd
    exact ⟨⟨ys, w, hr', hw⟩, fun y H2 ⟨e, hy⟩ => by subst e; have := hy ys hr'; rw [hw] at this; cases this; exact ⟨Keep.refl _, rs', rw'⟩⟩
  | s z =>
    have hys : ys = signs z := hr'
    have hlen : it.items.length = z.cps.size := by rw [hv'.length, hys]; simp [signs]
    refine ⟨fun e => by show z.cps.size ≤ i; omega, fun d' hd => ?_⟩
    have hi : i < z.cps.size := by rw [← hlen]; exact (List.getElem?_eq_some_iff.mp hd).1
    refine ⟨hi, fun y H2 ⟨e, c, hc1, hc2⟩ => ?_⟩
    subst e
    obtain ⟨w, hw, rw'⟩ := hv'.get hd
    refine ⟨Keep.refl _, rs', ?_⟩
    rw [hys] at hw
    unfold signs at hw
    rw [List.getElem?_map, Array.getElem?_toList, hc1] at hw
    cases hw
    rw [hc2]; exact rw'
theorem di_val (he : DE cl X E e fa) : DI cl X E tg e (iVal fa) := by
  obtain ⟨t, p, he⟩ := he
  refine ⟨_, pi_src p, fun m S H sd σ R rs rl h => ?_⟩
  refine he m S H sd σ _ rs rl (Post.bind h fun d S1 m1 v H1 x1 k1 rs1 rv h1 => ?_)
  split at h1
  · rename_i it e1
    obtain ⟨hc, k, rfl, src⟩ := items_src rs1 rv e1
    obtain ⟨xs, hr, hv⟩ := src m1 S1 H1 (Ext.refl _) (Keep.refl _) rs1 hc
    exact ⟨k, xs, rfl, hr, h1.here rs1 (ir_src src)⟩
  · exact h1.elim
def enumL : Nat → List D → List D
  | _, [] => []
  | n, d :: ds => .tup [.int (n : Nat), d] :: enumL (n + 1) ds
theorem enumL_len : ∀ (n : Nat) (ds : List D), (enumL n ds).length = ds.length
  | _, [] => rfl
  | n, d :: ds => by simp [enumL, enumL_len (n + 1) ds]
theorem enumL_get : ∀ (n : Nat) (ds : List D) (i : Nat), (enumL n ds)[i]? = (ds[i]?).map fun d => D.tup [.int ((n + i : Nat) : Int), d]
  | _, [], i => by simp [enumL]
  | n, d :: ds, 0 => by simp [enumL]
  | n, d :: ds, i + 1 => by
    simp only [enumL, List.getElem?_cons_succ]
    rw [enumL_get (n + 1) ds i, show n + 1 + i = n + (i + 1) by omega]
def iEnumD (f : Sl → Sto → Res D) : Sl → Sto → Res ItD := fun sd S => (f sd S).bind fun d S1 => match itemsD d S1 with
  | some it => .ok ⟨enumL 0 it.items, it.chk⟩ S1
  | none => .stuck
theorem di_enum {p pos tpos : Pos} {elts : List Expr} {kk : Nat} (hg : Gl X "enumerate") (hm : X.mg "enumerate" = none) (he : DE cl X E e fa) (hs : starEach [e] X.env = [(false, eval e X.env)] := by rfl) :
    DI cl X E (.Tuple elts kk tpos) (.Call (.Name "enumerate" p) [e] [] pos) (iEnumD fa) := by
  obtain ⟨t, q, he⟩ := he
  refine ⟨_, pi_enumS hg hm (pa_cons q pa_nil hs) hs, fun m S H sd σ R rs rl h => ?_⟩
  refine he m S H sd σ _ rs rl (Post.bind h fun d S1 m1 v H1 x1 k1 rs1 rv h1 => ?_)
  split at h1
  · rename_i it e1
    obtain ⟨hc, k, rfl, src⟩ := items_src rs1 rv e1
    obtain ⟨xs, hr, hv⟩ := src m1 S1 H1 (Ext.refl _) (Keep.refl _) rs1 hc
    refine ⟨k, xs, rfl, hr, h1.here rs1 ?_⟩
    intro i m' S' H' x kp rs' hc'
    obtain ⟨ys, hr', hv'⟩ := src m' S' H' x kp rs' hc'
    refine ⟨fun e => ⟨ys, hr', by rw [← hv'.length, e, enumL_len]⟩, fun d' hd => ?_⟩
    have hd1 : (enumL 0 it.items)[i]? = some d' := hd
    rw [enumL_get] at hd1
    obtain ⟨d0, e0, rfl⟩ := Option.map_eq_some_iff.mp hd1
    obtain ⟨w, hw, rw'⟩ := hv'.get e0
    refine ⟨⟨ys, w, hr', hw⟩, ?_⟩
    rintro y H2 ⟨T, w', rfl, hT, rfl, hy⟩
    have := hy ys hr'
    rw [hw] at this; cases this
    have nt := newTup rs' (ds := [.int ((0 + i : Nat) : Int), d0]) (vs := [.int (i : Nat), w]) ⟨_, _, rfl, by show V.int _ = V.int _; rw [Nat.zero_add], _, _, rfl, rw', rfl⟩ hT
    exact ⟨Keep.new hT, nt.1, nt.2⟩
  · exact h1.elim
def zipL : List D → List D → List D
  | a :: as, b :: bs => .tup [a, b] :: zipL as bs
  | _, _ => []
theorem zipL_len : ∀ (as bs : List D), (zipL as bs).length = min as.length bs.length
  | [], _ => by simp [zipL]
  | _ :: _, [] => by simp [zipL]
  | a :: as, b :: bs => by simp only [zipL, List.length_cons, zipL_len as bs]; omega
theorem zipL_get : ∀ (as bs : List D) (i : Nat) (d : D), (zipL as bs)[i]? = some d → ∃ a b, as[i]? = some a ∧ bs[i]? = some b ∧ d = .tup [a, b]
  | [], _, i, d, h => by simp [zipL] at h
  | _ :: _, [], i, d, h => by simp [zipL] at h
  | a :: as, b :: bs, 0, d, h => by simp [zipL] at h; exact ⟨a, b, rfl, rfl, h.symm⟩
  | a :: as, b :: bs, i + 1, d, h => by
    simp only [zipL, List.getElem?_cons_succ] at h
    obtain ⟨x, y, e1, e2, e3⟩ := zipL_get as bs i d h
    exact ⟨x, y, by simpa using e1, by simpa using e2, e3⟩
def iZipD (f g : Sl → Sto → Res D) : Sl → Sto → Res ItD := fun sd S => (f sd S).bind fun d S1 => (g sd S1).bind fun e S2 => match itemsD d S2, itemsD e S2 with
  | some it, some jt => .ok ⟨zipL it.items jt.items, fun S => it.chk S && jt.chk S⟩ S2
  | _, _ => .stuck
theorem di_zip {p pos tpos : Pos} {elts : List Expr} {kk : Nat} (hg : Gl X "zip") (hm : X.mg "zip" = none) (he : DE cl X E e fa) (he2 : DE cl X E e2 fb)
    (hs : starEach [e, e2] X.env = (false, eval e X.env) :: starEach [e2] X.env := by rfl) (hs2 : starEach [e2] X.env = (false, eval e2 X.env) :: starEach [] X.env := by rfl) (hpl : (backTo pos (starEach [e2] X.env)).any (·.1) = false := by rfl) :
    DI cl X E (.Tuple elts kk tpos) (.Call (.Name "zip" p) [e, e2] [] pos) (iZipD fa fb) := by
  obtain ⟨t, q, he⟩ := he
  obtain ⟨t2, q2, he2⟩ := he2
  refine ⟨_, pi_zipS hg hm (pa_cons q (pa_cons q2 pa_nil hs2) hs) hs hpl, fun m S H sd σ R rs rl h => ?_⟩
  refine he m S H sd σ _ rs rl (Post.bind h fun d S1 m1 v H1 x1 k1 rs1 rv h1 => ?_)
  refine he2 m1 S1 H1 sd σ _ rs1 (rl.mono x1 k1) (Post.bind h1 fun d2 S2 m2 v2 H2 x2 k2 rs2 rv2 h2 => ?_)
  split at h2
  · rename_i it jt e1 e2
    obtain ⟨hc, k, rfl, src⟩ := items_src rs2 (RV.mono x2 k2 d rv) e1
    obtain ⟨hc2, k', rfl, src2⟩ := items_src rs2 rv2 e2
    obtain ⟨xs, hr, hv⟩ := src m2 S2 H2 (Ext.refl _) (Keep.refl _) rs2 hc
    obtain ⟨ys, hr2, hv2⟩ := src2 m2 S2 H2 (Ext.refl _) (Keep.refl _) rs2 hc2
    refine ⟨k, k', xs, ys, rfl, hr, hr2, h2.here rs2 ?_⟩
    intro i m' S' H' x kp rs' hc'
    rw [Bool.and_eq_true] at hc'
    obtain ⟨xs', hr', hv'⟩ := src m' S' H' x kp rs' hc'.1
    obtain ⟨ys', hr2', hv2'⟩ := src2 m' S' H' x kp rs' hc'.2
    have l1 := hv'.length
    have l2 := hv2'.length
    refine ⟨fun e => ?_, fun d' hd => ?_⟩
    · have e' : i = min it.items.length jt.items.length := by rw [e]; exact zipL_len _ _
      exact ⟨xs', ys', hr', hr2', by omega, by omega, by omega⟩
    · obtain ⟨a, b, ea, eb, rfl⟩ := zipL_get _ _ _ _ hd
      obtain ⟨w, hw, rw'⟩ := hv'.get ea
      obtain ⟨w2, hw2, rw2'⟩ := hv2'.get eb
      refine ⟨⟨xs', ys', w, w2, hr', hr2', hw, hw2⟩, ?_⟩
      rintro y H3 ⟨T, u, u2, rfl, hT, rfl, hy, hy2⟩
      have z1 := hy xs' hr'
      rw [hw] at z1; cases z1
      have z2 := hy2 ys' hr2'
      rw [hw2] at z2; cases z2
      have nt := newTup rs' (ds := [a, b]) (vs := [w, w2]) ⟨_, _, rfl, rw', _, _, rfl, rw2', rfl⟩ hT
      exact ⟨Keep.new hT, nt.1, nt.2⟩
  · exact h2.elim
def rangeL (lo : Int) (n : Nat) : List D := (List.range n).map fun i => D.int (lo + (i : Nat))
theorem rangeL_len (lo : Int) (n : Nat) : (rangeL lo n).length = n := by simp [rangeL]
theorem ir_range {K : PySem.W.Frag} {m : List Addr} {H : Hp} (lo : Int) (n : Nat) : IR cl K m H ⟨rangeL lo n, yes⟩ (Itr lo n) := by
  intro i m' S' H' x kp rs' hc'
  refine ⟨fun e => by show n ≤ i; rw [e]; exact Nat.le_of_eq (rangeL_len lo n).symm, fun d hd => ?_⟩
  have hd1 : (rangeL lo n)[i]? = some d := hd
  have hi : i < n := by have := (List.getElem?_eq_some_iff.mp hd1).1; rw [rangeL_len] at this; exact this
  refine ⟨hi, fun y H2 ⟨e1, e2⟩ => ?_⟩
  subst e1 e2
  refine ⟨Keep.refl _, rs', ?_⟩
  unfold rangeL at hd1
  rw [List.getElem?_map, List.getElem?_range hi] at hd1
  cases hd1
  exact rfl
noncomputable def iRngD1 (f : Sl → Sto → Res D) : Sl → Sto → Res ItD := fun sd S => (f sd S).bind fun d S1 => match d with
  | .int j => if bnd 62 j = true then .ok ⟨rangeL 0 j.toNat, yes⟩ S1 else .stuck
  | _ => .stuck
noncomputable def iRngD2 (f g : Sl → Sto → Res D) : Sl → Sto → Res ItD := fun sd S => (f sd S).bind fun d S1 => (g sd S1).bind fun e S2 => match d, e with
  | .int i, .int j => if bnd 62 i = true ∧ bnd 62 j = true then .ok ⟨rangeL i (j - i).toNat, yes⟩ S2 else .stuck
  | _, _ => .stuck
theorem di_range1 {p pos : Pos} (hg : Gl X "range") (hm : X.mg "range" = none) (he : DE cl X E e fa) (hs : starEach [e] X.env = [(false, eval e X.env)] := by rfl) : DI cl X E tg (.Call (.Name "range" p) [e] [] pos) (iRngD1 fa) := by
  obtain ⟨t, q, he⟩ := he
  refine ⟨_, pi_range1 hg hm (pa_cons q pa_nil hs) hs, fun m S H sd σ R rs rl h => ?_⟩
  refine he m S H sd σ _ rs rl (Post.bind h fun d S1 m1 v H1 x1 k1 rs1 rv h1 => ?_)
  cases d with
  | int j =>
    cases rv
    dsimp only at h1
    split at h1
    · rename_i hz
      exact ⟨j, rfl, (bnd_ok hz).1, (bnd_ok hz).2, h1.here rs1 (ir_range 0 j.toNat)⟩
    · exact h1.elim
  | _ => exact h1.elim
def loopD (chk : Sto → Bool) (ga : D → Sl → Sto → Res Sl) (fb : Sl → Sto → Res Fl) : List D → Sl → Sto → Res Fl
  | [], sd, S => if chk S then .ok (.nx sd) S else .stuck
  | x :: xs, sd, S => if chk S then (ga x sd S).bind fun sd1 S1 => (fb sd1 S1).bind fun fl S2 => match fl with
      | .nx sd2 => loopD chk ga fb xs sd2 S2
      | .cnt sd2 => loopD chk ga fb xs sd2 S2
      | .brk sd2 => .ok (.nx sd2) S2
      | .ret d => .ok (.ret d) S2
    else .stuck
def sFor (fi : Sl → Sto → Res ItD) (ga : D → Sl → Sto → Res Sl) (fb : Sl → Sto → Res Fl) : Sl → Sto → Res Fl := fun sd S => (fi sd S).bind fun it S1 => loopD it.chk ga fb it.items sd S1
theorem zo {body : List Stmt} {fi : Sl → Sto → Res ItD} {ga : D → Sl → Sto → Res Sl} {fb : Sl → Sto → Res Fl} {pos : Pos} (hp : PassesOwn (model X.prog X.w) X.A X.env X.xe) (hc : X.calm = true) (hi : DI cl X E tg e fi) (hg : DG cl X E tg ga) (hb : DSs cl X E body fb) (hs : ∀ x, foldedSetIterable e X.env x = pure x := by intro _; rfl) :
    DS cl X E (.For tg e body [] pos) (sFor fi ga fb) := by
  obtain ⟨wi, pi, hi⟩ := hi
  obtain ⟨g, pg, hg⟩ := hg
  obtain ⟨tb, pb, hb⟩ := hb
  refine ⟨_, ps_for hp hc pi pg pb hs, fun m S H sd σ D rs rl h => ?_⟩
  refine hi m S H sd σ _ rs rl (Post.bind h fun it S1 m1 J H1 x1 k1 rs1 ir h1 => ?_)
  refine ⟨fun i n σ' H' => n + i = it.items.length ∧ ∃ m' S' sd', Ext m1 m' ∧ Keep H1 H' ∧ RS cl X.K m' S' H' ∧ RSl X.K m' H' sd' σ' ∧ Post cl X.K (RFl X.K) m' H' E (endQ D) (loopD it.chk ga fb (it.items.drop i) sd' S'), ⟨it.items.length, rfl, m1, S1, sd, Ext.refl _, Keep.refl _, rs1, rl.mono x1 k1, h1⟩, ?_⟩
  rintro i n σ' H' ⟨hn, m', S', sd', x', k', rs', rl', h'⟩
  by_cases hlt : i < it.items.length
  · have e1 : it.items.drop i = it.items[i] :: it.items.drop (i + 1) := by rw [List.drop_eq_getElem_cons hlt]
    rw [e1] at h'
    unfold loopD at h'
    split at h'
    · rename_i hck
      obtain ⟨go, yl⟩ := (ir i m' S' H' x' k' rs' hck).2 it.items[i] (by simp [hlt])
      refine .inr ⟨go, fun σ3 H3 => ∃ m3 S3 sd3, Ext m1 m3 ∧ Keep H1 H3 ∧ RS cl X.K m3 S3 H3 ∧ RSl X.K m3 H3 sd3 σ3 ∧ Post cl X.K (RFl X.K) m3 H3 E (endQ D) (loopD it.chk ga fb (it.items.drop (i + 1)) sd3 S3), fun σ3 H3 z => ⟨n - 1, by omega, by omega, z⟩, fun x H2 hy => ?_⟩
      obtain ⟨ky, rsy, rvy⟩ := yl x H2 hy
      refine hg m' S' H2 sd' σ' _ x _ rsy (rl'.mono (Ext.refl _) ky) rvy (Post.bind (Post.mono (Ext.refl _) ky h') fun sd1 S3 m3 σ3 H3 x3 k3 rs3 rl3 h3 => ?_)
      refine hb m3 S3 H3 sd1 σ3 _ rs3 rl3 (Post.bind h3 fun fl S4 m4 v H4 x4 k4 rs4 rv4 h4 => ?_)
      cases fl with
      | nx sd4 =>
        cases v with
        | nx σ4 => exact ⟨m4, S4, sd4, (x'.trans x3).trans x4, ((k'.trans ky).trans k3).trans k4, rs4, rv4, h4⟩
        | _ => exact rv4.elim
      | cnt sd4 =>
        cases v with
        | cnt σ4 => exact ⟨m4, S4, sd4, (x'.trans x3).trans x4, ((k'.trans ky).trans k3).trans k4, rs4, rv4, h4⟩
        | _ => exact rv4.elim
      | brk sd4 =>
        cases v with
        | brk σ4 => exact h4.toNx rs4 rv4
        | _ => exact rv4.elim
      | ret d =>
        cases v with
        | ret w => exact h4.toRt rs4 rv4
        | _ => exact rv4.elim
    · exact h'.elim
  · have hi' : i = it.items.length := by omega
    have e1 : it.items.drop i = [] := by rw [hi']; simp
    rw [e1] at h'
    unfold loopD at h'
    split at h'
    · rename_i hck
      exact .inl ⟨(ir i m' S' H' x' k' rs' hck).1 hi', h'.toNx rs' rl'⟩
    · exact h'.elim
def whileD (fc : Sl → Sto → Res Bool) (fb : Sl → Sto → Res Fl) : Nat → Sl → Sto → Res Fl
  | 0, _, _ => .stuck
  | n + 1, sd, S => (fc sd S).bind fun b S1 => if b then (fb sd S1).bind fun fl S2 => (match fl with
      | .nx sd2 => whileD fc fb n sd2 S2
      | .cnt sd2 => whileD fc fb n sd2 S2
      | .brk sd2 => .ok (.nx sd2) S2
      | .ret d => .ok (.ret d) S2) else .ok (.nx sd) S1
theorem ds_while {c : Expr} {body : List Stmt} {fc : Sl → Sto → Res Bool} {fb : Sl → Sto → Res Fl} {pos : Pos} (n : Nat) (hp : PassesOwn (model X.prog X.w) X.A X.env X.xe) (hc : DT cl X E c fc) (hb : DSs cl X E body fb) :
    DS cl X E (.While c body [] pos) (whileD fc fb n) := by
  obtain ⟨tc, pc, hc⟩ := hc
  obtain ⟨tb, pb, hb⟩ := hb
  refine ⟨_, ps_while hp pc pb, fun m S H sd σ D rs rl h => ?_⟩
  refine ⟨fun n σ' H' => ∃ m' S' sd', RS cl X.K m' S' H' ∧ RSl X.K m' H' sd' σ' ∧ Post cl X.K (RFl X.K) m' H' E (endQ D) (whileD fc fb n sd' S'), ⟨n, m, S, sd, rs, rl, h⟩, ?_⟩
  rintro n σ' H' ⟨m', S', sd', rs', rl', h'⟩
  cases n with
  | zero => exact h'.elim
  | succ n =>
    unfold whileD at h'
    refine hc m' S' H' sd' σ' _ rs' rl' (Post.bind h' fun b S1 m1 vb H1 x1 k1 rs1 rb h1 => ?_)
    cases rb
    cases b with
    | false => exact iteF (h1.toNx rs1 (rl'.mono x1 k1))
    | true =>
      refine iteT ⟨fun σ3 H3 => ∃ m' S' sd', RS cl X.K m' S' H3 ∧ RSl X.K m' H3 sd' σ3 ∧ Post cl X.K (RFl X.K) m' H3 E (endQ D) (whileD fc fb n sd' S'), fun σ3 H3 z => ⟨n, Nat.lt_succ_self _, z⟩, ?_⟩
      refine hb m1 S1 H1 sd' σ' _ rs1 (rl'.mono x1 k1) (Post.bind h1 fun fl S4 m4 v H4 x4 k4 rs4 rv4 h4 => ?_)
      cases fl with
      | nx sd4 =>
        cases v with
        | nx σ4 => exact ⟨m4, S4, sd4, rs4, rv4, h4⟩
        | _ => exact rv4.elim
      | cnt sd4 =>
        cases v with
        | cnt σ4 => exact ⟨m4, S4, sd4, rs4, rv4, h4⟩
        | _ => exact rv4.elim
      | brk sd4 =>
        cases v with
        | brk σ4 => exact h4.toNx rs4 rv4
        | _ => exact rv4.elim
      | ret d =>
        cases v with
        | ret w => exact h4.toRt rs4 rv4
        | _ => exact rv4.elim
end
end DL

namespace DL
open PySem PySem.Spec PyProof.Rows L2
def wipeD (sd : Sl) : List Nat → Sl
  | [] => sd
  | v :: vs => (wipeD sd vs).set v none
theorem wipe_get (σ : L2.St) : ∀ (vs : List Nat) (j : Nat), j < σ.length → (wipe σ vs)[j]? = if j ∈ vs then some none else σ[j]?
  | [], j, h => by simp [wipe]
  | v :: vs, j, h => by
    unfold wipe
    by_cases e : v = j
    · subst e
      rw [List.getElem?_set_self (by rw [wipe_length]; exact h)]
      simp
    · rw [List.getElem?_set_ne e, wipe_get σ vs j h]
      have : (j ∈ v :: vs) ↔ j ∈ vs := by simp [Ne.symm e]
      simp only [this]
theorem wipe_ext {σ τ : L2.St} {vs : List Nat} (hl : σ.length = τ.length) (h : ∀ j, j ∉ vs → σ[j]? = τ[j]?) : wipe σ vs = wipe τ vs := by
  apply List.ext_getElem?
  intro j
  by_cases hj : j < σ.length
  · rw [wipe_get σ vs j hj, wipe_get τ vs j (by omega)]
    by_cases e : j ∈ vs
    · rw [if_pos e, if_pos e]
    · rw [if_neg e, if_neg e]; exact h j e
  · rw [List.getElem?_eq_none (by rw [wipe_length]; omega), List.getElem?_eq_none (by rw [wipe_length]; omega)]
theorem wipe_set {σ : L2.St} {vs : List Nat} {i : Nat} {x : Option V} (h : i ∈ vs) : wipe (σ.set i x) vs = wipe σ vs :=
  wipe_ext (by simp) fun j hj => List.getElem?_set_ne (fun (e : i = j) => hj (by rw [← e]; exact h))
theorem wipe_wipe (σ : L2.St) (vs : List Nat) : wipe (wipe σ vs) vs = wipe σ vs :=
  wipe_ext (by rw [wipe_length]) fun j hj => wipe_out hj
theorem RSl.wipe {K : PySem.W.Frag} {m : List Addr} {H : Hp} {sd : Sl} {σ : L2.St} (r : RSl K m H sd σ) : ∀ vs : List Nat, RSl K m H (wipeD sd vs) (L2.wipe σ vs)
  | [] => r
  | v :: vs => by
    unfold wipeD L2.wipe
    exact (RSl.wipe r vs).unset v
structure Own (g : TG) (vs : List Nat) : Prop where
  mono : ∀ v σ H (Q Q' : L2.St → Hp → Prop), (∀ σ H, Q σ H → Q' σ H) → g v σ H Q → g v σ H Q'
  own : ∀ v σ H (Q : L2.St → Hp → Prop), g v σ H Q → g v σ H fun σ2 H2 => wipe σ2 vs = wipe σ vs ∧ Q σ2 H2
structure Owns (g : TGs) (vs : List Nat) : Prop where
  mono : ∀ v σ H (Q Q' : L2.St → Hp → Prop), (∀ σ H, Q σ H → Q' σ H) → g v σ H Q → g v σ H Q'
  own : ∀ v σ H (Q : L2.St → Hp → Prop), g v σ H Q → g v σ H fun σ2 H2 => wipe σ2 vs = wipe σ vs ∧ Q σ2 H2
def DGw (cl : Cl) (X : Cx) (E : XK) (vs : List Nat) (tg : Expr) (f : D → Sl → Sto → Res Sl) : Prop :=
  ∃ g, PG X tg g ∧ Own g vs ∧ ∀ m S H sd σ d v Q, RS cl X.K m S H → RSl X.K m H sd σ → RV X.K m H d v → Post cl X.K (RSl X.K) m H E Q (f d sd S) → g v σ H Q
def DGsw (cl : Cl) (X : Cx) (E : XK) (vs : List Nat) (tg : List Expr) (f : List D → Sl → Sto → Res Sl) : Prop :=
  ∃ g, PGs X tg g ∧ Owns g vs ∧ ∀ m S H sd σ d v Q, RS cl X.K m S H → RSl X.K m H sd σ → RVs X.K m H d v → Post cl X.K (RSl X.K) m H E Q (f d sd S) → g v σ H Q
section
variable {cl : Cl} {X : Cx} {E : XK} {vs : List Nat} {pos : Pos}
theorem dgw_name {i : Nat} {x : Str} (hv : i ∈ vs) (hN : X.N.Nodup) (hi : X.N[i]? = some x) (hx : Loc X.env.scope x) (hf : X.fn x = true ∨ X.env.scope.names.lookup x = some .local := by first | exact .inl rfl | exact .inr rfl | assumption) : DGw cl X E vs (.Name x pos) (gVar i) :=
  ⟨_, pg_name hN hi hx hf, ⟨fun v σ H Q Q' hq h => hq _ _ h, fun v σ H Q h => ⟨wipe_set hv, h⟩⟩, fun m S H sd σ d v Q rs rl rv h => h.here rs (rl.set i rv)⟩
theorem dgsw_nil : DGsw cl X E vs [] gsNil := by
  refine ⟨_, pgs_nil, ⟨fun v σ H Q Q' hq h => ⟨h.1, hq _ _ h.2⟩, fun v σ H Q h => ⟨h.1, rfl, h.2⟩⟩, fun m S H sd σ ds vs Q rs rl rv h => ?_⟩
  cases ds with
  | nil => exact ⟨rv, h.here rs rl⟩
  | cons _ _ => exact h.elim
theorem dgsw_cons {e : Expr} {es : List Expr} {g k} (h1 : DGw cl X E vs e g) (h2 : DGsw cl X E vs es k) (hs : (assignEach (e :: es) X.env).map (·.2) = assign e X.env :: (assignEach es X.env).map (·.2) := by rfl) : DGsw cl X E vs (e :: es) (gsCons g k) := by
  obtain ⟨t, p, o1, h1⟩ := h1
  obtain ⟨u, q, o2, h2⟩ := h2
  refine ⟨_, pgs_cons p q hs, ⟨fun v σ H Q Q' hq h => ?_, fun v σ H Q h => ?_⟩, fun m S H sd σ ds vs Q rs rl rv h => ?_⟩
  · obtain ⟨v1, r, e, h⟩ := h
    exact ⟨v1, r, e, o1.mono _ _ _ _ _ (fun σ2 H2 z => o2.mono _ _ _ _ _ hq z) h⟩
  · obtain ⟨v1, r, e, h⟩ := h
    refine ⟨v1, r, e, o1.mono _ _ _ _ _ (fun σ2 H2 z => ?_) (o1.own _ _ _ _ h)⟩
    obtain ⟨z1, z2⟩ := z
    exact o2.mono _ _ _ _ _ (fun σ3 H3 y => ⟨y.1.trans z1, y.2⟩) (o2.own _ _ _ _ z2)
  · cases ds with
    | nil => exact h.elim
    | cons d r =>
      obtain ⟨v, vr, rfl, r1, r2⟩ := rv
      refine ⟨v, vr, rfl, ?_⟩
      refine h1 m S H sd σ d v _ rs rl r1 (Post.bind h fun sd1 S1 m1 σ1 H1 x1 k1 rs1 rl1 h3 => ?_)
      exact h2 m1 S1 H1 sd1 σ1 r vr Q rs1 rl1 (r2.mono x1 k1) h3
theorem dgw_tup {es : List Expr} {k : Nat} {t} {n : Nat} (hc : X.calm = true) (h : DGsw cl X E vs es t)
    (hn : (assignEach es X.env).length = n := by rfl) (hst : (assignEach es X.env).findIdx? (·.1) = none := by rfl) : DGw cl X E vs (.Tuple es k pos) (gTupD n t) := by
  obtain ⟨u, q, o, h⟩ := h
  refine ⟨_, PG.or (pg_tup hc q hn hst) (pg_unl hc q hn hst), ⟨fun v σ H Q Q' hq hh => ?_, fun v σ H Q hh => ?_⟩, fun m S H sd σ d v Q rs rl rv hh => ?_⟩
  · rcases hh with ⟨a, xs, e, s1, hl, hh⟩ | ⟨a, xs, e, s1, hl, hh⟩
    · exact .inl ⟨a, xs, e, s1, hl, o.mono _ _ _ _ _ hq hh⟩
    · exact .inr ⟨a, xs, e, s1, hl, o.mono _ _ _ _ _ hq hh⟩
  · rcases hh with ⟨a, xs, e, s1, hl, hh⟩ | ⟨a, xs, e, s1, hl, hh⟩
    · exact .inl ⟨a, xs, e, s1, hl, o.own _ _ _ _ hh⟩
    · exact .inr ⟨a, xs, e, s1, hl, o.own _ _ _ _ hh⟩
  · unfold gTupD at hh
    split at hh
    · rename_i ds
      split at hh
      · rename_i hl
        obtain ⟨a, vs, rfl, s1, r1⟩ := rv
        exact .inl ⟨a, vs, rfl, s1, by rw [← r1.length]; exact hl, h m S H sd σ ds vs Q rs rl r1 hh⟩
      · exact hh.elim
    · split at hh
      · rename_i ds e1
        split at hh
        · rename_i hl
          obtain ⟨a, vs, rfl, hv, r1⟩ := ls_rv rs rv e1
          exact .inr ⟨a, vs, rfl, hv, by rw [← r1.length]; exact hl, h m S H sd σ ds vs Q rs rl r1 hh⟩
        · exact hh.elim
      · exact hh.elim
end
def Res.noExc {α : Type} : Res α → Res α
  | .exc _ _ => .stuck
  | r => r
theorem Post.noExc {cl : Cl} {K : PySem.W.Frag} {α β : Type} {Rv : List Addr → Hp → α → β → Prop} {m : List Addr} {H : Hp} {E : XK} {Q : β → Hp → Prop} {r : Res α} (h : Post cl K Rv m H E Q r.noExc) : Post cl K Rv m H E0 Q r := by
  cases r with
  | ok a S => exact h
  | exc x S => exact h.elim
  | stuck => exact h
theorem Post.bindN {cl : Cl} {K : PySem.W.Frag} {α β γ δ : Type} {Rv : List Addr → Hp → α → β → Prop} {Rw : List Addr → Hp → γ → δ → Prop} {m : List Addr} {H : Hp} {E : XK} {Q : β → Hp → Prop}
    {r : Res α} {k : α → Sto → Res γ} {Q' : δ → Hp → Prop} (h : Post cl K Rw m H E Q' (r.noExc.bind k))
    (hk : ∀ d S1 m1 v H1, Ext m m1 → Keep H H1 → RS cl K m1 S1 H1 → Rv m1 H1 d v → Post cl K Rw m1 H1 E Q' (k d S1) → Q v H1) : Post cl K Rv m H E0 Q r := by
  cases r with
  | ok d S1 => exact fun m1 v H1 x1 k1 rs rv => hk d S1 m1 v H1 x1 k1 rs rv (Post.mono x1 k1 h)
  | exc x S1 => exact h.elim
  | stuck => exact h.elim
def compD (chk : Sto → Bool) (ga : D → Sl → Sto → Res Sl) (ft : Sl → Sto → Res Bool) (fe : Sl → Sto → Res D) (l : Nat) (sd : Sl) : List D → Sto → Res Unit
  | [], S => if chk S then .ok () S else .stuck
  | x :: xs, S => if chk S then (ga x sd S).noExc.bind fun sd1 S1 => (ft sd1 S1).noExc.bind fun b S2 => if b then (fe sd1 S2).noExc.bind fun y S3 => (match S3[l]? with
      | some (.lst acc) => if acc.length < sizeLine then compD chk ga ft fe l sd xs (S3.set l (.lst (acc ++ [y]))) else .stuck
      | _ => .stuck) else compD chk ga ft fe l sd xs S2
    else .stuck
def dComp (vs : List Nat) (fi : Sl → Sto → Res ItD) (ga : D → Sl → Sto → Res Sl) (ft : Sl → Sto → Res Bool) (fe : Sl → Sto → Res D) : Sl → Sto → Res D := fun sd S =>
  (fi sd S).bind fun it S1 => (compD it.chk ga ft fe S1.length (wipeD sd vs) it.items (S1 ++ [.lst []])).bind fun _ S2 => .ok (.ref S1.length) S2
def tYesD : Sl → Sto → Res Bool := fun _ S => .ok true S
def DTs (cl : Cl) (X : Cx) (E : XK) (ifs : List Expr) (f : Sl → Sto → Res Bool) : Prop :=
  ∃ t, PTs X ifs t ∧ ∀ m S H sd σ Q, RS cl X.K m S H → RSl X.K m H sd σ → Post cl X.K RBool m H E Q (f sd S) → t σ H Q
section
variable {cl : Cl} {X : Cx} {E : XK} {e : Expr} {f : Sl → Sto → Res Bool}
theorem dts_nil : DTs cl X E [] tYesD := ⟨_, pts_nil, fun m S H sd σ Q rs rl h => h.here rs rfl⟩
theorem dts_one (h : DT cl X E e f) : DTs cl X E [e] f := by
  obtain ⟨t, p, h⟩ := h
  exact ⟨_, pts_one p, h⟩
end
section
variable {cl : Cl} {X : Cx} {E : XK} {elt tg iter : Expr} {ifs : List Expr} {scope : Scope} {own : List (Str × Nat)} {pos : Pos} {fi : Sl → Sto → Res ItD} {ga : D → Sl → Sto → Res Sl} {ft : Sl → Sto → Res Bool} {fe : Sl → Sto → Res D}
theorem comp_core {wi : TI} {g : TG} {tt : TT} {te : TE} {vs : List Nat} (X' : Cx) (hK : X'.K = X.K)
    (hi : ∀ m S H sd σ R, RS cl X.K m S H → RSl X.K m H sd σ → Post cl X.K (IR cl X.K) m H E R (fi sd S) → wi σ H R)
    (og : Own g vs) (hg : ∀ m S H sd σ d v Q, RS cl X.K m S H → RSl X.K m H sd σ → RV X.K m H d v → Post cl X.K (RSl X.K) m H E0 Q (ga d sd S) → g v σ H Q)
    (ht : ∀ m S H sd σ Q, RS cl X.K m S H → RSl X.K m H sd σ → Post cl X.K RBool m H E0 Q (ft sd S) → tt σ H Q)
    (he : ∀ m S H sd σ Q, RS cl X.K m S H → RSl X.K m H sd σ → Post cl X.K (RV X.K) m H E0 Q (fe sd S) → te σ H Q) :
    ∀ m S H sd σ Q, RS cl X.K m S H → RSl X.K m H sd σ → Post cl X.K (RV X.K) m H E Q (dComp vs fi ga ft fe sd S) → tLc wi g tt te vs σ H Q := by
  intro m S H sd σ Q rs rl h
  refine hi m S H sd σ _ rs rl (Post.bind h fun it S1 m1 J H1 x1 k1 rs1 ir h1 => ?_)
  intro D hD
  obtain ⟨nl1, nl2⟩ := newLst rs1 (ds := []) (vs := []) rfl hD
  obtain ⟨aD, hmD, eD⟩ := nl2
  cases eD
  have x2 := Ext.snoc m1 D
  have k2 : Keep H1 (upd H1 D (.lst [])) := Keep.new hD
  refine ⟨fun i n H' => n + i = it.items.length ∧ ∃ m' S', Ext (m1 ++ [D]) m' ∧ Keep (upd H1 D (.lst [])) H' ∧ RS cl X.K m' S' H' ∧ Post cl X.K (RV X.K) m' H' E Q ((compD it.chk ga ft fe S1.length (wipeD sd vs) (it.items.drop i) S').bind fun _ S2 => .ok (.ref S1.length) S2),
    ⟨it.items.length, rfl, m1 ++ [D], S1 ++ [.lst []], Ext.refl _, Keep.refl _, nl1, by rw [List.drop_zero]; exact Post.mono x2 k2 h1⟩, ?_⟩
  rintro i n H' ⟨hn, m', S', x', k', rs', h'⟩
  have rlw : RSl X.K m' H' (wipeD sd vs) (wipe σ vs) := ((rl.mono x1 k1).wipe vs).mono (x2.trans x') (k2.trans k')
  by_cases hlt : i < it.items.length
  · have e1 : it.items.drop i = it.items[i] :: it.items.drop (i + 1) := by rw [List.drop_eq_getElem_cons hlt]
    rw [e1] at h'
    unfold compD at h'
    split at h'
    · rename_i hck
      obtain ⟨go, yl⟩ := (ir i m' S' H' (x2.trans x') (k2.trans k') rs' hck).2 it.items[i] (by simp [hlt])
      refine .inr ⟨go, fun H3 => ∃ m3 S3, Ext (m1 ++ [D]) m3 ∧ Keep (upd H1 D (.lst [])) H3 ∧ RS cl X.K m3 S3 H3 ∧ Post cl X.K (RV X.K) m3 H3 E Q ((compD it.chk ga ft fe S1.length (wipeD sd vs) (it.items.drop (i + 1)) S3).bind fun _ S2 => .ok (.ref S1.length) S2), fun H3 z => ⟨n - 1, by omega, by omega, z⟩, fun x H2 hy => ?_⟩
      obtain ⟨ky, rsy, rvy⟩ := yl x H2 hy
      rw [bind_assoc] at h'
      refine og.mono _ _ _ _ _ (fun σ2 H2' z => ⟨z.1.trans (wipe_wipe σ vs), z.2⟩) (og.own _ _ _ _ (hg m' S' H2 (wipeD sd vs) (wipe σ vs) _ x _ rsy (rlw.mono (Ext.refl _) ky) rvy (Post.bindN (Post.mono (Ext.refl _) ky h') fun sd1 S3 m3 σ3 H3 x3 k3 rs3 rl3 h3 => ?_)))
      rw [bind_assoc] at h3
      refine ht m3 S3 H3 sd1 σ3 _ rs3 rl3 (Post.bindN h3 fun b S4 m4 vb H4 x4 k4 rs4 rb h4 => ?_)
      cases rb
      cases b with
      | false => exact iteF ⟨m4, S4, (x'.trans x3).trans x4, ((k'.trans ky).trans k3).trans k4, rs4, h4⟩
      | true =>
        refine iteT ?_
        have h4' : Post cl X.K (RV X.K) m4 H4 E Q (((fe sd1 S4).noExc.bind fun y S3 => (match S3[S1.length]? with
            | some (.lst acc) => if acc.length < sizeLine then compD it.chk ga ft fe S1.length (wipeD sd vs) (it.items.drop (i + 1)) (S3.set S1.length (.lst (acc ++ [y]))) else .stuck
            | _ => .stuck)).bind fun _ S2 => .ok (.ref S1.length) S2) := h4
        rw [bind_assoc] at h4'
        refine he m4 S4 H4 sd1 σ3 _ rs4 (rl3.mono x4 k4) (Post.bindN h4' fun y S5 m5 vy H5 x5 k5 rs5 ry h5 => ?_)
        split at h5
        · rename_i acc ea
          split at h5
          · rename_i hz
            obtain ⟨a, ha, ws, hw, rw'⟩ := rs5.adr ea
            have xx : Ext (m1 ++ [D]) m5 := ((x'.trans x3).trans x4).trans x5
            rw [xx _ _ hmD] at ha; cases ha
            have hk5 := rs5.keepPut (u := .lst (ws ++ [vy])) ea (xx _ _ hmD)
            refine ⟨ws, hw, by rw [← rw'.length]; exact hz, m5, List.set S5 S1.length (.lst (acc ++ [y])), xx, (((k'.trans ky).trans k3).trans k4).trans (k5.trans hk5), rs5.put ea (xx _ _ hmD) ⟨_, upd_same, (rw'.snoc ry).mono (Ext.refl _) hk5⟩, Post.mono (Ext.refl _) hk5 h5⟩
          · exact h5.elim
        · exact h5.elim
    · exact h'.elim
  · have hi' : i = it.items.length := by omega
    have e1 : it.items.drop i = [] := by rw [hi']; simp
    rw [e1] at h'
    unfold compD at h'
    split at h'
    · rename_i hck
      exact .inl ⟨(ir i m' S' H' (x2.trans x') (k2.trans k') rs' hck).1 hi', h' m' (.ref D) H' (Ext.refl _) (Keep.refl _) rs' ⟨D, x' _ _ hmD, rfl⟩⟩
    · exact h'.elim
theorem de_comp (hc : X.calm = true) (hN : X.N.Nodup) (hi : DI cl X E tg iter fi) (ok : BlkOk X.N X.env.scope scope own)
    (hg : ∀ (s : Shared) (H : Hp) (C : Addr) (c : List (Str × Addr)) (fp : List Addr), DGw cl (X.blk s H scope (compEnvC scope c C X.env) fp) E0 (own.map (·.2)) tg ga)
    (ht : ∀ (s : Shared) (H : Hp) (C : Addr) (c : List (Str × Addr)) (fp : List Addr), DTs cl (X.blk s H scope (compEnvC scope c C X.env) fp) E0 ifs ft)
    (he : ∀ (s : Shared) (H : Hp) (C : Addr) (c : List (Str × Addr)) (fp : List Addr), DE cl (X.blk s H scope (compEnvC scope c C X.env) fp) E0 elt fe)
    (hs : ∀ x, foldedSetIterable iter X.env x = pure x := by intro _; rfl) :
    DE cl X E (.ListComp elt [⟨tg, iter, ifs, 0⟩] scope pos) (dComp (own.map (·.2)) fi ga ft fe) := by
  obtain ⟨wi, pi, hi⟩ := hi
  -- one reading for all blocks: every reading that the block's rules allow
  refine ⟨tLc wi (fun v σ H Q => ∃ m S sd d, RS cl X.K m S H ∧ RSl X.K m H sd σ ∧ RV X.K m H d v ∧ Post cl X.K (RSl X.K) m H E0 (fun σ2 H2 => wipe σ2 (own.map (·.2)) = wipe σ (own.map (·.2)) → Q σ2 H2) (ga d sd S))
      (fun σ H Q => ∃ m S sd, RS cl X.K m S H ∧ RSl X.K m H sd σ ∧ Post cl X.K RBool m H E0 Q (ft sd S))
      (fun σ H Q => ∃ m S sd, RS cl X.K m S H ∧ RSl X.K m H sd σ ∧ Post cl X.K (RV X.K) m H E0 Q (fe sd S)) (own.map (·.2)), pe_lc hc hN pi ok (fun s H C c fp => ?_) (fun s H C c fp => ?_) (fun s H C c fp => ?_) hs, ?_⟩
  · obtain ⟨g, pg, og, hg⟩ := hg s H C c fp
    exact ⟨fun pins s σ H v u Q I r ⟨m, S, sd, d, rs, rl, rv, h⟩ => pg.run pins s σ H v u Q I r (og.mono _ _ _ _ _ (fun σ2 H2 z => z.2 z.1) (og.own _ _ _ _ (hg m S H sd σ d v _ rs rl rv h)))⟩
  · obtain ⟨t, p, ht⟩ := ht s H C c fp
    exact ⟨fun pins s σ H Q I ⟨m, S, sd, rs, rl, h⟩ => p.run pins s σ H Q I (ht m S H sd σ Q rs rl h)⟩
  · obtain ⟨t, p, he⟩ := he s H C c fp
    exact ⟨fun pins s σ H Q I ⟨m, S, sd, rs, rl, h⟩ => p.run pins s σ H Q I (he m S H sd σ Q rs rl h)⟩
  · refine comp_core X rfl hi ⟨fun v σ H Q Q' hq ⟨m, S, sd, d, rs, rl, rv, h⟩ => ⟨m, S, sd, d, rs, rl, rv, h.imp fun σ2 H2 z w => hq _ _ (z w)⟩, fun v σ H Q ⟨m, S, sd, d, rs, rl, rv, h⟩ => ⟨m, S, sd, d, rs, rl, rv, h.imp fun σ2 H2 z w => ⟨w, z w⟩⟩⟩
      (fun m S H sd σ d v Q rs rl rv h => ⟨m, S, sd, d, rs, rl, rv, Post.imp (Q' := fun σ2 H2 => wipe σ2 (own.map (·.2)) = wipe σ (own.map (·.2)) → Q σ2 H2) (fun σ2 H2 z _ => z) h⟩) (fun m S H sd σ Q rs rl h => ⟨m, S, sd, rs, rl, h⟩) (fun m S H sd σ Q rs rl h => ⟨m, S, sd, rs, rl, h⟩)
end
end DL

namespace DL
open PySem PySem.Spec PyProof.Rows L2
def ixD : D → D → Sto → Res D
  | .tup ds, .int i, S => match atI ds i with
    | some d => .ok d S
    | none => .stuck
  | .frl ds, .int i, S => match atI ds i with
    | some d => .ok d S
    | none => .stuck
  | .str z, .int i, S => if z.length ≤ sizeLine then match atI z.cps.toList i with
      | some c => .ok (.str ⟨#[c]⟩) S
      | none => .stuck
    else .stuck
  | .ref l, .int i, S => match S[l]? with
    | some (.lst ds) => match atI ds i with
      | some d => .ok d S
      | none => .stuck
    | _ => .stuck
  | _, _, _ => .stuck
section
variable {cl : Cl} {X : Cx} {E : XK} {a b : Expr} {fa fb : Sl → Sto → Res D} {pos : Pos}
theorem atI_rv {K : PySem.W.Frag} {m : List Addr} {H : Hp} {ds : List D} {vs : List V} {i : Int} {d : D} (r : RVs K m H ds vs) (h : atI ds i = some d) : ∃ v, atI vs i = some v ∧ RV K m H d v := by
  unfold atI at h ⊢
  rw [← r.length]
  cases e : ixN ds.length i with
  | none => rw [e] at h; cases h
  | some j =>
    rw [e] at h
    exact r.get h
theorem ix_seqD {m : List Addr} {S : Sto} {H : Hp} {x y : D} {vx vy : V} {Q : VK} {E : XK} (rs : RS cl X.K m S H) (rx : RV X.K m H x vx) (ry : RV X.K m H y vy) (h : Post cl X.K (RV X.K) m H E Q (ixD x y S)) : rIx X.K vx vy H Q := by
  unfold ixD at h
  split at h
  · cases ry
    obtain ⟨a, vs, rfl, s1, r1⟩ := rx
    split at h
    · rename_i d e
      obtain ⟨v, e1, rv⟩ := atI_rv r1 e
      exact .inr (.inl ⟨a, vs, _, v, rfl, rfl, s1, e1, h.here rs rv⟩)
    · exact h.elim
  · cases ry
    obtain ⟨a, vs, rfl, s1, r1⟩ := rx
    split at h
    · rename_i d e
      obtain ⟨v, e1, rv⟩ := atI_rv r1 e
      exact .inl ⟨a, vs, _, v, rfl, rfl, s1.sq, e1, h.here rs rv⟩
    · exact h.elim
  · cases ry; cases rx
    split at h
    · rename_i hz
      split at h
      · rename_i c e
        exact .inr (.inr ⟨_, _, c, rfl, rfl, hz, e, h.here rs rfl⟩)
      · exact h.elim
    · exact h.elim
  · cases ry
    split at h
    · rename_i ds e1
      obtain ⟨a, h1, vs, hv, r1⟩ := rs.adr e1
      obtain ⟨a', h2, rfl⟩ := rx
      rw [h1] at h2; cases h2
      split at h
      · rename_i d e
        obtain ⟨v, e1, rv⟩ := atI_rv r1 e
        exact .inl ⟨a, vs, _, v, rfl, rfl, SqL.of hv, e1, h.here rs rv⟩
      · exact h.elim
    · exact h.elim
  · exact h.elim
theorem zf (ha : DE cl X E a fa) (hb : DE cl X E b fb) (hs : PlainIx b := by intro _ _; rfl) : DE cl X E (.Subscript a b pos) (d2 ixD fa fb) := by
  obtain ⟨t, p, ha⟩ := ha
  obtain ⟨u, q, hb⟩ := hb
  refine ⟨_, pe_ix ix_seq p q hs, fun m S H sd σ Q rs rl h => ?_⟩
  refine ha m S H sd σ _ rs rl (Post.bind h fun x S1 m1 vx H1 x1 k1 rs1 rx h1 => ?_)
  refine hb m1 S1 H1 sd σ _ rs1 (rl.mono x1 k1) (Post.bind h1 fun y S2 m2 vy H2 x2 k2 rs2 ry h2 => ?_)
  exact ix_seqD rs2 (RV.mono x2 k2 x rx) ry h2
def setD (o i v : D) (S : Sto) : Res Unit := match o, i with
  | .ref l, .int k => match S[l]? with
    | some (.lst ds) => match ixN ds.length k with
      | some j => .ok () (S.set l (.lst (ds.set j v)))
      | none => .stuck
    | _ => .stuck
  | _, _ => .stuck
def gSubD (set : D → D → D → Sto → Res Unit) (fo fi : Sl → Sto → Res D) : D → Sl → Sto → Res Sl := fun v sd S => (fo sd S).bind fun o S1 => (fi sd S1).bind fun i S2 => (set o i v S2).bind fun _ S3 => .ok sd S3
def SetD (cl : Cl) (X : Cx) (g : D → D → D → Sto → Res Unit) : Prop :=
  ∃ t, PSet X t ∧ ∀ (E : XK) m S H o i v vo vi vv (Q : Hp → Prop), RS cl X.K m S H → RV X.K m H o vo → RV X.K m H i vi → RV X.K m H v vv → Post cl X.K (fun _ _ (_ _ : Unit) => True) m H E (fun _ H => Q H) (g o i v S) → t vo vi vv H Q
theorem set_lstD : SetD cl X setD := by
  refine ⟨_, set_list, fun E m S H o i v vo vi vv Q rs ro ri rv h => ?_⟩
  unfold setD at h
  split at h
  · rename_i l k
    cases ri
    split at h
    · rename_i ds e1
      obtain ⟨a, h1, vs, hv, r1⟩ := rs.adr e1
      obtain ⟨a', h2, rfl⟩ := ro
      rw [h1] at h2; cases h2
      split at h
      · rename_i j ej
        have kp := rs.keepPut (u := .lst (vs.set j vv)) e1 h1
        exact ⟨a, vs, k, j, rfl, rfl, hv, by rw [← r1.length]; exact ej, h m () _ (Ext.refl _) kp (rs.put e1 h1 ⟨_, upd_same, (r1.set rv j).mono (Ext.refl _) kp⟩) trivial⟩
      · exact h.elim
    · exact h.elim
  · exact h.elim
theorem dg_sub {o i : Expr} {fo fi set} (ho : DE cl X E o fo) (hi : DE cl X E i fi) (hs : SetD cl X set)
    (ha : ∀ v, assign (.Subscript o i pos) X.env v = (do
      let ov ← holding [v] (eval o X.env)
      let iv ← holding [v, ov] (eval i X.env)
      standAt pos
      holding [v, ov, iv] (setItem ov iv v)
      release [v, ov, iv] []) := by intro _; rfl) : DG cl X E (.Subscript o i pos) (gSubD set fo fi) := by
  obtain ⟨t, p, ho⟩ := ho
  obtain ⟨u, q, hi⟩ := hi
  obtain ⟨w, ps, hs⟩ := hs
  refine ⟨_, pg_sub p q ps ha, fun m S H sd σ d v Q rs rl rv h => ?_⟩
  refine ho m S H sd σ _ rs rl (Post.bind h fun x S1 m1 vx H1 x1 k1 rs1 rx h1 => ?_)
  refine hi m1 S1 H1 sd σ _ rs1 (rl.mono x1 k1) (Post.bind h1 fun y S2 m2 vy H2 x2 k2 rs2 ry h2 => ?_)
  refine hs E m2 S2 H2 x y d vx vy v _ rs2 (RV.mono x2 k2 x rx) ry (RV.mono (x1.trans x2) (k1.trans k2) d rv) (Post.bind h2 fun _ S3 m3 _ H3 x3 k3 rs3 _ h3 => ?_)
  exact h3.here rs3 (rl.mono ((x1.trans x2).trans x3) ((k1.trans k2).trans k3))
def cutL (ds : List D) (lo hi : Option Int) : List D := (ds.drop (HT.sIx ds.length 0 lo)).take (HT.sIx ds.length ds.length hi - HT.sIx ds.length 0 lo)
def sliceD (x : D) (lo hi : Option Int) (S : Sto) : Res D := match x with
  | .tup ds => .ok (.tup (cutL ds lo hi)) S
  | .frl ds => .ok (.ref S.length) (S ++ [.lst (cutL ds lo hi)])
  | .str z => if z.length ≤ sizeLine then .ok (.str (cutS z lo hi)) S else .stuck
  | .ref l => match S[l]? with
    | some (.lst ds) => .ok (.ref S.length) (S ++ [.lst (cutL ds lo hi)])
    | _ => .stuck
  | _ => .stuck
def DPO (cl : Cl) (X : Cx) (E : XK) (e : Option Expr) (f : Sl → Sto → Res (Option Int)) : Prop :=
  ∃ t, PO X e t ∧ ∀ m S H sd σ Q, RS cl X.K m S H → RSl X.K m H sd σ → Post cl X.K (fun _ _ (a b : Option Int) => a = b) m H E Q (f sd S) → t σ H Q
def oNone : Sl → Sto → Res (Option Int) := fun _ S => .ok none S
def oSome (f : Sl → Sto → Res D) : Sl → Sto → Res (Option Int) := fun sd S => (f sd S).bind fun d S1 => match d with
  | .int i => .ok (some i) S1
  | _ => .stuck
theorem dpo_none : DPO cl X E none oNone := ⟨_, po_none, fun m S H sd σ Q rs rl h => h.here rs rfl⟩
theorem dpo_some (ha : DE cl X E a fa) : DPO cl X E (some a) (oSome fa) := by
  obtain ⟨t, p, ha⟩ := ha
  refine ⟨_, po_some p, fun m S H sd σ Q rs rl h => ?_⟩
  refine ha m S H sd σ _ rs rl (Post.bind h fun x S1 m1 vx H1 x1 k1 rs1 rx h1 => ?_)
  cases x with
  | int i => exact ⟨i, rx, h1.here rs1 rfl⟩
  | _ => exact h1.elim
def dSlice (f : Sl → Sto → Res D) (g h : Sl → Sto → Res (Option Int)) : Sl → Sto → Res D := fun sd S => (f sd S).bind fun x S1 => (g sd S1).bind fun lo S2 => (h sd S2).bind fun hi S3 => sliceD x lo hi S3
theorem cut_rv {K : PySem.W.Frag} {m : List Addr} {H : Hp} {ds : List D} {vs : List V} (r : RVs K m H ds vs) (lo hi : Option Int) : RVs K m H (cutL ds lo hi) (cutV vs lo hi) := by
  unfold cutL cutV
  rw [← r.length]
  exact (r.drop _).take _
theorem sIx_whole {ds : List D} {lo hi : Option Int} (h : HT.sIx ds.length 0 lo = 0 ∧ HT.sIx ds.length ds.length hi = ds.length) : cutL ds lo hi = ds := by
  unfold cutL
  rw [h.1, h.2]
  simp
theorem de_slice {lo hi : Option Expr} {p2 : Pos} {fl fh} (ha : DE cl X E a fa) (hl : DPO cl X E lo fl) (hh : DPO cl X E hi fh) : DE cl X E (.Subscript a (.Slice lo hi none p2) pos) (dSlice fa fl fh) := by
  obtain ⟨t, p, ha⟩ := ha
  obtain ⟨t1, p1, hl⟩ := hl
  obtain ⟨t2, p2', hh⟩ := hh
  refine ⟨_, pe_slice ((sl_list.or sl_tupA).or sl_str) p p1 p2', fun m S H sd σ Q rs rl h => ?_⟩
  refine ha m S H sd σ _ rs rl (Post.bind h fun x S1 m1 vx H1 x1 k1 rs1 rx h1 => ?_)
  refine hl m1 S1 H1 sd σ _ rs1 (rl.mono x1 k1) (Post.bind h1 fun l S2 m2 vl H2 x2 k2 rs2 rll h2 => ?_)
  refine hh m2 S2 H2 sd σ _ rs2 (rl.mono (x1.trans x2) (k1.trans k2)) (Post.bind h2 fun u S3 m3 vu H3 x3 k3 rs3 ru h3 => ?_)
  cases rll; cases ru
  have rx3 := RV.mono (x2.trans x3) (k2.trans k3) x rx
  unfold sliceD at h3
  split at h3
  · obtain ⟨a, vs, rfl, s1, r1⟩ := rx3
    refine .inl (.inr ⟨a, vs, rfl, s1, fun e => ?_, fun e p' hp => ?_⟩)
    · rw [← r1.length] at e
      rw [sIx_whole e] at h3
      exact h3.here rs3 ⟨a, vs, rfl, s1, r1⟩
    · obtain ⟨a1, b1⟩ := newTup rs3 (cut_rv r1 l u) hp
      exact h3 _ _ _ (Ext.refl _) (Keep.new hp) a1 b1
  · obtain ⟨a, vs, rfl, s1, r1⟩ := rx3
    refine .inl (.inl ⟨a, vs, rfl, s1.sq, fun p' hp => ?_⟩)
    obtain ⟨a1, b1⟩ := newLst rs3 (cut_rv r1 l u) hp
    exact h3 _ _ _ (Ext.snoc _ _) (Keep.new hp) a1 b1
  · cases rx3
    split at h3
    · rename_i hz
      exact .inr ⟨_, rfl, hz, h3.here rs3 rfl⟩
    · exact h3.elim
  · split at h3
    · rename_i ds e1
      obtain ⟨a, h1, vs, hv, r1⟩ := rs3.adr e1
      obtain ⟨a', h2, rfl⟩ := rx3
      rw [h1] at h2; cases h2
      refine .inl (.inl ⟨a, vs, rfl, SqL.of hv, fun p' hp => ?_⟩)
      obtain ⟨a1, b1⟩ := newLst rs3 (cut_rv r1 l u) hp
      exact h3 _ _ _ (Ext.snoc _ _) (Keep.new hp) a1 b1
    · exact h3.elim
  · exact h3.elim
def CallD (cl : Cl) (X : Cx) (f : Value) (g : List D → Sto → Res D) : Prop :=
  ∃ r, CallR X f r ∧ ∀ (E : XK) m S H ds vs Q, RS cl X.K m S H → RVs X.K m H ds vs → Post cl X.K (RV X.K) m H E Q (g ds S) → r vs H Q
def dCall (g : List D → Sto → Res D) (f : Sl → Sto → Res (List D)) : Sl → Sto → Res D := fun sd S => (f sd S).bind fun ds S1 => g ds S1
theorem de_callB {x : Str} {p : Pos} {id : String} {e : Expr} {es : List Expr} {g f} (hc : CallD cl X (.builtin id) g) (hg : Gl X x) (hm : X.mg x = none) (hv : bootBuiltins x = some (.builtin id)) (ha : DA cl X E (e :: es) f) (hn : x ≠ "__name__" := by decide) (hdb : (x == ("__debug__" : Str)) = false := by decide)
    (he : starEach (e :: es) X.env = (false, eval e X.env) :: starEach es X.env := by rfl) (hpl : (backTo pos (starEach es X.env)).any (·.1) = false := by rfl) : DE cl X E (.Call (.Name x p) (e :: es) [] pos) (dCall g f) := by
  obtain ⟨r, cr, hr⟩ := hc
  obtain ⟨t, q, ha⟩ := ha
  refine ⟨_, pe_callB cr hg hm hv q hn hdb he hpl, fun m S H sd σ Q rs rl h => ?_⟩
  exact ha m S H sd σ _ rs rl (Post.bind h fun ds S1 m1 vs H1 x1 k1 rs1 rv h1 => hr E m1 S1 H1 ds vs Q rs1 rv h1)
theorem de_callTy {x : Str} {p : Pos} {T : String} {e : Expr} {es : List Expr} {g f} (hc : CallD cl X (.type T) g) (hg : Gl X x) (hm : X.mg x = none) (hv : bootBuiltins x = some (.type T)) (ha : DA cl X E (e :: es) f) (hn : x ≠ "__name__" := by decide) (hdb : (x == ("__debug__" : Str)) = false := by decide)
    (he : starEach (e :: es) X.env = (false, eval e X.env) :: starEach es X.env := by rfl) (hpl : (backTo pos (starEach es X.env)).any (·.1) = false := by rfl) : DE cl X E (.Call (.Name x p) (e :: es) [] pos) (dCall g f) := by
  obtain ⟨r, cr, hr⟩ := hc
  obtain ⟨t, q, ha⟩ := ha
  refine ⟨_, pe_callTy cr hg hm hv q hn hdb he hpl, fun m S H sd σ Q rs rl h => ?_⟩
  exact ha m S H sd σ _ rs rl (Post.bind h fun ds S1 m1 vs H1 x1 k1 rs1 rv h1 => hr E m1 S1 H1 ds vs Q rs1 rv h1)
def lenD : List D → Sto → Res D
  | [.str z], S => if z.length ≤ sizeLine then .ok (.int (z.length : Nat)) S else .stuck
  | [.tup ds], S => .ok (.int (ds.length : Nat)) S
  | [.frl ds], S => .ok (.int (ds.length : Nat)) S
  | [.ref l], S => match S[l]? with
    | some (.lst ds) => .ok (.int (ds.length : Nat)) S
    | _ => .stuck
  | _, _ => .stuck
theorem rvs1 {K : PySem.W.Frag} {m : List Addr} {H : Hp} {d : D} {vs : List V} (r : RVs K m H [d] vs) : ∃ v, vs = [v] ∧ RV K m H d v := by
  obtain ⟨v, vs', rfl, rv, e⟩ := r
  cases e
  exact ⟨v, rfl, rv⟩
theorem rvs2 {K : PySem.W.Frag} {m : List Addr} {H : Hp} {d e : D} {vs : List V} (r : RVs K m H [d, e] vs) : ∃ v w, vs = [v, w] ∧ RV K m H d v ∧ RV K m H e w := by
  obtain ⟨v, vs', rfl, rv, w, vs2, rfl, rw', e⟩ := r
  cases e
  exact ⟨v, w, rfl, rv, rw'⟩
theorem cd_len : CallD cl X (.builtin "len") lenD := by
  refine ⟨_, call_len, fun E m S H ds vs Q rs rv h => ?_⟩
  unfold lenD at h
  split at h
  · obtain ⟨v, rfl, r⟩ := rvs1 rv
    cases r
    split at h
    · rename_i hz
      exact ⟨_, _, rfl, ⟨hz, rfl⟩, h.here rs rfl⟩
    · exact h.elim
  · obtain ⟨v, rfl, a, ws, rfl, s1, r1⟩ := rvs1 rv
    exact ⟨_, _, rfl, .inr ⟨ws, s1, r1.length⟩, h.here rs rfl⟩
  · obtain ⟨v, rfl, a, ws, rfl, s1, r1⟩ := rvs1 rv
    exact ⟨_, _, rfl, .inl ⟨ws, s1.sq, r1.length⟩, h.here rs rfl⟩
  · obtain ⟨v, rfl, r⟩ := rvs1 rv
    split at h
    · rename_i ds e1
      obtain ⟨a, h1, ws, hv, r1⟩ := rs.adr e1
      obtain ⟨a', h2, rfl⟩ := r
      rw [h1] at h2; cases h2
      exact ⟨_, _, rfl, .inl ⟨ws, SqL.of hv, r1.length⟩, h.here rs rfl⟩
    · exact h.elim
  · exact h.elim
def seqD (d : D) (S : Sto) : Option (List D) := match d with
  | .tup ds => some ds
  | .frl ds => some ds
  | .ref l => match S[l]? with
    | some (.lst ds) => some ds
    | _ => none
  | _ => none
theorem seq_rv {K : PySem.W.Frag} {m : List Addr} {S : Sto} {H : Hp} {d : D} {v : V} {ds : List D} (rs : RS cl K m S H) (rv : RV K m H d v) (h : seqD d S = some ds) :
    ∃ a vs, v = .ref a ∧ (SqL K H a vs ∨ SqT K H a vs) ∧ RVs K m H ds vs := by
  unfold seqD at h
  split at h
  · cases h
    obtain ⟨a, vs, rfl, s1, r1⟩ := rv
    exact ⟨a, vs, rfl, .inr s1, r1⟩
  · cases h
    obtain ⟨a, vs, rfl, s1, r1⟩ := rv
    exact ⟨a, vs, rfl, .inl s1.sq, r1⟩
  · split at h
    · rename_i es e1
      cases h
      obtain ⟨a, h1, ws, hv, r1⟩ := rs.adr e1
      obtain ⟨a', h2, rfl⟩ := rv
      rw [h1] at h2; cases h2
      exact ⟨a, ws, rfl, .inl (SqL.of hv), r1⟩
    · cases h
  · cases h
def tupleD : List D → Sto → Res D
  | [d], S => match seqD d S with
    | some ds => .ok (.tup ds) S
    | none => .stuck
  | _, _ => .stuck
theorem cd_tuple : CallD cl X (.type "tuple") tupleD := by
  refine ⟨_, call_tuple_of, fun E m S H ds vs Q rs rv h => ?_⟩
  unfold tupleD at h
  split at h
  · rename_i d
    obtain ⟨v, rfl, r⟩ := rvs1 rv
    split at h
    · rename_i es e1
      obtain ⟨a, ws, rfl, hs, r1⟩ := seq_rv rs r e1
      refine ⟨a, ws, rfl, ?_⟩
      rcases hs with hs | hs
      · refine .inl ⟨hs, fun l hl => ?_⟩
        obtain ⟨a1, b1⟩ := newTup rs r1 hl
        exact h _ _ _ (Ext.refl _) (Keep.new hl) a1 b1
      · exact .inr ⟨hs, h.here rs ⟨a, ws, rfl, hs, r1⟩⟩
    · exact h.elim
  · exact h.elim
def listD : List D → Sto → Res D
  | [d], S => match seqD d S with
    | some ds => .ok (.ref S.length) (S ++ [.lst ds])
    | none => .stuck
  | _, _ => .stuck
theorem cd_list : CallD cl X (.type "list") listD := by
  refine ⟨_, call_list_of, fun E m S H ds vs Q rs rv h => ?_⟩
  unfold listD at h
  split at h
  · rename_i d
    obtain ⟨v, rfl, r⟩ := rvs1 rv
    split at h
    · rename_i es e1
      obtain ⟨a, ws, rfl, hs, r1⟩ := seq_rv rs r e1
      refine ⟨a, ws, rfl, hs, fun l hl => ?_⟩
      obtain ⟨a1, b1⟩ := newLst rs r1 hl
      exact h _ _ _ (Ext.snoc _ _) (Keep.new hl) a1 b1
    · exact h.elim
  · exact h.elim
def intD : List D → Sto → Res D
  | [.int i], S => .ok (.int i) S
  | [.bl b], S => .ok (.int (if b then 1 else 0)) S
  | [.str a], S => match PySem.intText? a with
    | some n => if a.length ≤ 640 then .ok (.int n) S else .stuck
    | none => .stuck
  | _, _ => .stuck
theorem cd_int : CallD cl X (.type "int") intD := by
  refine ⟨_, call_int1.or call_int_str, fun E m S H ds vs Q rs rv h => ?_⟩
  unfold intD at h
  split at h
  · obtain ⟨v, rfl, r⟩ := rvs1 rv
    cases r
    exact .inl (.inl ⟨_, rfl, h.here rs rfl⟩)
  · obtain ⟨v, rfl, r⟩ := rvs1 rv
    cases r
    exact .inl (.inr ⟨_, rfl, h.here rs rfl⟩)
  · obtain ⟨v, rfl, r⟩ := rvs1 rv
    cases r
    split at h
    · rename_i n e
      split at h
      · rename_i hz
        exact .inr ⟨_, n, rfl, e, hz, h.here rs rfl⟩
      · exact h.elim
    · exact h.elim
  · exact h.elim
def min2D : List D → Sto → Res D
  | [.int i, .int j], S => .ok (.int (if j < i then j else i)) S
  | _, _ => .stuck
theorem cd_min2 (hc : X.calm = true) : CallD cl X (.builtin "min") min2D := by
  refine ⟨_, call_min2 hc, fun E m S H ds vs Q rs rv h => ?_⟩
  unfold min2D at h
  split at h
  · obtain ⟨v, w, rfl, r, r'⟩ := rvs2 rv
    cases r; cases r'
    exact ⟨_, _, rfl, h.here rs rfl⟩
  · exact h.elim
def flatD : D → Bool
  | .non => true
  | .bl _ => true
  | .int _ => true
  | .str _ => true
  | _ => false
def eqF : D → D → Bool
  | .non, .non => true
  | .bl a, .bl b => a == b
  | .bl a, .int b => (if a then 1 else 0) == b
  | .int a, .bl b => a == (if b then 1 else 0)
  | .int a, .int b => a == b
  | .str a, .str b => a == b
  | _, _ => false
def hasD (x y : D) (S : Sto) : Option Bool := match y with
  | .str z => match x with
    | .str w => match w.cps.toList with
      | [c] => some (decide (c ∈ z.cps.toList))
      | _ => none
    | _ => none
  | .tup ds => if flatD x && ds.all flatD then some (ds.any fun d => eqF d x) else none
  | y => match lsD y S with
    | some ds => match toP S 60 x, mapO (toP S 60) ds with
      | some p, some ps => if SeqAt.shaped p && SeqAt.shaped (.list ps) then some (ps.any fun z => PyData.eqv z p) else none
      | _, _ => none
    | _ => none
def notInD (x y : D) (S : Sto) : Res D := match hasD x y S with
  | some b => .ok (.bl (!b)) S
  | none => .stuck
theorem flat_rv {K : PySem.W.Frag} {m : List Addr} {H : Hp} {d : D} {v : V} (r : RV K m H d v) (f : flatD d = true) : flatV v = true ∧ (∀ e w, RV K m H e w → flatD e = true → eqV w v = eqF e d) := by
  cases d with
  | non => cases r; refine ⟨rfl, fun e w rw' fe => ?_⟩; cases e <;> first | (cases rw'; rfl) | cases fe
  | bl b => cases r; refine ⟨rfl, fun e w rw' fe => ?_⟩; cases e <;> first | (cases rw'; rfl) | cases fe
  | int b => cases r; refine ⟨rfl, fun e w rw' fe => ?_⟩; cases e <;> first | (cases rw'; rfl) | cases fe
  | str b => cases r; refine ⟨rfl, fun e w rw' fe => ?_⟩; cases e <;> first | (cases rw'; rfl) | cases fe
  | _ => cases f
theorem flat_all {K : PySem.W.Frag} {m : List Addr} {H : Hp} {x : D} {vx : V} (rx : RV K m H x vx) (fx : flatD x = true) : ∀ {ds : List D} {vs : List V}, RVs K m H ds vs → ds.all flatD = true → vs.all flatV = true ∧ (vs.any fun y => eqV y vx) = ds.any fun d => eqF d x
  | [], _, r, _ => by cases r; exact ⟨rfl, rfl⟩
  | d :: ds, _, ⟨v, vs', e, r, t⟩, f => by
    subst e
    rw [List.all_cons, Bool.and_eq_true] at f
    obtain ⟨h1, h2⟩ := flat_all rx fx t f.2
    rw [List.all_cons, List.any_cons, List.any_cons, h1, h2, (flat_rv r f.1).1, (flat_rv rx fx).2 d v r f.1]
    exact ⟨rfl, rfl⟩
theorem str_one {w : Str} {c : Nat} (h : w.cps.toList = [c]) : w = ⟨#[c]⟩ := by
  cases w with
  | mk a =>
    congr 1
    exact Array.toList_inj.mp (by simpa using h)
theorem hasD_cases {m : List Addr} {S : Sto} {H : Hp} {x y : D} {vx vy : V} {b : Bool} {K : PySem.W.Frag} (rs : RS cl K m S H) (rx : RV K m H x vx) (ry : RV K m H y vy) (h : hasD x y S = some b) :
    (∃ c z, vx = .str ⟨#[c]⟩ ∧ vy = .str z ∧ b = decide (c ∈ z.cps.toList)) ∨ (∃ p xs, vy = .ref p ∧ (SqL K H p xs ∨ SqT K H p xs) ∧ flatV vx = true ∧ xs.all flatV = true ∧ b = inV vx xs) ∨
    ∃ d ds, Dp K H vx d ∧ Dp K H vy (.list ds) ∧ SeqAt.shaped d = true ∧ SeqAt.shaped (.list ds) = true ∧ b = ds.any fun z => PyData.eqv z d := by
  unfold hasD at h
  split at h
  · cases ry
    split at h
    · cases rx
      split at h
      · rename_i c e
        cases h
        rw [str_one e]
        exact .inl ⟨c, _, rfl, rfl, rfl⟩
      · cases h
    · cases h
  · rename_i ds
    split at h
    · rename_i hf
      cases h
      rw [Bool.and_eq_true] at hf
      obtain ⟨a, vs, rfl, s1, r1⟩ := ry
      obtain ⟨f1, f2⟩ := flat_all rx hf.1 r1 hf.2
      exact .inr (.inl ⟨a, vs, rfl, .inr s1, (flat_rv rx hf.1).1, f1, f2.symm⟩)
    · cases h
  · split at h
    · rename_i ds e1
      obtain ⟨a, vs, rfl, hv, r1⟩ := ls_rv rs ry e1
      split at h
      · rename_i p ps e2 e3
        split at h
        · rename_i hs
          rw [Bool.and_eq_true] at hs
          cases h
          exact .inr (.inr ⟨p, ps, toP_dp rs _ _ _ _ e2 rx, .lst hv (dpAll (toP_dp rs 60) ds ps vs e3 r1), hs.1, hs.2, rfl⟩)
        · cases h
      · cases h
    · cases h
theorem op_notInDD (hu : X.A.units + 65 < cLine) : OpD cl X (compareOp .NotIn) notInD := by
  refine ⟨_, (op_notIn_sign.or op_notIn_seq).or (op_notInD hu), fun E m S H x y vx vy Q rs rx ry h => ?_⟩
  unfold notInD at h
  split at h
  · rename_i b e
    rcases hasD_cases rs rx ry e with ⟨c, z, rfl, rfl, rfl⟩ | ⟨p, xs, rfl, hs, f1, f2, rfl⟩ | ⟨d, ds, d1, d2, s1, s2, rfl⟩
    · exact .inl (.inl ⟨c, z, rfl, rfl, h.here rs rfl⟩)
    · exact .inl (.inr ⟨p, xs, rfl, hs, f1, f2, h.here rs rfl⟩)
    · exact .inr ⟨d, ds, d1, d2, s1, s2, h.here rs rfl⟩
  · exact h.elim
end
end DL

namespace DL
open PySem PySem.Spec PyProof.Rows L2
structure Cok (X : Cx) (E : XK) (k : Nat) : Prop where
  calm : X.calm = true
  px : Passes (L2.CX X.prog X.w) X E
  tk : Takes X (fun cls d _ H => E cls d H)
  po : PassesOwn (model X.prog X.w) X.A X.env X.xe
  hr : Room k X.A
  nd : X.N.Nodup
theorem Cok.hu {X : Cx} {E : XK} {k : Nat} (c : Cok X E k) : X.A.units + 64 < cLine := c.hr.units
theorem Cok.hu5 {X : Cx} {E : XK} {k : Nat} (c : Cok X E k) : X.A.units + 65 < cLine := by have := c.hr.un; omega
theorem Cok.hu1 {X : Cx} {E : XK} {k : Nat} (c : Cok X E k) : X.A.units + 1 < cLine := by have := c.hr.un; omega
theorem Cok.blk {X : Cx} {E : XK} {k : Nat} (c : Cok X E k) (s : Shared) (H : Hp) (scope : Scope) (cenv : Env) (fp : List Addr) : Cok (X.blk s H scope cenv fp) E0 k :=
  ⟨c.calm, passL, takes0, PassesOwn.never, c.hr, c.nd⟩
section
variable {cl : Cl} {X : Cx} {E : XK} {a b : Expr} {fa fb : Sl → Sto → Res D} {pos : Pos}
theorem de_glob {x : Str} {d : D} {v : V} {u : Value} (hg : Gl X x) (hm : X.mg x = some u) (r : RelV v u) (rv : ∀ m H, RV X.K m H d v) (hd : (x == ("__debug__" : Str)) = false := by decide) : DE cl X E (.Name x pos) (dC d) :=
  ⟨_, pe_glob hg hm r hd, fun m S H sd σ Q rs rl h => h.here rs (rv m H)⟩
def getF (cs : List Nat) (f : Str) (d : D) (S : Sto) : Res D := match d with
  | .ref l => match S[l]? with
    | some (.ins c fs) => if c ∈ cs then (match fs.lookup f with
      | some v => .ok v S
      | none => .stuck) else .stuck
    | _ => .stuck
  | _ => .stuck
def dFld (cs : List Nat) (f : Str) (fo : Sl → Sto → Res D) : Sl → Sto → Res D := fun sd S => (fo sd S).bind fun d S1 => getF cs f d S1
theorem RF.length {K : PySem.W.Frag} {m : List Addr} {H : Hp} : ∀ {fs : List (Str × D)} {gs : List (Str × V)}, RF K m H fs gs → fs.length = gs.length
  | [], _, r => by cases r; rfl
  | _ :: _, _, ⟨v, gs', e, r, t⟩ => by subst e; simp [RF.length t]
def putFD (f : Str) (v : D) : List (Str × D) → List (Str × D)
  | [] => [(f, v)]
  | (g, u) :: r => if g = f then (g, v) :: r else (g, u) :: putFD f v r
def setF (cs : List Nat) (f : Str) (o v : D) (S : Sto) : Res Unit := match o with
  | .ref l => match S[l]? with
    | some (.ins c fs) => if c ∈ cs ∧ fs.length < 1000 then .ok () (S.set l (.ins c (putFD f v fs))) else .stuck
    | _ => .stuck
  | _ => .stuck
def sFldD (cs : List Nat) (f : Str) (fo fv : Sl → Sto → Res D) : Sl → Sto → Res Fl := fun sd S => (fv sd S).bind fun v S1 => (fo sd S1).bind fun o S2 => (setF cs f o v S2).bind fun _ S3 => .ok (.nx sd) S3
def gFldD (cs : List Nat) (f : Str) (fo : Sl → Sto → Res D) : D → Sl → Sto → Res Sl := fun v sd S => (fo sd S).bind fun o S2 => (setF cs f o v S2).bind fun _ S3 => .ok sd S3
end
def spD (cl : Cl) (K : PySem.W.Frag) (n : Nat) (F : List D → Sto → Res D) : Sp := fun vs H Q E => ∃ m S ds, ds.length = n ∧ RS cl K m S H ∧ RVs K m H ds vs ∧ Post cl K (RV K) m H E Q (F ds S)
structure FnD (P : Program) (w : World) (cl : Cl) (K : PySem.W.Frag) (mg : Str → Option Value) (base : Heap) (k : Nat) (f : Addr) (n : Nat) (F : List D → Sto → Res D) : Prop where
  kp : PySem.W.keepIn K (.ref f) = true
  ex : ∃ fd ps, ps.length = n ∧ Binds K fd ps [] ∧ FnOk P w K mg base (L2.CX P w) k f fd ps (spD cl K n F)
def startD (n : Nat) (ds : List D) : Sl := ds.map some ++ List.replicate (n - ds.length) none
def fnRes : Res Fl → Res D
  | .ok (.nx _) S => .ok .non S
  | .ok (.ret d) S => .ok d S
  | .exc x S => .exc x S
  | _ => .stuck
def dFn (n : Nat) (Fb : Sl → Sto → Res Fl) : List D → Sto → Res D := fun ds S => fnRes (Fb (startD n ds) S)
theorem start_rl {K : PySem.W.Frag} {m : List Addr} {H : Hp} {ds : List D} {vs : List V} {N : List Str} (r : RVs K m H ds vs) : RSl K m H (startD N.length ds) (L2.start N vs) := by
  have hl := r.length
  refine ⟨by simp [startD, L2.start, hl], fun i d e => ?_⟩
  unfold startD at e
  unfold L2.start
  by_cases hi : i < ds.length
  · rw [List.getElem?_append_left (by simpa using hi), List.getElem?_map] at e
    obtain ⟨d', e1, e2⟩ := Option.map_eq_some_iff.mp e
    cases e2
    obtain ⟨v, ev, rv⟩ := r.get e1
    exact ⟨v, by rw [List.getElem?_append_left (by simp; omega), List.getElem?_map, ev]; rfl, rv⟩
  · rw [List.getElem?_append_right (by simpa using hi)] at e
    rw [List.getElem?_replicate] at e
    split at e <;> cases e
section
variable {P : Program} {w : World} {cl : Cl} {K : PySem.W.Frag} {mg : Str → Option Value} {base : Heap} {f : Addr} {fd : FuncData}
theorem cok_of {k : Nat} {N : List Str} {ps : List Str} {qual : Str} {scope : Scope} {cdv : Value} {A : Around} {outer : List Env} {s : Shared} {H : Hp} {E : XK} (S : FnScope N ps scope)
    (hr : Room k (A.deeper (envOfC qual scope s.heap.objs.size f cdv))) : Cok (cxOf (L2.CX P w) P w K mg base N qual scope f cdv A outer s H E) E k := by
  have tk : Takes (cxOf (L2.CX P w) P w K mg base N qual scope f cdv A outer s H E) (fun cls d _ H => E cls d H) := takes_of rfl rfl rfl rfl
  exact ⟨rfl, passes_call tk fun _ _ _ _ h => h, tk, passes_of rfl, hr, S.nd⟩
theorem fnD_of {k : Nat} {x qual : Str} {params : Arguments} {body : List Stmt} {scope : Scope} {N ps : List Str} {Fb : Sl → Sto → Res Fl} (Fu : FunD K x qual params body scope [] [] f fd) (S : FnScope N ps scope)
    (hb : ∀ (kV doc pm : Value) (an : Option Addr) (cdv ct : Value) (us : List Value), us.length = ps.length → bindArgs (PySem.W.fnOf x qual params body scope .none kV doc pm an cdv ct) ⟨us, []⟩ = pure (ps.zip us))
    (hbody : ∀ (cdv : Value) (A : Around) (outer : List Env) (s : Shared) (H : Hp) (E : XK), Cok (cxOf (L2.CX P w) P w K mg base N qual scope f cdv A outer s H E) E k → DSs cl (cxOf (L2.CX P w) P w K mg base N qual scope f cdv A outer s H E) E body Fb) :
    FnD P w cl K mg base (k + 1) f ps.length (dFn N.length Fb) := by
  refine ⟨Fu.kp, fd, ps, rfl, Fu.bindsN hb, ?_⟩
  refine Fu.ok S (fun vs H Q E h => ?_) (fun cdv A outer s H vs Q E hr h => ?_)
  · obtain ⟨m, St, ds, hl, rs, rv, _⟩ := h
    rw [← rv.length, hl]
  · obtain ⟨m, St, ds, hl, rs, rv, h⟩ := h
    obtain ⟨t, p, hh⟩ := hbody cdv A outer s H E (cok_of S hr)
    refine ⟨t, p, hh m St H (startD N.length ds) (L2.start N vs) _ rs (start_rl rv) ?_⟩
    unfold dFn at h
    cases hres : Fb (startD N.length ds) St with
    | ok fl S1 =>
      rw [hres] at h
      intro m1 v H1 x1 k1 rs1 rv1
      cases fl with
      | nx sd =>
        cases v with
        | nx σ1 => exact h m1 .non H1 x1 k1 rs1 rfl
        | _ => exact rv1.elim
      | ret d =>
        cases v with
        | ret u => exact h m1 u H1 x1 k1 rs1 rv1
        | _ => exact rv1.elim
      | brk sd => exact h.elim
      | cnt sd => exact h.elim
    | exc x S1 =>
      rw [hres] at h
      exact h
    | stuck =>
      rw [hres] at h
      exact h.elim
theorem FnD.mono {j k n : Nat} {F} (h : FnD P w cl K mg base j f n F) (hk : j ≤ k) : FnD P w cl K mg base k f n F := by
  obtain ⟨kp, fd, ps, hl, hb, F⟩ := h
  exact ⟨kp, fd, ps, hl, hb, F.mono hk⟩
end
section
variable {cl : Cl} {X : Cx} {E : XK} {k n : Nat} {f C : Addr} {x m : Str} {p pos apos : Pos} {e o : Expr} {es : List Expr} {fa fo : Sl → Sto → Res D} {fs : Sl → Sto → Res (List D)} {F : List D → Sto → Res D}
def dCallF (n : Nat) (F : List D → Sto → Res D) (fs : Sl → Sto → Res (List D)) : Sl → Sto → Res D := fun sd S => (fs sd S).bind fun ds S1 => if ds.length = n then F ds S1 else .stuck
theorem zc (hF : FnD X.prog X.w cl X.K X.mg X.base k f n F) (hr : Room k X.A) (hx : Passes (L2.CX X.prog X.w) X E) (hg : Gl X x) (hm : X.mg x = some (.ref f)) (ha : DA cl X E (e :: es) fs) (hdb : (x == ("__debug__" : Str)) = false := by decide)
    (he : starEach (e :: es) X.env = (false, eval e X.env) :: starEach es X.env := by rfl) (hpl : (backTo pos (starEach es X.env)).any (·.1) = false := by rfl) : DE cl X E (.Call (.Name x p) (e :: es) [] pos) (dCallF n F fs) := by
  obtain ⟨kp, fd, ps, hl, hb, hF⟩ := hF
  obtain ⟨t, q, ha⟩ := ha
  refine ⟨_, pe_call hF hr hg hm kp hb .nil hx q hdb he hpl, fun m S H sd σ Q rs rl h => ?_⟩
  refine ha m S H sd σ _ rs rl (Post.bind h fun ds S1 m1 vs H1 x1 k1 rs1 rv h1 => ?_)
  split at h1
  · rename_i hz
    rw [List.append_nil]
    exact ⟨m1, S1, ds, hz, rs1, rv, h1⟩
  · exact h1.elim
def dMeth (c : Nat) (m : Str) (n : Nat) (F : List D → Sto → Res D) (fo : Sl → Sto → Res D) (fs : Sl → Sto → Res (List D)) : Sl → Sto → Res D := fun sd S => (fo sd S).bind fun d S1 => match d with
  | .ref l => match S1[l]? with
    | some (.ins c' gs) => if c' = c ∧ gs.lookup m = none then (fs sd S1).bind fun ds S2 => if ds.length + 1 = n then F (d :: ds) S2 else .stuck else .stuck
    | _ => .stuck
  | _ => .stuck
def dMake (c : Nat) (n : Nat) (F : List D → Sto → Res D) (fs : Sl → Sto → Res (List D)) : Sl → Sto → Res D := fun sd S => (fs sd S).bind fun ds S1 => if ds.length + 1 = n then (F (.ref S1.length :: ds) (S1 ++ [.ins c []])).bind fun r S2 => match r with
    | .non => .ok (.ref S1.length) S2
    | _ => .stuck
  else .stuck
end
end DL

namespace DL
open PySem PySem.Spec PyProof.Rows L2
section
variable {X : Cx} {o e : Expr} {es : List Expr} {to te : TE} {ta : TA} {f : Str} {p p' p1 p2 pos : Pos}
theorem pe_beinit {B : Str} {C0 : Addr} {pl : Sem Bool} (hg : Gl X B) (hm : X.mg B = some (.ref C0)) (hs1 : PySem.W.specialIn X.K (.ref C0) "__getattribute__" = some (some (.builtin "type.__getattribute__"))) (hrd : PySem.W.readsIn X.K C0 (.type "type") = true)
    (vV : PySem.W.findCls X.K (.ref C0) (.type "type") "__init__" = some (.val (.builtin "ValueError.__init__"))) (ha : PA X (e :: es) ta) (hdb : (B == ("__debug__" : Str)) = false := by decide)
    (hc : eval (.Call (.Attribute (.Name B p1) "__init__" p2) (e :: es) [] pos) X.env = (do
      let ov ← eval (.Name B p1) X.env
      standAt p2.atName
      let (f, first) ← holding [ov] (getMethod ov "__init__" pl)
      callWith pos f first (backTo pos (starEach (e :: es) X.env)) (backToKw pos (keywordEach [] X.env))) := by rfl)
    (he : starEach (e :: es) X.env = (false, eval e X.env) :: starEach es X.env := by rfl) (hpl : (backTo pos (starEach es X.env)).any (·.1) = false := by rfl) :
    PE X (.Call (.Attribute (.Name B p1) "__init__" p2) (e :: es) [] pos) (tVeI X.K ta) := by
  refine ⟨fun pins s σ H Q I h => ?_⟩
  refine PySem.W.methodCall_KW (ld_glob I hg hm ?_ hdb) hc
  refine PySem.W.method_cls I.kIn hs1 (PySem.W.cls_value I.kIn hrd vV (by decide +kernel) ?_)
  show wpAny _ _ (callWith pos (Value.builtin "ValueError.__init__") [] (backTo pos (starEach (e :: es) X.env)) []) _ _ _
  refine PyProof.Rows.callWith_method1 (thn (ha.run pos pins _ σ H _ (I.tok _) h) fun us s1 ⟨vs, H1, I1, r1, a, C, ws, ev, hl, T, ea, q⟩ => ?_) he hpl
  subst ev
  cases r1 with
  | @cons _ u0 _ ur ra rw' =>
    obtain rfl : u0 = Value.ref a := ra
    have hlen : ur.length ≤ sizeLine := by
      rw [← Paired.length rw', sizeLine_eq]
      omega
    exact oinit_ok T I1 ea hlen fun s' J => ⟨.non, H1, J, rfl, q⟩
end
def spEx1 (K : PySem.W.Frag) (C : Addr) (f : Str) : Sp := fun vs H Q _ => ∃ a y, vs = [.ref a, y] ∧ OexC K C ∧ PySem.W.findIn K (.ref C) f = some none ∧ H a = some (exo a C none) ∧
  ∀ dx, H dx = none → dx ≠ a → Q .non (upd (upd H dx (exd dx [(f, y)])) a (exo a C (some dx)))
def spEx2 (K : PySem.W.Frag) (C : Addr) (f g : Str) : Sp := fun vs H Q _ => ∃ a y z, vs = [.ref a, y, z] ∧ OexC K C ∧ PySem.W.findIn K (.ref C) f = some none ∧ PySem.W.findIn K (.ref C) g = some none ∧ H a = some (exo a C none) ∧
  ∀ dx, H dx = none → dx ≠ a → Q .non (upd (upd (upd H dx (exd dx [(f, y)])) a (exo a C (some dx))) dx (exd dx [(g, z), (f, y)]))
structure ExB (K : PySem.W.Frag) (C0 : Addr) : Prop where
  hs1 : PySem.W.specialIn K (.ref C0) "__getattribute__" = some (some (.builtin "type.__getattribute__"))
  hrd : PySem.W.readsIn K C0 (.type "type") = true
  vV : PySem.W.findCls K (.ref C0) (.type "type") "__init__" = some (.val (.builtin "ValueError.__init__"))
structure ExC (P : Program) (w : World) (cl : Cl) (K : PySem.W.Frag) (mg : Str → Option Value) (base : Heap) (c n : Nat) (fs : List Str) : Prop where
  oex : OexC K (cl c)
  nof : ∀ f ∈ fs, PySem.W.findIn K (.ref (cl c)) f = some none
  ex : ∃ fI fd ps sp, PySem.W.findIn K (.ref (cl c)) "__init__" = some (some (.ref fI)) ∧ PySem.W.typeIn K (.ref fI) = some (.type "function") ∧ Binds K fd ps [] ∧ FnOk P w K mg base (L2.CX P w) n fI fd ps sp ∧
    (match fs with
      | [f] => sp = spEx1 K (cl c) f
      | [f, g] => sp = spEx2 K (cl c) f g
      | _ => False)
def sRaise (c : Nat) (fs : List Str) (fa : Sl → Sto → Res (List D)) : Sl → Sto → Res Fl := fun sd S => (fa sd S).bind fun ds S1 => match fs, ds with
  | [f], [d] => .exc ⟨c, some [(f, d)]⟩ S1
  | [f, g], [d, e] => .exc ⟨c, some [(g, e), (f, d)]⟩ S1
  | _, _ => .stuck
def sRaiseT (c : Nat) : Sl → Sto → Res Fl := fun _ S => .exc ⟨c, none⟩ S
section
variable {cl : Cl} {X : Cx} {E : XK} {k : Nat} {x : Str} {e : Expr} {es : List Expr} {fa : Sl → Sto → Res (List D)} {p pos pos' : Pos}
theorem heap_eq {H G : Hp} {a dx : Addr} {u : HO} (ha : H a = none) (hg : ∀ b, b ≠ a → b ≠ dx → G b = H b) : upd (del G a) dx u = upd H dx u := by
  funext b
  by_cases h1 : b = dx
  · subst h1; rw [upd_same, upd_same]
  · rw [upd_ne h1, upd_ne h1]
    by_cases h2 : b = a
    · subst h2; rw [del_same, ha]
    · rw [del_ne h2, hg b h2 h1]
theorem ds_raise {c : Nat} {fs : List Str} (hE : ExC X.prog X.w cl X.K X.mg X.base c k fs) (co : Cok X E (k + 1)) (hg : Gl X x) (hm : X.mg x = some (.ref (cl c))) (ha : DA cl X E (e :: es) fa)
    (hdb : (x == ("__debug__" : Str)) = false := by decide) (he : starEach (e :: es) X.env = (false, eval e X.env) :: starEach es X.env := by rfl) (hpl : (backTo pos (starEach es X.env)).any (·.1) = false := by rfl) :
    DS cl X E (.Raise (some (.Call (.Name x p) (e :: es) [] pos)) none pos') (sRaise c fs fa) := by
  obtain ⟨oex, nof, fI, fd, ps, sp, iC, tI, hb, hF, hsp⟩ := hE
  obtain ⟨t, q, ha⟩ := ha
  have hx : Passes (L2.CX X.prog X.w) X (fun _ _ _ => False) := passL
  refine ⟨_, ps_raise co.calm co.tk (pmk_oex oex iC tI hF co.hr hb .nil hx hg hm q hdb he hpl), fun m S H sd σ D rs rl h => ?_⟩
  refine ha m S H sd σ _ rs rl (Post.bind h fun ds S1 m1 vs H1 x1 k1 rs1 rv h1 => ?_)
  split at h1
  · rename_i f d
    obtain ⟨v, rfl, r1⟩ := rvs1 rv
    have hsp' : sp = spEx1 X.K (cl c) f := hsp
    subst hsp'
    refine ⟨by show 1 ≤ 1000; decide, fun a na => ⟨a, v, rfl, oex, nof f (by simp), upd_same, fun dx hdx hne => ?_⟩⟩
    have hdx1 : H1 dx = none := by rw [upd_ne hne] at hdx; exact hdx
    refine ⟨rfl, dx, [(f, v)], upd_same, ?_, hdx1, ?_⟩
    · rw [upd_ne hne, upd_same]
    · rw [heap_eq na fun b b1 b2 => by rw [upd_ne b1, upd_ne b2, upd_ne b1]]
      exact h1 m1 (some dx) _ (Ext.refl _) (Keep.new hdx1) (rs1.ext hdx1) ⟨dx, _, rfl, upd_same, v, [], rfl, RV.mono (Ext.refl _) (Keep.new hdx1) d r1, rfl⟩
  · rename_i f g d d'
    obtain ⟨v, v', rfl, r1, r2⟩ := rvs2 rv
    have hsp' : sp = spEx2 X.K (cl c) f g := hsp
    subst hsp'
    refine ⟨by show 2 ≤ 1000; decide, fun a na => ⟨a, v, v', rfl, oex, nof f (by simp), nof g (by simp), upd_same, fun dx hdx hne => ?_⟩⟩
    have hdx1 : H1 dx = none := by rw [upd_ne hne] at hdx; exact hdx
    refine ⟨rfl, dx, [(g, v'), (f, v)], ?_, upd_same, hdx1, ?_⟩
    · rw [upd_ne (Ne.symm hne), upd_same]
    · rw [heap_eq na fun b b1 b2 => by rw [upd_ne b2, upd_ne b1, upd_ne b2, upd_ne b1]]
      exact h1 m1 (some dx) _ (Ext.refl _) (Keep.new hdx1) (rs1.ext hdx1) ⟨dx, _, rfl, upd_same, v', _, rfl, RV.mono (Ext.refl _) (Keep.new hdx1) d' r2, v, [], rfl, RV.mono (Ext.refl _) (Keep.new hdx1) d r1, rfl⟩
  · exact h1.elim
structure ExT (K : PySem.W.Frag) (C : Addr) : Prop where
  xP : PySem.W.excIn K C [.type "ValueError", .type "Exception", .type "BaseException", .type "object"] "ValueError.__new__" = true
  kP : PySem.W.keepIn K (.ref C) = true
  bP : PySem.W.subIn K (.ref C) (.type "BaseException") = some true
  tP : PySem.W.typeIn K (.ref C) = some (.type "type")
theorem ds_raiseT {c : Nat} {msg : Str} {j : Nat} {p2 : Pos} (T : ExT X.K (cl c)) (co : Cok X E k) (hg : Gl X x) (hm : X.mg x = some (.ref (cl c))) (hdb : (x == ("__debug__" : Str)) = false := by decide) :
    DS cl X E (.Raise (some (.Call (.Name x p) [.Constant (.str msg) j p2] [] pos)) none pos') (sRaiseT c) := by
  refine ⟨_, ps_raise co.calm co.tk (pmk_own PySem.F.excBase_ValueError T.xP hm T.kP (raises_own T.bP T.tP) hg hdb), fun m S H sd σ D rs rl h => ?_⟩
  exact h m none H (Ext.refl _) (Keep.refl _) rs rfl
end
end DL

namespace DL
open PySem PySem.Spec PyProof.Rows L2
def frE (n : Nat) (g : Addr → Option Obj) : PySem.W.Frag := He.frG g (cStatics :: He.asD g n)
def hookE (n : Nat) (fa : List He.Fa) (fn : List He.DefD) (ex : PySem.W.Frag → Bool) : PySem.W.Hook where
  α := He.AlD × Bool
  obs := fun s => (He.obsD fa fn (frE n s.heap.get?), ex (frE n s.heap.get?))
  val := fun _ => (He.valD fn, true)
  says := fun _ h => ∃ K : PySem.W.Frag, K.In h ∧ He.SaysD fa fn K ∧ ex K = true
  of := fun _ s e => ⟨frE n s.heap.get?, He.frG_in, congrArg (fun z : He.AlD × Bool => z.1) e, congrArg (fun z : He.AlD × Bool => z.2) e⟩
  keeps := fun _ _ _ ⟨K, hK, c⟩ k => ⟨K, PySem.W.Frag.In.keeps hK k, c⟩
def obE (n : Nat) (fa : List He.Fa) (fn : List He.DefD) (ex : PySem.W.Frag → Bool) (g : Addr → Option Obj) : He.AlD × Bool := (He.obsD fa fn (frE n g), ex (frE n g))
theorem obE_eq {n : Nat} {fa : List He.Fa} {fn : List He.DefD} {ex : PySem.W.Frag → Bool} {g : Addr → Option Obj} {s : Shared} (h : ∀ a, g a = s.heap.get? a) : obE n fa fn ex g = (hookE n fa fn ex).obs s := by
  have e : g = s.heap.get? := funext h
  subst e
  rfl
def constB (K : PySem.W.Frag) : Nat → D → Value → Bool
  | _, .non, .none => true
  | _, .bl b, .bool c => b == c
  | _, .int i, .int j _ => decide (i = j)
  | _, .str x, .str y _ => decide (x = y)
  | n + 1, .tup ds, .ref a => match K.lookup a with
    | some o => decide (o.cls = .type "tuple") && (match o.data with
      | .seq its _ => decide (its.size ≤ sizeLine) && allB (constB K n) ds its.toList
      | _ => false)
    | none => false
  | _, _, _ => false
where allB (f : D → Value → Bool) : List D → List Value → Bool
  | [], [] => true
  | d :: ds, u :: us => f d u && allB f ds us
  | _, _ => false
theorem const_all {K : PySem.W.Frag} {f : D → Value → Bool} (hf : ∀ d u, f d u = true → ∃ v, RelV v u ∧ ∀ m H, RV K m H d v) : ∀ (ds : List D) (us : List Value), constB.allB f ds us = true → ∃ vs, Vals vs us ∧ ∀ m H, RVs K m H ds vs
  | [], [], _ => ⟨[], .nil, fun _ _ => rfl⟩
  | [], _ :: _, h => by cases h
  | _ :: _, [], h => by cases h
  | d :: ds, u :: us, h => by
    have h' : (f d u && constB.allB f ds us) = true := h
    rw [Bool.and_eq_true] at h'
    obtain ⟨v, r, rv⟩ := hf d u h'.1
    obtain ⟨vs, r2, rv2⟩ := const_all hf ds us h'.2
    exact ⟨v :: vs, .cons r r2, fun m H => ⟨v, vs, rfl, rv m H, rv2 m H⟩⟩
theorem constB_ok {K : PySem.W.Frag} : ∀ (n : Nat) (d : D) (u : Value), constB K n d u = true → ∃ v, RelV v u ∧ ∀ m H, RV K m H d v := by
  have base : ∀ (n : Nat) (d : D) (u : Value), (∀ ds, d ≠ .tup ds) → constB K n d u = true → ∃ v, RelV v u ∧ ∀ m H, RV K m H d v := by
    intro n d u hd h
    cases d with
    | tup ds => exact absurd rfl (hd ds)
    | non =>
      cases u <;> first | exact ⟨.non, rfl, fun _ _ => rfl⟩ | (cases n <;> cases h)
    | bl b =>
      cases u with
      | bool c =>
        have e : b = c := by
          have : (b == c) = true := by cases n <;> exact h
          exact eq_of_beq this
        subst e
        exact ⟨.bl b, rfl, fun _ _ => rfl⟩
      | _ => cases n <;> cases h
    | int b =>
      cases u with
      | int c t =>
        have e : b = c := by
          have : decide (b = c) = true := by cases n <;> exact h
          exact of_decide_eq_true this
        subst e
        exact ⟨.int b, ⟨t, rfl⟩, fun _ _ => rfl⟩
      | _ => cases n <;> cases h
    | str b =>
      cases u with
      | str c t =>
        have e : b = c := by
          have : decide (b = c) = true := by cases n <;> exact h
          exact of_decide_eq_true this
        subst e
        exact ⟨.str b, ⟨t, rfl⟩, fun _ _ => rfl⟩
      | _ => cases n <;> cases h
    | _ => cases u <;> (cases n <;> cases h)
  intro n
  induction n with
  | zero =>
    intro d u h
    cases d with
    | tup ds => cases u <;> cases h
    | _ => exact base 0 _ u (by intro ds e; cases e) h
  | succ n ih =>
    intro d u h
    cases d with
    | tup ds =>
      cases u with
      | ref a =>
        unfold constB at h
        split at h
        · rename_i o hk
          rw [Bool.and_eq_true] at h
          have hc := of_decide_eq_true h.1
          have h2 := h.2
          split at h2
          · rename_i its nn hd
            rw [Bool.and_eq_true] at h2
            obtain ⟨vs, r, rv⟩ := const_all ih ds its.toList h2.2
            exact ⟨.ref a, rfl, fun m H => ⟨a, vs, rfl, .inr ⟨o, its, nn, hk, hc, hd, of_decide_eq_true h2.1, r⟩, rv m H⟩⟩
          · cases h2
        · cases h
      | _ => cases h
    | _ => exact base (n + 1) _ u (by intro ds e; cases e) h
def globB (K : PySem.W.Frag) (x : Str) (d : D) : Bool := match PySem.W.nsIn K mainGlobals x with
  | some (some u) => constB K 9 d u
  | _ => false
structure Con0 (K : PySem.W.Frag) (mg : Str → Option Value) (x : Str) (d : D) : Prop where
  ex : ∃ u v, mg x = some u ∧ RelV v u ∧ ∀ m H, RV K m H d v
theorem globB_ok {K : PySem.W.Frag} {h : Heap} {mg : Str → Option Value} {x : Str} {d : D} (X : K.In h) (G : h.Ns mainGlobals mg) (c : globB K x d = true) : Con0 K mg x d := by
  unfold globB at c
  split at c
  · rename_i u e
    obtain ⟨v, r, rv⟩ := constB_ok 9 d u c
    exact ⟨u, v, PySem.W.mg_of X G e, r, rv⟩
  · cases c
theorem de_con {cl : Cl} {X : Cx} {E : XK} {pos : Pos} {x : Str} {d : D} (c : Con0 X.K X.mg x d) (hg : Gl X x) (hd : (x == ("__debug__" : Str)) = false := by decide) : DE cl X E (.Name x pos) (dC d) := by
  obtain ⟨u, v, hm, r, rv⟩ := c.ex
  exact de_glob hg hm r rv hd
def oexB (K : PySem.W.Frag) (C : Addr) : Bool := (match K.lookup C with
  | some ⟨c, dd, .cls ⟨nm, bs, mro, ns, qn, hd, sn, sub, ab, col, del⟩, sl⟩ => decide (c = .type "type") && ((match mro with
    | .ref C' :: bm => decide (C' = C) && PySem.HandSPX.refsVE bm
    | _ => false) && (hd && (!del && (match sl.toList with
    | [_, _, _, _, some (.builtin n), _] => decide (n = "ValueError.__new__")
    | _ => false))))
  | _ => false) && (He.eqO (PySem.W.findIn K (.ref C) "__setattr__") (some (some (.builtin "object.__setattr__"))) && (decide (PySem.W.subIn K (.ref C) (.type "BaseException") = some true) && (decide (PySem.W.typeIn K (.ref C) = some (.type "type")) && PySem.W.keepIn K (.ref C))))
theorem oexB_ok {K : PySem.W.Frag} {C : Addr} (h : oexB K C = true) : OexC K C := by
  unfold oexB at h
  obtain ⟨h1, h⟩ := He.ba h
  obtain ⟨h2, h⟩ := He.ba h
  obtain ⟨h3, h⟩ := He.ba h
  obtain ⟨h4, h5⟩ := He.ba h
  refine ⟨?_, He.eqO_ok h2, of_decide_eq_true h3, of_decide_eq_true h4, h5⟩
  split at h1
  · rename_i c dd nm bs mro ns qn hd sn sub ab col del sl hk
    obtain ⟨a1, a⟩ := He.ba h1
    obtain ⟨a2, a⟩ := He.ba a
    obtain ⟨a3, a⟩ := He.ba a
    obtain ⟨a4, a5⟩ := He.ba a
    have a1' := of_decide_eq_true a1
    subst a1'
    split at a2
    · rename_i C' bm
      obtain ⟨b1, b2⟩ := He.ba a2
      have b1' := of_decide_eq_true b1
      subst b1'
      split at a5
      · rename_i k0 k1 k2 k3 n k5 hs
        have a5' := of_decide_eq_true a5
        subst a5'
        have hd' : hd = true := a3
        subst hd'
        have del' : del = false := by simpa using a4
        subst del'
        have hsl : sl = #[k0, k1, k2, k3, some (.builtin "ValueError.__new__"), k5] := by
          obtain ⟨l⟩ := sl
          simp only at hs
          rw [hs]
        subst hsl
        exact ⟨nm, qn, ns, bs, bm, sn, sub, ab, col, dd, k0, k1, k2, k3, k5, hk, b2⟩
      · cases a5
    · cases a2
  · cases h1
def exBB (K : PySem.W.Frag) (C0 : Addr) : Bool := He.eqO (PySem.W.specialIn K (.ref C0) "__getattribute__") (some (some (.builtin "type.__getattribute__"))) && (PySem.W.readsIn K C0 (.type "type") && (match PySem.W.findCls K (.ref C0) (.type "type") "__init__" with
  | some (.val (.builtin n)) => decide (n = "ValueError.__init__")
  | _ => false))
theorem exBB_ok {K : PySem.W.Frag} {C0 : Addr} (h : exBB K C0 = true) : ExB K C0 := by
  unfold exBB at h
  obtain ⟨h1, h⟩ := He.ba h
  obtain ⟨h2, h3⟩ := He.ba h
  refine ⟨He.eqO_ok h1, h2, ?_⟩
  split at h3
  · rename_i n e
    have e' := of_decide_eq_true h3
    subst e'
    exact e
  · cases h3
theorem exT_ok {K : PySem.W.Frag} {x : Str} (c : (He.Fa.exc x).ok K = true) : ExT K (He.ga K x) :=
  let ⟨a, b, d, e⟩ := He.exc_ok c
  ⟨a, b, d, e⟩
def initB (K : PySem.W.Frag) (C : Addr) (fs : List Str) : Bool := (fs.all fun f => He.eqO (PySem.W.findIn K (.ref C) f) (some none)) && (He.eqO (PySem.W.findIn K (.ref C) "__init__") (some (some (.ref (He.ma K C "__init__")))) && decide (PySem.W.typeIn K (.ref (He.ma K C "__init__")) = some (.type "function")))
theorem initB_ok {K : PySem.W.Frag} {C : Addr} {fs : List Str} (h : initB K C fs = true) : (∀ f ∈ fs, PySem.W.findIn K (.ref C) f = some none) ∧ PySem.W.findIn K (.ref C) "__init__" = some (some (.ref (He.ma K C "__init__"))) ∧ PySem.W.typeIn K (.ref (He.ma K C "__init__")) = some (.type "function") := by
  unfold initB at h
  obtain ⟨h1, h⟩ := He.ba h
  obtain ⟨h2, h3⟩ := He.ba h
  exact ⟨fun f hf => He.eqO_ok (List.all_eq_true.mp h1 f hf), He.eqO_ok h2, of_decide_eq_true h3⟩
end DL

namespace DL
open PySem PySem.Spec PyProof.Rows L2
section
variable {cl : Cl} {X : Cx} {E : XK} {pos : Pos}
theorem ds_par {i j : Nat} {x y : Str} {a b : Expr} {fa : Sl → Sto → Res (List D)} {px py pt : Pos} {kt k2 pt2} (hc : X.calm = true) (hN : X.N.Nodup) (hi : X.N[i]? = some x) (hj : X.N[j]? = some y) (hij : i ≠ j)
    (hx : X.env.scope.names.lookup x = some .local) (hy : X.env.scope.names.lookup y = some .local) (ha : DA cl X E [a, b] fa)
    (hw : swappedStores [.Tuple [.Name x px, .Name y py] kt pt] (.Tuple [a, b] k2 pt2) X.env = pure (some [x, y]) := by rfl)
    (hs : swapsWithSole [.Tuple [.Name x px, .Name y py] kt pt] (.Tuple [a, b] k2 pt2) pos.line X.env = pure false := by rfl) :
    DS cl X E (.Assign [.Tuple [.Name x px, .Name y py] kt pt] (.Tuple [a, b] k2 pt2) pos) (sPar i j fa) := by
  obtain ⟨t, p, ha⟩ := ha
  refine ⟨_, ps_par hc hN hi hj hij hx hy p hw hs, fun m S H sd σ D rs rl h => ?_⟩
  refine ha m S H sd σ _ rs rl (Post.bind h fun ds S1 m1 vs H1 x1 k1 rs1 rv h1 => ?_)
  split at h1
  · rename_i d e
    obtain ⟨v, w, rfl, r1, r2⟩ := rvs2 rv
    exact ⟨v, w, rfl, h1.toNx rs1 (((rl.mono x1 k1).set i r1).set j r2)⟩
  · exact h1.elim
end
section
variable {P : Program} {w : World} {cl : Cl} {K : PySem.W.Frag} {mg : Str → Option Value} {base : Heap} {f : Addr} {fd : FuncData}
theorem fnD_stuck {k : Nat} {x qual : Str} {params : Arguments} {body : List Stmt} {scope : Scope} {ps : List Str} (Fu : FunD K x qual params body scope [] [] f fd)
    (hb : ∀ (kV doc pm : Value) (an : Option Addr) (cdv ct : Value) (us : List Value), us.length = ps.length → bindArgs (PySem.W.fnOf x qual params body scope .none kV doc pm an cdv ct) ⟨us, []⟩ = pure (ps.zip us)) :
    FnD P w cl K mg base k f ps.length (fun _ _ => .stuck) := by
  refine ⟨Fu.kp, fd, ps, rfl, Fu.bindsN hb, fun vs H Q E h => ?_, fun A outer s H args us vs Q E hr e0 hbb hv h => ?_⟩
  · obtain ⟨m, S, ds, hl, rs, rv, z⟩ := h
    exact z.elim
  · obtain ⟨m, S, ds, hl, rs, rv, z⟩ := h
    exact z.elim
end
theorem only_rv {K : PySem.W.Frag} {H : Hp} {a : Addr} {ns : List Int} (hO : Only H) (hS : SqL K H a (ns.map V.int)) : Fz K H a (ns.map V.int) := by
  rcases hS with (h | h) | h
  · rcases hO a with z | ⟨o, xs, z⟩
    · rw [z] at h; cases h
    · rw [z] at h; cases h
  · exact .inl h
  · exact .inr h
theorem ints_rv {K : PySem.W.Frag} {m : List Addr} {H : Hp} : ∀ ns : List Int, RVs K m H (ns.map D.int) (ns.map V.int)
  | [] => rfl
  | n :: ns => ⟨_, _, rfl, rfl, ints_rv ns⟩
theorem walk_D {l : PySem.W.OpenLaw} {k : Nat} {q : Program} {loose : List Str} {XP : (Str → Option Value) → Heap → Prop} {YP : World → Heap → Prop} {d : DefRec} {x : Str} {Fl : List D → Sto → Res D}
    (hn : l.most = some 63) (hdf : d.params.defaults = []) (hr : Room k callerA) (plain : ∀ ns : List Int, ns.length ≤ 63 → ∃ S', Fl [.frl (ns.map .int)] [] = .ok (.bl true) S')
    (F : ∀ (w : World) (mg : Str → Option Value) (fa : Addr) (h : Heap), YP w h → h.Ns mainGlobals mg → mg d.name = some (.ref fa) →
      ∃ (K : PySem.W.Frag) (cl : Cl) (fd : FuncData), cl.T = [] ∧ K.In h ∧ (∀ (s : Shared) (u : Value), BindsTo s fd ⟨[u], []⟩ [(x, u)]) ∧
        ∀ base : Heap, K.In base → base.Ns mainGlobals mg → FnOk l.prog w K mg base (L2.CX l.prog w) k fa fd [x] (spD cl K 1 Fl)) :
    PySem.W.WalkO q loose XP YP l.row.toRowW d [] (fun f vs => PySem.call f vs) := by
  refine Att.attach_call hn hdf fun w s₀ s₁ mg mb fa o pm cd doc a vs ns G Y ho hd hcd hmg hobj hints hlen hg => ?_
  obtain ⟨K, cl, fd, hT, KX, hb, hF⟩ := F w mg fa _ Y G.T.g hmg
  have h63 : ns.length ≤ 63 := hlen
  refine law_call KX G.T.g G.T.b G.T.builtins G.T.nolimit hg hobj hints (Nat.le_trans hlen (by decide)) hr hF hb (fun H hO hS => ?_) fun H e s' z => ?_
  · obtain ⟨S', e⟩ := plain ns h63
    refine ⟨[], [], [.frl (ns.map .int)], rfl, ⟨rfl, fun i j b hi => by simp at hi, fun l o b hl => by simp at hl, by rw [hT]; exact fun p hp => nomatch hp⟩, ⟨_, _, rfl, ⟨a, _, rfl, only_rv hO hS, ints_rv ns⟩, rfl⟩, ?_⟩
    rw [e]
    exact fun m' v H' _ _ _ rv => rv
  · obtain ⟨_, _, _, _, _, _, _, _, _, _, _, _, z⟩ := z
    exact z
theorem fnD_law {P : Program} {w : World} {cl : Cl} {K : PySem.W.Frag} {mg : Str → Option Value} {f : Addr} {fd : FuncData} {k : Nat} {x qual p : Str} {params : Arguments} {body : List Stmt} {scope : Scope} {N : List Str} {Fb : Sl → Sto → Res Fl}
    (Fu : FunD K x qual params body scope [] [] f fd) (S : FnScope N [p] scope)
    (hb : ∀ (kV doc pm : Value) (an : Option Addr) (cdv ct : Value) (us : List Value), us.length = [p].length → bindArgs (PySem.W.fnOf x qual params body scope .none kV doc pm an cdv ct) ⟨us, []⟩ = pure ([p].zip us))
    (hbody : ∀ (base : Heap) (cdv : Value) (A : Around) (outer : List Env) (s : Shared) (H : Hp) (E : XK), Cok (cxOf (L2.CX P w) P w K mg base N qual scope f cdv A outer s H E) E k → DSs cl (cxOf (L2.CX P w) P w K mg base N qual scope f cdv A outer s H E) E body Fb) :
    (∀ (s : Shared) (u : Value), BindsTo s fd ⟨[u], []⟩ [(p, u)]) ∧ ∀ base : Heap, FnOk P w K mg base (L2.CX P w) (k + 1) f fd [p] (spD cl K 1 (dFn N.length Fb)) := by
  refine ⟨fun s u => Fu.bindsA hb s [u] rfl, fun base => ?_⟩
  refine Fu.ok S (fun vs H Q E h => ?_) (fun cdv A outer s H vs Q E hr h => ?_)
  · obtain ⟨m, St, ds, hl, rs, rv, _⟩ := h
    rw [← rv.length, hl]
    rfl
  · obtain ⟨m, St, ds, hl, rs, rv, h⟩ := h
    obtain ⟨t, p, hh⟩ := hbody base cdv A outer s H E (cok_of S hr)
    refine ⟨t, p, hh m St H (startD N.length ds) (L2.start N vs) _ rs (start_rl rv) ?_⟩
    unfold dFn at h
    cases hres : Fb (startD N.length ds) St with
    | ok fl S1 =>
      rw [hres] at h
      intro m1 v H1 x1 k1 rs1 rv1
      cases fl with
      | nx sd =>
        cases v with
        | nx σ1 => exact h m1 .non H1 x1 k1 rs1 rfl
        | _ => exact rv1.elim
      | ret d =>
        cases v with
        | ret u => exact h m1 u H1 x1 k1 rs1 rv1
        | _ => exact rv1.elim
      | brk sd => exact h.elim
      | cnt sd => exact h.elim
    | exc x S1 =>
      rw [hres] at h
      exact h
    | stuck =>
      rw [hres] at h
      exact h.elim
end DL
namespace DL
open PySem PySem.Spec PyProof.Rows L2
theorem Cok.at {X : Cx} {E : XK} {j k : Nat} (c : Cok X E k) (h : j ≤ k) : Cok X E j := ⟨c.calm, c.px, c.tk, c.po, c.hr.mono h, c.nd⟩
end DL

namespace DL
open PySem PySem.Spec PyProof.Rows L2
theorem RF.split {K : PySem.W.Frag} {m : List Addr} {H : Hp} : ∀ {fs : List (Str × D)} {gs : List (Str × V)}, RF K m H fs gs → ∃ vs, gs = (fs.map Prod.fst).zip vs ∧ RVs K m H (fs.map Prod.snd) vs
  | [], _, r => by cases r; exact ⟨[], rfl, rfl⟩
  | p :: fs, _, ⟨v, gs', e, r, t⟩ => by
    subst e
    obtain ⟨vs, e1, r1⟩ := RF.split t
    exact ⟨v :: vs, by simp [e1], v, vs, rfl, r, r1⟩
def sTry (Fb : Sl → Sto → Res Fl) (Fx : Exc → Sto → Res D) : Sl → Sto → Res Fl := fun sd S => match Fb sd S with
  | .ok fl S1 => .ok fl S1
  | .exc x S1 => (Fx x S1).bind fun d S2 => .ok (.ret d) S2
  | .stuck => .stuck
structure ExAll (K : PySem.W.Frag) (cl : Cl) (n : Nat) : Prop where
  exc : ∀ c, c < n → L2.ExcC K (cl c)
  exm : ∀ c, c < n → PySem.W.exmOne K (.ref (cl c)) (.ref (cl 0)) = some true
  kv : ∀ c, c < n → PySem.W.kitOne K (.ref (cl c)) (.type "ValueError") = some true
  kit : ∀ c c', c < n → c' < n → PySem.W.kitOne K (.ref (cl c)) (.ref (cl c')) = some (c == c' || c' == 0)
def lookN : List Str → List D → Str → Option D
  | n :: ns, d :: ds, f => if f = n then some d else lookN ns ds f
  | _, _, _ => none
def dExF (i : Nat) (a : Addr) (d : Option Addr) (f : Str) : Sl → Sto → Res D := fun sd S => match sd[i]? with
  | some (some (.exn a' dd ns ds)) => if a' = a ∧ d = some dd ∧ ns ≠ [] then (match lookN ns ds f with
    | some v => .ok v S
    | none => .stuck) else .stuck
  | _ => .stuck
def dExI (i : Nat) (a : Addr) (d : Option Addr) (b : Bool) : Sl → Sto → Res D := fun sd S => match sd[i]? with
  | some (some (.exn a' dd ns _)) => if a' = a ∧ (d = none ∨ (d = some dd ∧ ns ≠ [])) then .ok (.bl b) S else .stuck
  | _ => .stuck
section
variable {cl : Cl} {X : Cx} {E : XK} {a C : Addr} {oe : Obj} {d : Option Addr} {pn : List (Addr × Obj)} {i : Nat} {n f : Str} {p p1 p2 p3 pos : Pos}
def dExFc (i : Nat) (c : Nat) (cs : List Nat) (a : Addr) (d : Option Addr) (f : Str) : Sl → Sto → Res D := fun sd S => if c ∈ cs then dExF i a d f sd S else .stuck
end
structure CokS (X : Cx) : Prop where
  nd : X.N.Nodup
  hu : X.A.units + 64 < cLine
  hu5 : X.A.units + 65 < cLine
end DL

namespace DL
open PySem PySem.Spec PyProof.Rows L2
def isTy (T : String) (d : D) (S : Sto) : Bool := match d with
  | .str _ => T == "str"
  | .frl _ => T == "list"
  | .ref l => match S[l]? with
    | some (.lst _) => T == "list"
    | some (.dic 0 _) => T == "dict"
    | some (.dic 1 _) => T == "dict"
    | _ => false
  | _ => false
theorem isTy_tyV {cl : Cl} {K : PySem.W.Frag} {m : List Addr} {S : Sto} {H : Hp} {T : String} {d : D} {v : V} (rs : RS cl K m S H) (rv : RV K m H d v) (h : isTy T d S = true) : tyV K T v H := by
  unfold isTy at h
  split at h
  · cases rv; exact eq_of_beq h
  · obtain ⟨a, vs, rfl, s1, r1⟩ := rv
    exact .inl ⟨eq_of_beq h, vs, s1.sq⟩
  · rename_i l
    split at h
    · rename_i ds e1
      obtain ⟨a, h1, vs, hv, r1⟩ := rs.adr e1
      obtain ⟨a', h2, rfl⟩ := rv
      rw [h1] at h2; cases h2
      exact .inl ⟨eq_of_beq h, vs, SqL.of hv⟩
    · rename_i kvs e1
      obtain ⟨a, h1, gs, hv, r1⟩ := rs.adr e1
      obtain ⟨a', h2, rfl⟩ := rv
      rw [h1] at h2; cases h2
      exact .inr (.inr (.inl ⟨eq_of_beq h, .inl ⟨gs, hv⟩⟩))
    · rename_i kvs e1
      obtain ⟨a, h1, gs, hv, r1⟩ := rs.adr e1
      obtain ⟨a', h2, rfl⟩ := rv
      rw [h1] at h2; cases h2
      exact .inr (.inr (.inl ⟨eq_of_beq h, .inr ⟨gs, hv⟩⟩))
    · cases h
  · cases h
def MthD (cl : Cl) (X : Cx) (id : String) (g : D → List D → Sto → Res D) : Prop :=
  ∃ r, MtR X id r ∧ ∀ (E : XK) m S H d ds v vs Q, RS cl X.K m S H → RV X.K m H d v → RVs X.K m H ds vs → Post cl X.K (RV X.K) m H E Q (g d ds S) → r v vs H Q
def dBm (T : String) (g : D → List D → Sto → Res D) (fo : Sl → Sto → Res D) (fs : Sl → Sto → Res (List D)) : Sl → Sto → Res D := fun sd S => (fo sd S).bind fun d S1 => if isTy T d S1 then (fs sd S1).bind fun ds S2 => g d ds S2 else .stuck
section
variable {cl : Cl} {X : Cx} {E : XK} {o e : Expr} {es : List Expr} {fo : Sl → Sto → Res D} {fs : Sl → Sto → Res (List D)} {name : Str} {apos cpos : Pos} {T id : String} {g : D → List D → Sto → Res D}
theorem de_bm (pa : PlainAttrs T) (slot : Slot T name id) (hty : typeOf (.builtin id) = pure (.type "method_descriptor")) (hm : MthD cl X id g) (ho : DE cl X E o fo) (ha : DA cl X E (e :: es) fs)
    (hbase : attributeBase o name X.env (eval o X.env) = eval o X.env := by rfl)
    (hfew : ((backTo cpos (starEach (e :: es) X.env)).all (fun x => !x.1) && (backToKw cpos (keywordEach [] X.env)).all (fun x => x.1.isSome)
      && decide ((e :: es).length + ([] : List Keyword).length + (if ([] : List Keyword).isEmpty then 0 else 1) < 30)) = true := by rfl)
    (hline : (apos.endLine == cpos.line) = true := by rfl) (hs : starEach (e :: es) X.env = (false, eval e X.env) :: starEach es X.env := by rfl) (hplain : (backTo cpos (starEach es X.env)).any (·.1) = false := by rfl) :
    DE cl X E (.Call (.Attribute o name apos) (e :: es) [] cpos) (dBm T g fo fs) := by
  obtain ⟨r, hm, hr⟩ := hm
  obtain ⟨t, p, ho⟩ := ho
  obtain ⟨u, q, ha⟩ := ha
  refine ⟨_, pe_bm pa slot hty hm p q hbase hfew hline hs hplain, fun m S H sd σ Q rs rl h => ?_⟩
  refine ho m S H sd σ _ rs rl (Post.bind h fun d S1 m1 v H1 x1 k1 rs1 rv h1 => ?_)
  split at h1
  · rename_i ht
    refine ⟨isTy_tyV rs1 rv ht, ?_⟩
    refine ha m1 S1 H1 sd σ _ rs1 (rl.mono x1 k1) (Post.bind h1 fun ds S2 m2 vs H2 x2 k2 rs2 rv2 h2 => ?_)
    exact hr E m2 S2 H2 d ds v vs Q rs2 (RV.mono x2 k2 d rv) rv2 h2
  · exact h1.elim
theorem lst_at {m : List Addr} {S : Sto} {H : Hp} {l : Nat} {xs : List D} {v : V} {K : PySem.W.Frag} (rs : RS cl K m S H) (e : S[l]? = some (.lst xs)) (rv : RV K m H (.ref l) v) : ∃ a vs, m[l]? = some a ∧ v = .ref a ∧ H a = some (.lst vs) ∧ RVs K m H xs vs := by
  obtain ⟨a, h1, vs, hv, r1⟩ := rs.adr e
  obtain ⟨a', h2, rfl⟩ := rv
  rw [h1] at h2; cases h2
  exact ⟨a, vs, h1, rfl, hv, r1⟩
theorem put_lst {m : List Addr} {S : Sto} {H : Hp} {l : Nat} {xs ys : List D} {ws : List V} {a : Addr} {d : D} {v : V} {Q : VK} {K : PySem.W.Frag} (rs : RS cl K m S H) (e : S[l]? = some (.lst xs)) (hm : m[l]? = some a) (r : RVs K m H ys ws) (rv : RV K m H d v)
    (h : Post cl K (RV K) m H E Q (.ok d (S.set l (.lst ys)))) : Q v (upd H a (.lst ws)) := by
  have kp := rs.keepPut (u := .lst ws) e hm
  exact h m _ _ (Ext.refl _) kp (rs.put e hm ⟨ws, upd_same, r.mono (Ext.refl _) kp⟩) (RV.mono (Ext.refl _) kp d rv)
def appendD : D → List D → Sto → Res D
  | .ref l, [y], S => match S[l]? with
    | some (.lst xs) => if xs.length < sizeLine then .ok .non (S.set l (.lst (xs ++ [y]))) else .stuck
    | _ => .stuck
  | _, _, _ => .stuck
theorem md_append : MthD cl X "list.append" appendD := by
  refine ⟨_, mt_append, fun E m S H d ds v vs Q rs rv rvs h => ?_⟩
  unfold appendD at h
  split at h
  · rename_i l y
    obtain ⟨w, rfl, rw'⟩ := rvs1 rvs
    split at h
    · rename_i xs e1
      split at h
      · rename_i hz
        obtain ⟨a, us, hm, rfl, hv, r1⟩ := lst_at rs e1 rv
        exact ⟨a, us, w, rfl, rfl, hv, by rw [← r1.length]; exact hz, put_lst (d := .non) rs e1 hm (r1.snoc rw') rfl h⟩
      · exact h.elim
    · exact h.elim
  · exact h.elim
def extendD : D → List D → Sto → Res D
  | .ref l, [.ref k], S => match S[l]?, S[k]? with
    | some (.lst xs), some (.lst ys) => if xs.length + ys.length ≤ sizeLine then .ok .non (S.set l (.lst (xs ++ ys))) else .stuck
    | _, _ => .stuck
  | _, _, _ => .stuck
theorem md_extend : MthD cl X "list.extend" extendD := by
  refine ⟨_, mt_extend, fun E m S H d ds v vs Q rs rv rvs h => ?_⟩
  unfold extendD at h
  split at h
  · rename_i l k
    obtain ⟨w, rfl, rw'⟩ := rvs1 rvs
    split at h
    · rename_i xs ys e1 e2
      split at h
      · rename_i hz
        obtain ⟨a, us, hm, rfl, hv, r1⟩ := lst_at rs e1 rv
        obtain ⟨b, ws, hm2, rfl, hv2, r2⟩ := lst_at rs e2 rw'
        exact ⟨a, b, us, ws, rfl, rfl, hv, hv2, by rw [← r1.length, ← r2.length]; exact hz, put_lst (d := .non) rs e1 hm (r1.append r2) rfl h⟩
      · exact h.elim
    · exact h.elim
  · exact h.elim
def strsD : List D → Option (List Str)
  | [] => some []
  | .str x :: r => (strsD r).map (x :: ·)
  | _ => none
theorem strsD_rv {K : PySem.W.Frag} {m : List Addr} {H : Hp} : ∀ {ds : List D} {vs : List V} {ys : List Str}, RVs K m H ds vs → strsD ds = some ys → vs = ys.map V.str
  | [], _, _, r, e => by cases r; cases e; rfl
  | .str x :: ds, _, _, ⟨v, vs', e, r, t⟩, h => by
    subst e
    cases r
    obtain ⟨zs, e1, rfl⟩ := Option.map_eq_some_iff.mp h
    rw [strsD_rv t e1]; rfl
  | .non :: _, _, _, _, h => by cases h
  | .bl _ :: _, _, _, _, h => by cases h
  | .int _ :: _, _, _, _, h => by cases h
  | .tup _ :: _, _, _, _, h => by cases h
  | .frl _ :: _, _, _, _, h => by cases h
  | .ref _ :: _, _, _, _, h => by cases h
  | .exn _ _ _ _ :: _, _, _, _, h => by cases h
def joinD : D → List D → Sto → Res D
  | .str a, [d], S => match seqD d S with
    | some ds => match strsD ds with
      | some ys => if (ys.map (·.length)).sum + ys.length * a.length ≤ 16777216 then .ok (.str (Txt.join a ys)) S else .stuck
      | none => .stuck
    | none => .stuck
  | _, _, _ => .stuck
theorem md_join : MthD cl X "str.join" joinD := by
  refine ⟨_, mt_join, fun E m S H d ds v vs Q rs rv rvs h => ?_⟩
  unfold joinD at h
  split at h
  · rename_i a d
    obtain ⟨w, rfl, rw'⟩ := rvs1 rvs
    cases rv
    split at h
    · rename_i es e1
      split at h
      · rename_i ys e2
        split at h
        · rename_i hz
          obtain ⟨p, us, rfl, hs, r1⟩ := seq_rv rs rw' e1
          have e3 := strsD_rv r1 e2
          subst e3
          exact ⟨a, p, ys, rfl, rfl, hs, hz, h.here rs rfl⟩
        · exact h.elim
      · exact h.elim
    · exact h.elim
  · exact h.elim
def indexD : D → List D → Sto → Res D
  | d, [y], S => match lsD d S with
    | some xs => match toP S 60 y, mapO (toP S 60) xs with
      | some p, some ps => if SeqAt.shaped p && SeqAt.shaped (.list ps) then (match ps.findIdx? fun z => PyData.eqv z p with
        | some j => .ok (.int (j : Nat)) S
        | none => .stuck) else .stuck
      | _, _ => .stuck
    | _ => .stuck
  | _, _, _ => .stuck
theorem md_index (hu : X.A.units + 65 < cLine) : MthD cl X "list.index" indexD := by
  refine ⟨_, mt_indexD hu, fun E m S H d ds v vs Q rs rv rvs h => ?_⟩
  unfold indexD at h
  split at h
  · rename_i l y
    obtain ⟨w, rfl, rw'⟩ := rvs1 rvs
    split at h
    · rename_i xs e1
      split at h
      · rename_i p ps ep eps
        split at h
        · rename_i hz
          rw [Bool.and_eq_true] at hz
          split at h
          · rename_i j ej
            obtain ⟨a, us, rfl, hv, r1⟩ := ls_rv rs rv e1
            obtain ⟨h1, h2, h3⟩ := List.findIdx?_eq_some_iff_getElem.mp ej
            refine ⟨a, w, p, ps, j, ps[j], rfl, rfl, .lst hv (dpAll (toP_dp rs 60) xs ps us eps r1), toP_dp rs 60 y p w ep rw', hz.2, hz.1, by simp [h1], h2, fun k z' hk hz' => ?_, h.here rs rfl⟩
            have hk' : k < ps.length := by omega
            rw [List.getElem?_eq_getElem hk'] at hz'
            cases hz'
            simpa using h3 k hk
          · exact h.elim
        · exact h.elim
      · exact h.elim
    · exact h.elim
  · exact h.elim
end
def tyS (d : D) (S : Sto) : Option String := match d with
  | .non => some "NoneType"
  | .bl _ => some "bool"
  | .int _ => some "int"
  | .str _ => some "str"
  | .tup _ => some "tuple"
  | .frl _ => some "list"
  | .ref l => match S[l]? with
    | some (.lst _) => some "list"
    | some (.dic 0 _) => some "dict"
    | some (.dic 1 _) => some "dict"
    | _ => none
  | .exn _ _ _ _ => none
def isT (a b : String) : Bool := a == b || (a == "bool" && b == "int")
def tyOk (t : String) : Bool := ["NoneType", "bool", "int", "str", "tuple", "list", "dict"].contains t
theorem kitB_is {a b : String} (ha : tyOk a = true) (hb : tyOk b = true) : kitB a b = some (isT a b) := by
  have key : ∀ a ∈ ["NoneType", "bool", "int", "str", "tuple", "list", "dict"], ∀ b ∈ ["NoneType", "bool", "int", "str", "tuple", "list", "dict"], kitB a b = some (isT a b) := by decide +kernel
  exact key a (List.contains_iff_mem.mp ha) b (List.contains_iff_mem.mp hb)
theorem tyS_ok {d : D} {S : Sto} {t : String} (h : tyS d S = some t) : tyOk t = true := by
  unfold tyS at h
  split at h
  all_goals first | (cases h; decide) | skip
  split at h
  all_goals first | (cases h; decide) | cases h
theorem tyS_rv {cl : Cl} {K : PySem.W.Frag} {m : List Addr} {S : Sto} {H : Hp} {d : D} {v : V} {t : String} (rs : RS cl K m S H) (rv : RV K m H d v) (h : tyS d S = some t) : TyX K H v (.type t) := by
  unfold tyS at h
  split at h
  · cases h; cases rv; exact .base .non
  · cases h; cases rv; exact .base (.bl _)
  · cases h; cases rv; exact .base (.int _)
  · cases h; cases rv; exact .base (.str _)
  · cases h
    obtain ⟨a, vs, rfl, s1, r1⟩ := rv
    rcases s1 with (s1 | ⟨o, s1⟩) | ⟨o, its, n, h1, h2, h3⟩
    · exact .base (.tup s1)
    · exact .fTuple s1
    · exact .kTuple h1 h2
  · cases h
    obtain ⟨a, vs, rfl, s1, r1⟩ := rv
    rcases s1 with ⟨o, s1⟩ | ⟨o, its, n, h1, h2, h3⟩
    · exact .base (.frz s1)
    · exact .kList h1 h2
  · rename_i l
    split at h
    · rename_i xs e1
      cases h
      obtain ⟨a, us, hm, rfl, hv, r1⟩ := lst_at rs e1 rv
      exact .base (.lst hv)
    · rename_i kvs e1
      cases h
      obtain ⟨a, h1, gs, hv, r1⟩ := rs.adr e1
      obtain ⟨a', h2, rfl⟩ := rv
      rw [h1] at h2; cases h2
      exact .base (.dK hv)
    · rename_i kvs e1
      cases h
      obtain ⟨a, h1, gs, hv, r1⟩ := rs.adr e1
      obtain ⟨a', h2, rfl⟩ := rv
      rw [h1] at h2; cases h2
      exact .base (.dT hv)
    · cases h
  · cases h
def dIsi (ts : List String) (f : Sl → Sto → Res D) : Sl → Sto → Res D := fun sd S => (f sd S).bind fun d S1 => match tyS d S1 with
  | some t => .ok (.bl (ts.any fun b => isT t b)) S1
  | none => .stuck
section
variable {cl : Cl} {X : Cx} {E : XK} {e : Expr} {f : Sl → Sto → Res D} {p p1 p2 p3 p4 pos : Pos}
theorem de_isi {T : String} {n : Str} (hi : Gl X "isinstance") (mi : X.mg "isinstance" = none) (he : DE cl X E e f) (hg : Gl X n) (hm : X.mg n = none) (hv : bootBuiltins n = some (.type T)) (hT : tyOk T = true)
    (hn : n ≠ "__name__" := by decide) (hd : (n == ("__debug__" : Str)) = false := by decide) (hs : starEach [e, .Name n p2] X.env = (false, eval e X.env) :: starEach [.Name n p2] X.env := by rfl) :
    DE cl X E (.Call (.Name "isinstance" p) [e, .Name n p2] [] pos) (dIsi [T] f) := by
  obtain ⟨t, q, he⟩ := he
  have pa := pa_cons q (pa_cons (pe_bltn (v := .ty T) (pos := p2) hg hm hv rfl hn hd) pa_nil) hs
  refine ⟨_, pe_callB call_isi hi mi (by rfl) pa (he := hs), fun m S H sd σ Q rs rl h => ?_⟩
  refine he m S H sd σ _ rs rl (Post.bind h fun d S1 m1 v H1 x1 k1 rs1 rv h1 => ?_)
  split at h1
  · rename_i ty ht
    have h1' : Post cl X.K (RV X.K) m1 H1 E Q (.ok (.bl (isT ty T)) S1) := by
      have e : ([T].any fun b => isT ty b) = isT ty T := by simp
      rw [← e]; exact h1
    exact ⟨v, .ty T, .type ty, .type T, isT ty T, rfl, .ty T, tyS_rv rs1 rv ht, kit_ty (kitB_is (tyS_ok ht) hT), h1'.here rs1 rfl⟩
  · exact h1.elim
theorem de_isi2 {T U : String} {n n' : Str} {k : Nat} (hi : Gl X "isinstance") (mi : X.mg "isinstance" = none) (he : DE cl X E e f) (hg : Gl X n) (hm : X.mg n = none) (hv : bootBuiltins n = some (.type T)) (hT : tyOk T = true)
    (hg' : Gl X n') (hm' : X.mg n' = none) (hv' : bootBuiltins n' = some (.type U)) (hU : tyOk U = true)
    (hn : n ≠ "__name__" := by decide) (hd : (n == ("__debug__" : Str)) = false := by decide) (hn' : n' ≠ "__name__" := by decide) (hd' : (n' == ("__debug__" : Str)) = false := by decide)
    (hs : starEach [e, .Tuple [.Name n p2, .Name n' p3] k p4] X.env = (false, eval e X.env) :: starEach [.Tuple [.Name n p2, .Name n' p3] k p4] X.env := by rfl) :
    DE cl X E (.Call (.Name "isinstance" p) [e, .Tuple [.Name n p2, .Name n' p3] k p4] [] pos) (dIsi [T, U] f) := by
  obtain ⟨t, q, he⟩ := he
  have pt := pe_tup (x1 := k) (pos := p4) (pa_cons (pe_bltn (v := .ty T) (pos := p2) hg hm hv rfl hn hd) (pa_cons (pe_bltn (v := .ty U) (pos := p3) hg' hm' hv' rfl hn' hd') pa_nil))
  have pa := pa_cons q (pa_cons pt pa_nil) hs
  refine ⟨_, pe_callB call_isiT hi mi (by rfl) pa (he := hs), fun m S H sd σ Q rs rl h => ?_⟩
  refine he m S H sd σ _ rs rl (Post.bind h fun d S1 m1 v H1 x1 k1 rs1 rv h1 => ?_)
  split at h1
  · rename_i ty ht
    have hk : PySem.W.kitAny X.K (.type ty) [.type T, .type U] = some ([T, U].any fun b => isT ty b) := by
      refine kitAny_cons (kit_ty (kitB_is (tyS_ok ht) hT)) (fun hb => kitAny_cons (kit_ty (kitB_is (tyS_ok ht) hU)) (fun hc => ?_) (fun hc => ?_)) (fun hb => ?_)
      · rw [kitAny_nil]; simp [hb, hc]
      · simp [hc]
      · simp [hb]
    refine ⟨by rw [sizeLine_eq]; show 2 ≤ _; decide, fun a na => ?_⟩
    have hk2 := Keep.new (H := H1) (o := .tup [V.ty T, V.ty U]) na
    exact ⟨v, a, [.ty T, .ty U], .type ty, [.type T, .type U], _, rfl, upd_same, .cons (.ty T) (.cons (.ty U) .nil), tyS_rv (rs1.ext na) (RV.mono (Ext.refl _) hk2 d rv) ht, hk, h1 m1 _ _ (Ext.refl _) hk2 (rs1.ext na) rfl⟩
  · exact h1.elim
end
end DL

namespace DL
open PySem PySem.Spec PyProof.Rows L2
structure TabF (K : PySem.W.Frag) (h : Heap) (tf : List He.Defn) : Prop where
  hd : ∀ p ∈ tf, PySem.W.codeHdIn K (He.cT K p).1 (He.cT K p).2 = true
  out : ∀ p ∈ tf, K.lookup (He.cT K p).2 = none
  empty : ∀ p ∈ tf, h.get? (He.cT K p).2 = some { cls := .none, data := .fields #[] }
def dKind (Fx : Exc → Sto → Res D) (fb : Sl → Sto → Res D) : Sl → Sto → Res D := fun sd S => match fb sd S with
  | .ok d S1 => .ok d S1
  | .exc x S1 => (match Fx x S1 with
    | .ok d S2 => .ok d S2
    | _ => .stuck)
  | .stuck => .stuck
def tabsQ (K : PySem.W.Frag) (tq : List (He.Defn × Str)) : List (Addr × Str) := tq.map fun p => ((He.cT K p.1).2, p.2 ++ ".<locals>." ++ "<lambda>")
end DL

namespace DL
open PySem PySem.Spec PyProof.Rows L2
mutual
def D.blw (n : Nat) : D → Bool
  | .tup ds => D.blws n ds
  | .frl ds => D.blws n ds
  | .ref l => decide (l < n)
  | .exn _ _ _ ds => D.blws n ds
  | .non => true
  | .bl _ => true
  | .int _ => true
  | .str _ => true
def D.blws (n : Nat) : List D → Bool
  | [] => true
  | d :: ds => D.blw n d && D.blws n ds
end
def DO.blw (n : Nat) : DO → Bool
  | .lst ds => D.blws n ds
  | .dic _ kvs => kvs.all fun p => p.2.blw n
  | .ins _ fs => fs.all fun p => p.2.blw n
  | .dead => true
section
variable {cl : Cl} {K : PySem.W.Frag} {m : List Addr} {H : Hp} {n : Nat}
mutual
theorem RV.cut : ∀ (d : D) {v : V}, RV K m H d v → d.blw n = true → RV K (m.take n) H d v
  | .non, _, h, _ => h
  | .bl _, _, h, _ => h
  | .int _, _, h, _ => h
  | .str _, _, h, _ => h
  | .tup ds, _, ⟨a, vs, e, s, r⟩, b => ⟨a, vs, e, s, RVs.cut ds r b⟩
  | .frl ds, _, ⟨a, vs, e, s, r⟩, b => ⟨a, vs, e, s, RVs.cut ds r b⟩
  | .ref l, _, ⟨a, e, r⟩, b => ⟨a, by rw [List.getElem?_take_of_lt (of_decide_eq_true b)]; exact e, r⟩
  | .exn a dd ns ds, _, ⟨e, vs, r, h⟩, b => ⟨e, vs, RVs.cut ds r b, h⟩
theorem RVs.cut : ∀ (ds : List D) {vs : List V}, RVs K m H ds vs → D.blws n ds = true → RVs K (m.take n) H ds vs
  | [], _, h, _ => h
  | d :: ds, _, ⟨v, vs', e, r, t⟩, b => by
    have b' : (D.blw n d && D.blws n ds) = true := b
    rw [Bool.and_eq_true] at b'
    exact ⟨v, vs', e, RV.cut d r b'.1, RVs.cut ds t b'.2⟩
end
mutual
theorem RV.isBelow : ∀ (d : D) {v : V}, RV K m H d v → d.blw m.length = true
  | .non, _, _ => rfl
  | .bl _, _, _ => rfl
  | .int _, _, _ => rfl
  | .str _, _, _ => rfl
  | .tup ds, _, ⟨_, _, _, _, r⟩ => RVs.isBelow ds r
  | .frl ds, _, ⟨_, _, _, _, r⟩ => RVs.isBelow ds r
  | .ref l, _, ⟨a, e, _⟩ => decide_eq_true (List.getElem?_eq_some_iff.mp e).1
  | .exn a dd ns ds, _, ⟨_, _, r, _⟩ => RVs.isBelow ds r
theorem RVs.isBelow : ∀ (ds : List D) {vs : List V}, RVs K m H ds vs → D.blws m.length ds = true
  | [], _, _ => rfl
  | d :: ds, _, ⟨v, vs', e, r, t⟩ => by
    show (D.blw m.length d && D.blws m.length ds) = true
    rw [RV.isBelow d r, RVs.isBelow ds t]; rfl
end
theorem RF.cut : ∀ {fs : List (Str × D)} {gs : List (Str × V)}, RF K m H fs gs → (fs.all fun p => p.2.blw n) = true → RF K (m.take n) H fs gs
  | [], _, h, _ => h
  | p :: fs, _, ⟨v, gs', e, r, t⟩, b => by
    rw [List.all_cons, Bool.and_eq_true] at b
    exact ⟨v, gs', e, RV.cut _ r b.1, RF.cut t b.2⟩
theorem RD0.cut : ∀ {fs : List (D × D)} {gs : List (Key × V)}, RD0 K m H fs gs → (fs.all fun p => p.2.blw n) = true → RD0 K (m.take n) H fs gs
  | [], _, h, _ => h
  | p :: fs, _, ⟨q, v, gs', e, hk, r, t⟩, b => by
    rw [List.all_cons, Bool.and_eq_true] at b
    exact ⟨q, v, gs', e, hk, RV.cut _ r b.1, RD0.cut t b.2⟩
theorem RD1.cut : ∀ {fs : List (D × D)} {gs : List (List Key × V)}, RD1 K m H fs gs → (fs.all fun p => p.2.blw n) = true → RD1 K (m.take n) H fs gs
  | [], _, h, _ => h
  | p :: fs, _, ⟨q, v, gs', e, hk, r, t⟩, b => by
    rw [List.all_cons, Bool.and_eq_true] at b
    exact ⟨q, v, gs', e, hk, RV.cut _ r b.1, RD1.cut t b.2⟩
mutual
theorem nkey_blw {n : Nat} : ∀ (d : D) {k : NestedKey}, nkey d = some k → d.blw n = true
  | .non, _, _ => rfl
  | .int _, _, _ => rfl
  | .str _, _, _ => rfl
  | .tup ds, _, h => by
    unfold nkey at h
    cases e : nkeys ds with
    | none => rw [e] at h; cases h
    | some ks => exact nkeys_blw ds e
  | .bl _, _, h => by cases h
  | .frl _, _, h => by cases h
  | .ref _, _, h => by cases h
  | .exn _ _ _ _, _, h => by cases h
theorem nkeys_blw {n : Nat} : ∀ (ds : List D) {ks : List NestedKey}, nkeys ds = some ks → D.blws n ds = true
  | [], _, _ => rfl
  | d :: ds, _, h => by
    unfold nkeys at h
    cases e : nkey d with
    | none => rw [e] at h; cases h
    | some k =>
      cases e2 : nkeys ds with
      | none => rw [e, e2] at h; cases h
      | some ks =>
        show (D.blw n d && D.blws n ds) = true
        rw [nkey_blw d e, nkeys_blw ds e2]; rfl
end
theorem RD2.cut : ∀ {fs : List (D × D)} {xs : List (NestedKey × Addr × Value)}, RD2 K m H fs xs → (fs.all fun p => p.2.blw n) = true → RD2 K (m.take n) H fs xs
  | [], _, h, _ => h
  | p :: fs, _, ⟨q, b, v, u, xs', e, hk, hd, r1, r2, r3, t⟩, bb => by
    rw [List.all_cons, Bool.and_eq_true] at bb
    exact ⟨q, b, v, u, xs', e, hk, hd, RV.cut _ r1 (nkey_blw _ hk), RV.cut _ r2 bb.1, r3, RD2.cut t bb.2⟩
theorem RD2.isBelow : ∀ {fs : List (D × D)} {xs : List (NestedKey × Addr × Value)}, RD2 K m H fs xs → (fs.all fun p => p.2.blw m.length) = true
  | [], _, _ => rfl
  | p :: fs, _, ⟨q, b, v, u, xs', e, hk, hd, r1, r2, r3, t⟩ => by rw [List.all_cons, RV.isBelow _ r2, RD2.isBelow t]; rfl
theorem RF.isBelow : ∀ {fs : List (Str × D)} {gs : List (Str × V)}, RF K m H fs gs → (fs.all fun p => p.2.blw m.length) = true
  | [], _, _ => rfl
  | p :: fs, _, ⟨v, gs', e, r, t⟩ => by rw [List.all_cons, RV.isBelow _ r, RF.isBelow t]; rfl
theorem RD0.isBelow : ∀ {fs : List (D × D)} {gs : List (Key × V)}, RD0 K m H fs gs → (fs.all fun p => p.2.blw m.length) = true
  | [], _, _ => rfl
  | p :: fs, _, ⟨q, v, gs', e, hk, r, t⟩ => by rw [List.all_cons, RV.isBelow _ r, RD0.isBelow t]; rfl
theorem RD1.isBelow : ∀ {fs : List (D × D)} {gs : List (List Key × V)}, RD1 K m H fs gs → (fs.all fun p => p.2.blw m.length) = true
  | [], _, _ => rfl
  | p :: fs, _, ⟨q, v, gs', e, hk, r, t⟩ => by rw [List.all_cons, RV.isBelow _ r, RD1.isBelow t]; rfl
theorem RO.cut {a : Addr} : ∀ {o : DO}, RO cl K m H o a → o.blw n = true → RO cl K (m.take n) H o a
  | .lst ds, ⟨vs, e, r⟩, b => ⟨vs, e, RVs.cut ds r b⟩
  | .dic 0 kvs, ⟨gs, e, r⟩, b => ⟨gs, e, r.cut b⟩
  | .dic 1 kvs, ⟨gs, e, r⟩, b => ⟨gs, e, r.cut b⟩
  | .dic 2 kvs, ⟨xs, es, ep, e, e1, e2, e3, r⟩, b => ⟨xs, es, ep, e, e1, e2, e3, r.cut b⟩
  | .dic 3 kvs, ⟨gs, o, e, r⟩, b => ⟨gs, o, e, r.cut b⟩
  | .dic 4 kvs, ⟨ds, o, vs, e0, e, e1, e2, r⟩, b => by
    subst e0
    have b' : D.blws n ds = true := by simpa [DO.blw, D.blw] using b
    exact ⟨ds, o, vs, rfl, e, e1, e2, RVs.cut ds r b'⟩
  | .dic 5 kvs, ⟨i, o, u, e0, e, r⟩, _ => ⟨i, o, u, e0, e, r⟩
  | .dic 6 kvs, ⟨xs, es, ep, o, e, e1, e2, e3, r⟩, b => ⟨xs, es, ep, o, e, e1, e2, e3, r.cut b⟩
  | .dic 7 kvs, ⟨i, ds, vs, o, u, e0, e, r, q⟩, b => by
    subst e0
    have b' : D.blws n ds = true := by simpa [DO.blw, D.blw] using b
    exact ⟨i, ds, vs, o, u, rfl, e, RVs.cut ds r b', q⟩
  | .dic (_ + 8) kvs, h, _ => h.elim
  | .ins c fs, ⟨dx, gs, e, r⟩, b => ⟨dx, gs, e, r.cut b⟩
  | .dead, h, _ => h
theorem RO.isBelow {a : Addr} : ∀ {o : DO}, RO cl K m H o a → o.blw m.length = true
  | .lst ds, ⟨vs, e, r⟩ => RVs.isBelow ds r
  | .dic 0 kvs, ⟨gs, e, r⟩ => r.isBelow
  | .dic 1 kvs, ⟨gs, e, r⟩ => r.isBelow
  | .dic 2 kvs, ⟨xs, es, ep, e, e1, e2, e3, r⟩ => r.isBelow
  | .dic 3 kvs, ⟨gs, o, e, r⟩ => r.isBelow
  | .dic 4 kvs, ⟨ds, o, vs, e0, e, e1, e2, r⟩ => by
    subst e0
    have := RVs.isBelow ds r
    simpa [DO.blw, D.blw] using this
  | .dic 5 kvs, ⟨i, o, u, e0, e, r⟩ => by
    subst e0
    rfl
  | .dic 6 kvs, ⟨xs, es, ep, o, e, e1, e2, e3, r⟩ => r.isBelow
  | .dic 7 kvs, ⟨i, ds, vs, o, u, e0, e, r, q⟩ => by
    subst e0
    have := RVs.isBelow ds r
    simpa [DO.blw, D.blw] using this
  | .dic (_ + 8) kvs, h => h.elim
  | .ins c fs, ⟨dx, gs, e, r⟩ => r.isBelow
  | .dead, h => rfl
end
def sameO (n : Nat) (a b : Option DO) : Bool := decide (b = a) || (match b with
  | some o => o.blw n
  | none => true)
def cutOk (S S' : Sto) : Bool := decide (S.length ≤ S'.length) && (List.range S.length).all fun i => sameO S.length S[i]? S'[i]?
section
variable {cl : Cl} {K : PySem.W.Frag} {m m' : List Addr} {S S' : Sto} {H H' : Hp}
theorem cutOk_below (rs : RS cl K m S H) (h : cutOk S S' = true) : S.length ≤ S'.length ∧ ∀ (i : Nat) (o : DO), i < S.length → S'[i]? = some o → o.blw S.length = true := by
  unfold cutOk at h
  rw [Bool.and_eq_true] at h
  refine ⟨of_decide_eq_true h.1, fun i o hi e => ?_⟩
  have z := List.all_eq_true.mp h.2 i (List.mem_range.mpr hi)
  unfold sameO at z
  rw [e] at z
  rw [Bool.or_eq_true] at z
  rcases z with z | z
  · have z' := of_decide_eq_true z
    obtain ⟨a, _, ro⟩ := rs.adr z'.symm
    have := ro.isBelow
    rw [rs.len] at this
    exact this
  · exact z
theorem RS.cut {n : Nat} (rs : RS cl K m S H) (hn : n ≤ S.length) (hb : ∀ (i : Nat) (o : DO), i < n → S[i]? = some o → o.blw n = true) : RS cl K (m.take n) (S.take n) H := by
  have hl := rs.len
  refine ⟨by simp; omega, fun i j a hi hj => ?_, fun l o a hs hm => ?_, rs.tb⟩
  · rw [List.getElem?_take] at hi hj
    split at hi <;> split at hj
    · exact rs.nd i j a hi hj
    all_goals simp_all
  · rw [List.getElem?_take] at hs hm
    split at hs
    · rename_i hlt
      rw [if_pos hlt] at hm
      exact (rs.obj l o a hs hm).cut (hb l o hlt hs)
    · cases hs
theorem Ext.cut (rs : RS cl K m S H) (x : Ext m m') : Ext m (m'.take S.length) := fun l a e => by
  have hl : l < S.length := by rw [← rs.len]; exact (List.getElem?_eq_some_iff.mp e).1
  rw [List.getElem?_take_of_lt hl]
  exact x l a e
end
def Exc.blw (n : Nat) (x : Exc) : Bool := match x.fs with
  | none => true
  | some fs => fs.all fun p => p.2.blw n
theorem RX.cut {K : PySem.W.Frag} {m : List Addr} {H : Hp} {n : Nat} {x : Exc} {dd : Option Addr} (r : RX K m H x dd) (b : x.blw n = true) : RX K (m.take n) H x dd := by
  unfold RX at r ⊢
  unfold Exc.blw at b
  cases e : x.fs with
  | none => rw [e] at r; exact r
  | some fs =>
    rw [e] at r b
    obtain ⟨d, gs, e1, e2, r⟩ := r
    exact ⟨d, gs, e1, e2, r.cut b⟩
def cutR (S : Sto) : Res D → Res D
  | .ok d S' => if cutOk S S' = true then (if d.blw S.length = true then .ok d (S'.take S.length) else match d with
      | .ref l => match S'[l]? with
        | some (.lst xs) => if D.blws S.length xs = true ∧ S.length ≤ l then .ok (.ref S.length) (S'.take S.length ++ [.lst xs]) else .ok d S'
        | _ => .ok d S'
      | _ => .ok d S') else .ok d S'
  | .exc x S' => if cutOk S S' = true ∧ x.blw S.length = true then .exc x (S'.take S.length) else .exc x S'
  | .stuck => .stuck
def cutF (F : List D → Sto → Res D) : List D → Sto → Res D := fun ds S => cutR S (F ds S)
section
variable {cl : Cl} {K : PySem.W.Frag} {m m' : List Addr} {S S' : Sto} {H H' : Hp} {E : XK} {Q : VK}
theorem RS.cut1 {l : Nat} {xs : List D} {a : Addr} (rs0 : RS cl K m S H) (rs : RS cl K m' S' H') (h : cutOk S S' = true) (hl : S.length ≤ l) (e : S'[l]? = some (.lst xs)) (hm : m'[l]? = some a) (hb : D.blws S.length xs = true) :
    RS cl K (m'.take S.length ++ [a]) (S'.take S.length ++ [.lst xs]) H' := by
  obtain ⟨h1, h2⟩ := cutOk_below rs0 h
  have c := rs.cut h1 h2
  have hlen : (m'.take S.length).length = S.length := by rw [c.len]; simp; omega
  have hlS : (S'.take S.length).length = S.length := by simp; omega
  have na : ∀ i : Nat, (m'.take S.length)[i]? = some a → False := fun i hi => by
    rw [List.getElem?_take] at hi
    split at hi
    · rename_i hlt
      have := rs.nd i l a hi hm
      omega
    · cases hi
  refine ⟨by simp [hlen, hlS], fun i j b hi hj => ?_, fun k o b hs hk => ?_, rs.tb⟩
  · rw [List.getElem?_append] at hi hj
    split at hi <;> split at hj
    · exact c.nd i j b hi hj
    · rename_i q1 q2
      have : b = a := by
        cases hz : j - (m'.take S.length).length with
        | zero => rw [hz] at hj; simp at hj; exact hj.symm
        | succ n => rw [hz] at hj; simp at hj
      subst this; exact (na i hi).elim
    · have : b = a := by
        cases hz : i - (m'.take S.length).length with
        | zero => rw [hz] at hi; simp at hi; exact hi.symm
        | succ n => rw [hz] at hi; simp at hi
      subst this; exact (na j hj).elim
    · have e1 : i - (m'.take S.length).length = 0 := by
        cases hz : i - (m'.take S.length).length with
        | zero => rfl
        | succ n => rw [hz] at hi; simp at hi
      have e2 : j - (m'.take S.length).length = 0 := by
        cases hz : j - (m'.take S.length).length with
        | zero => rfl
        | succ n => rw [hz] at hj; simp at hj
      omega
  · rw [List.getElem?_append] at hs hk
    rw [hlS] at hs
    rw [hlen] at hk
    have xx : Ext (m'.take S.length) (m'.take S.length ++ [a]) := Ext.snoc _ _
    split at hs
    · rename_i q1
      rw [if_pos q1] at hk
      exact (c.obj k o b hs hk).mono xx (Keep.refl _) rfl
    · rename_i q1
      rw [if_neg q1] at hk
      have e1 : k - S.length = 0 := by
        cases hz : k - S.length with
        | zero => rfl
        | succ n => rw [hz] at hs; simp at hs
      rw [e1] at hs hk
      simp at hs hk
      subst hs hk
      obtain ⟨vs, hv, r⟩ := rs.obj l _ _ e hm
      exact ⟨vs, hv, (RVs.cut xs r hb).mono xx (Keep.refl _)⟩
theorem cutR_post (rs : RS cl K m S H) {r : Res D} (h : Post cl K (RV K) m H E Q (cutR S r)) : Post cl K (RV K) m H E Q r := by
  cases r with
  | stuck => exact h
  | exc x S1 =>
    simp only [cutR] at h
    split at h
    · rename_i hc
      intro m' dd H' x' k' rs' rx
      obtain ⟨h1, h2⟩ := cutOk_below rs hc.1
      exact h _ dd H' (Ext.cut rs x') k' (rs'.cut h1 h2) (rx.cut hc.2)
    · exact h
  | ok d S1 =>
    simp only [cutR] at h
    split at h
    · rename_i hc
      split at h
      · rename_i hb
        intro m' v H' x' k' rs' rv
        obtain ⟨h1, h2⟩ := cutOk_below rs hc
        exact h _ v H' (Ext.cut rs x') k' (rs'.cut h1 h2) (RV.cut d rv hb)
      · split at h
        · rename_i l hb
          split at h
          · rename_i xs e
            split at h
            · rename_i hz
              intro m' v H' x' k' rs' rv
              obtain ⟨a, hm, rfl⟩ := rv
              have hlen : (m'.take S.length).length = S.length := by
                obtain ⟨h1, h2⟩ := cutOk_below rs hc
                rw [(rs'.cut h1 h2).len]; simp; omega
              exact h _ (.ref a) H' ((Ext.cut rs x').trans (Ext.snoc _ _)) k' (RS.cut1 rs rs' hc hz.2 e hm hz.1) ⟨a, by rw [List.getElem?_append_right (by omega), hlen]; simp, rfl⟩
            · exact h
          · exact h
        · exact h
    · exact h
end
theorem FnD.cut {P : Program} {w : World} {cl : Cl} {K : PySem.W.Frag} {mg : Str → Option Value} {base : Heap} {k n : Nat} {f : Addr} {F} (h : FnD P w cl K mg base k f n F) : FnD P w cl K mg base k f n (cutF F) := by
  obtain ⟨kp, fd, ps, hl, hb, F0⟩ := h
  have imp : ∀ vs H Q E, spD cl K n (cutF F) vs H Q E → spD cl K n F vs H Q E := fun vs H Q E ⟨m, S, ds, hl, rs, rv, h⟩ => ⟨m, S, ds, hl, rs, rv, cutR_post rs h⟩
  exact ⟨kp, fd, ps, hl, hb, fun vs H Q E h => F0.len vs H Q E (imp _ _ _ _ h), fun A outer s H args us vs Q E hr e0 hbb hv h => F0.run A outer s H args us vs Q E hr e0 hbb hv (imp _ _ _ _ h)⟩
theorem pe_frz {X : Cx} {e : Expr} {t : TE} (p : PE X e t) : PE X e (fun σ H Q => t σ H fun v H1 => Q v H1 ∨ ∃ a u, v = .ref a ∧ H1 a = some u ∧ Mut (some u) ∧ ∀ od, Q v (upd H1 a (.frz od u))) := by
  refine ⟨fun pins s σ H Q I h => ?_⟩
  refine thn (p.run pins s σ H _ I h) fun u s1 ⟨v, H1, I1, r1, q1⟩ => ?_
  rcases q1 with q | ⟨a, w, rfl, ha, mu, q⟩
  · exact ⟨v, H1, I1, r1, q⟩
  · obtain ⟨od, I2⟩ := I1.lock ha mu
    exact ⟨.ref a, _, I2, r1, q od⟩
def frzD (S0 : Sto) (d : D) (S1 : Sto) : Res D := match d with
  | .ref l => match S1[l]? with
    | some (.lst xs) => if S0.length ≤ l ∧ cutOk S0 S1 = true ∧ D.blws S0.length xs = true then .ok (.frl xs) (S1.take S0.length) else .ok (.frl xs) (S1.set l .dead)
    | _ => .ok d S1
  | _ => .ok d S1
def dFrz (f : Sl → Sto → Res D) : Sl → Sto → Res D := fun sd S => (f sd S).bind fun d S1 => frzD S d S1
theorem frz_post {cl : Cl} {K : PySem.W.Frag} {m m1 : List Addr} {S S1 : Sto} {H H1 : Hp} {E : XK} {Q : VK} {d : D} {v : V} (rs : RS cl K m S H) (h : Post cl K (RV K) m H E Q (frzD S d S1)) (x1 : Ext m m1) (k1 : Keep H H1) (rs1 : RS cl K m1 S1 H1) (rv : RV K m1 H1 d v) :
    Q v H1 ∨ ∃ a u, v = .ref a ∧ H1 a = some u ∧ Mut (some u) ∧ ∀ od, Q v (upd H1 a (.frz od u)) := by
  unfold frzD at h
  split at h
  · rename_i l
    split at h
    · rename_i xs e1
      obtain ⟨a, hm, vs, hv, r1⟩ := rs1.adr e1
      obtain ⟨a', hm', rfl⟩ := rv
      rw [hm] at hm'; cases hm'
      refine .inr ⟨a, .lst vs, rfl, hv, trivial, fun od => ?_⟩
      have kp : Keep H1 (upd H1 a (.frz od (.lst vs))) := rs1.keepPut e1 hm
      have rs2 : RS cl K m1 (S1.set l .dead) (upd H1 a (.frz od (.lst vs))) := rs1.put e1 hm ⟨od, vs, upd_same⟩
      have r2 := r1.mono (Ext.refl m1) kp
      split at h
      · rename_i hc
        obtain ⟨c1, c2, c3⟩ := hc
        obtain ⟨h3, h4⟩ := cutOk_below rs c2
        have et : (S1.set l .dead).take S.length = S1.take S.length := by
          apply List.ext_getElem?
          intro i
          rw [List.getElem?_take, List.getElem?_take]
          split
          · rw [List.getElem?_set_ne (by omega)]
          · rfl
        have rs3 := rs2.cut (n := S.length) (by simp; exact h3) (fun i o hi ho => by
          rw [List.getElem?_set_ne (by omega)] at ho
          exact h4 i o hi ho)
        rw [et] at rs3
        exact h _ _ _ (Ext.cut rs x1) (k1.trans kp) rs3 ⟨a, vs, rfl, .inl ⟨od, upd_same⟩, RVs.cut xs r2 c3⟩
      · exact h m1 _ _ x1 (k1.trans kp) rs2 ⟨a, vs, rfl, .inl ⟨od, upd_same⟩, r2⟩
    · exact .inl (h m1 v H1 x1 k1 rs1 rv)
  · exact .inl (h m1 v H1 x1 k1 rs1 rv)
theorem de_frz {cl : Cl} {X : Cx} {E : XK} {e : Expr} {f} (h : DE cl X E e f) : DE cl X E e (dFrz f) := by
  obtain ⟨t, p, he⟩ := h
  refine ⟨_, pe_frz p, fun m S H sd σ Q rs rl h => ?_⟩
  refine he m S H sd σ _ rs rl ?_
  unfold dFrz at h
  cases hr : f sd S with
  | ok d S1 => rw [hr] at h; exact fun m1 v H1 x1 k1 rs1 rv => frz_post rs h x1 k1 rs1 rv
  | exc x S1 => rw [hr] at h; exact h
  | stuck => rw [hr] at h; exact h
theorem ps_frz {X : Cx} {st : Stmt} {t : TS} (p : PS X st t) : PS X st (fun D σ H => t { D with nx := fun σ' H' => D.nx σ' H' ∨ ∃ a u, H' a = some u ∧ Mut (some u) ∧ ∀ od, D.nx σ' (upd H' a (.frz od u)) } σ H) := by
  refine ⟨fun pins s σ H D I h => ?_⟩
  refine thn (p.run pins s σ H _ I h) fun f s1 q => ?_
  cases f with
  | next =>
    obtain ⟨σ', H', I', q⟩ := q
    rcases q with q | ⟨a, u, ha, mu, q⟩
    · exact ⟨σ', H', I', q⟩
    · obtain ⟨od, I2⟩ := I'.lock ha mu
      exact ⟨σ', _, I2, q od⟩
  | _ => exact q
section
variable {cl : Cl} {X : Cx} {E : XK} {elt tg iter : Expr} {ifs : List Expr} {scope : Scope} {own : List (Str × Nat)} {pos : Pos} {fi : Sl → Sto → Res ItD} {ga : D → Sl → Sto → Res Sl} {ft : Sl → Sto → Res Bool} {fe : Sl → Sto → Res D}
theorem ds_compF {i : Nat} {y : Str} {py spos : Pos} (hc : X.calm = true) (hN : X.N.Nodup) (hy : X.N[i]? = some y) (hyl : X.env.scope.names.lookup y = some .local)
    (hsw : swapsWith (.ListComp elt [⟨tg, iter, ifs, 0⟩] scope pos) (some (.Name y py)) spos.line X.env = pure true) (hi : DI cl X E tg iter fi) (ok : BlkOk X.N X.env.scope scope own)
    (hg : ∀ (s : Shared) (H : Hp) (C : Addr) (c : List (Str × Addr)) (fp : List Addr), DGw cl (X.blk s H scope (compEnvC scope c C X.env) fp) E0 (own.map (·.2)) tg ga)
    (ht : ∀ (s : Shared) (H : Hp) (C : Addr) (c : List (Str × Addr)) (fp : List Addr), DTs cl (X.blk s H scope (compEnvC scope c C X.env) fp) E0 ifs ft)
    (he : ∀ (s : Shared) (H : Hp) (C : Addr) (c : List (Str × Addr)) (fp : List Addr), DE cl (X.blk s H scope (compEnvC scope c C X.env) fp) E0 elt fe)
    (hs : ∀ x, foldedSetIterable iter X.env x = pure x := by intro _; rfl) :
    DS cl X E (.Assign [.Name y py] (.ListComp elt [⟨tg, iter, ifs, 0⟩] scope pos) spos) (sAsg (dFrz (dComp (own.map (·.2)) fi ga ft fe)) (gVar i)) := by
  obtain ⟨wi, pi, hi⟩ := hi
  refine ⟨_, ps_frz (t := tAsg (tLc wi (fun v σ H Q => ∃ m S sd d, RS cl X.K m S H ∧ RSl X.K m H sd σ ∧ RV X.K m H d v ∧ Post cl X.K (RSl X.K) m H E0 (fun σ2 H2 => wipe σ2 (own.map (·.2)) = wipe σ (own.map (·.2)) → Q σ2 H2) (ga d sd S))
      (fun σ H Q => ∃ m S sd, RS cl X.K m S H ∧ RSl X.K m H sd σ ∧ Post cl X.K RBool m H E0 Q (ft sd S))
      (fun σ H Q => ∃ m S sd, RS cl X.K m S H ∧ RSl X.K m H sd σ ∧ Post cl X.K (RV X.K) m H E0 Q (fe sd S)) (own.map (·.2))) (gName i)) (ps_setLc hc hN hy hyl hsw pi ok (fun s H C c fp => ?_) (fun s H C c fp => ?_) (fun s H C c fp => ?_) hs), ?_⟩
  · obtain ⟨g, pg, og, hg⟩ := hg s H C c fp
    exact ⟨fun pins s σ H v u Q I r ⟨m, S, sd, d, rs, rl, rv, h⟩ => pg.run pins s σ H v u Q I r (og.mono _ _ _ _ _ (fun σ2 H2 z => z.2 z.1) (og.own _ _ _ _ (hg m S H sd σ d v _ rs rl rv h)))⟩
  · obtain ⟨t, p, ht⟩ := ht s H C c fp
    exact ⟨fun pins s σ H Q I ⟨m, S, sd, rs, rl, h⟩ => p.run pins s σ H Q I (ht m S H sd σ Q rs rl h)⟩
  · obtain ⟨t, p, he⟩ := he s H C c fp
    exact ⟨fun pins s σ H Q I ⟨m, S, sd, rs, rl, h⟩ => p.run pins s σ H Q I (he m S H sd σ Q rs rl h)⟩
  · intro m S H sd σ D rs rl h
    have key : Post cl X.K (RV X.K) m H E (fun v H1 => (fun σ' H' => D.nx σ' H' ∨ ∃ a u, H' a = some u ∧ Mut (some u) ∧ ∀ od, D.nx σ' (upd H' a (.frz od u))) (σ.set i (some v)) H1) (dComp (own.map (·.2)) fi ga ft fe sd S) := by
      unfold sAsg dFrz at h
      cases hr : dComp (own.map (·.2)) fi ga ft fe sd S with
      | stuck => rw [hr] at h; exact h
      | exc x S1 => rw [hr] at h; exact h
      | ok d S1 =>
        rw [hr] at h
        intro m1 v H1 x1 k1 rs1 rv
        have h2 : Post cl X.K (RV X.K) m H E (fun v H1 => D.nx (σ.set i (some v)) H1) (frzD S d S1) := by
          have h' : Post cl X.K (RFl X.K) m H E (endQ D) ((frzD S d S1).bind fun d S1 => .ok (.nx (sd.set i (some d))) S1) := h
          cases hf : frzD S d S1 with
          | stuck => rw [hf] at h'; exact h'
          | exc x S2 => rw [hf] at h'; exact h'
          | ok d2 S2 =>
            rw [hf] at h'
            intro m2 v2 H2 x2 k2 rs2 rv2
            exact h' m2 (.nx (σ.set i (some v2))) H2 x2 k2 rs2 ((rl.mono x2 k2).set i rv2)
        rcases frz_post rs h2 x1 k1 rs1 rv with z | ⟨a, u, e, ha, mu, z⟩
        · exact .inl z
        · exact .inr ⟨a, u, ha, mu, z⟩
    exact comp_core X rfl hi ⟨fun v σ H Q Q' hq ⟨m, S, sd, d, rs, rl, rv, h⟩ => ⟨m, S, sd, d, rs, rl, rv, h.imp fun σ2 H2 z w => hq _ _ (z w)⟩, fun v σ H Q ⟨m, S, sd, d, rs, rl, rv, h⟩ => ⟨m, S, sd, d, rs, rl, rv, h.imp fun σ2 H2 z w => ⟨w, z w⟩⟩⟩
      (fun m S H sd σ d v Q rs rl rv h => ⟨m, S, sd, d, rs, rl, rv, Post.imp (Q' := fun σ2 H2 => wipe σ2 (own.map (·.2)) = wipe σ (own.map (·.2)) → Q σ2 H2) (fun σ2 H2 z _ => z) h⟩) (fun m S H sd σ Q rs rl h => ⟨m, S, sd, rs, rl, h⟩) (fun m S H sd σ Q rs rl h => ⟨m, S, sd, rs, rl, h⟩) m S H sd σ _ rs rl key
end
end DL

namespace DL
open PySem PySem.Spec PyProof.Rows L2
section
variable {cl : Cl} {K : PySem.W.Frag} {m : List Addr} {S : Sto} {H : Hp} {ds : List D} {vs : List V} {p : Addr} {E : XK} {Q : VK}
theorem newFrl (rs : RS cl K m S H) (r : RVs K m H ds vs) (hp : H p = none) (h : Post cl K (RV K) m H E Q (.ok (.frl ds) S)) :
    Q (.ref p) (upd H p (.lst vs)) ∨ ∃ a u, V.ref p = .ref a ∧ (upd H p (.lst vs)) a = some u ∧ Mut (some u) ∧ ∀ od, Q (.ref p) (upd (upd H p (.lst vs)) a (.frz od u)) :=
  .inr ⟨p, .lst vs, rfl, upd_same, trivial, fun od => by
    rw [upd_upd]
    exact h m _ _ (Ext.refl m) (Keep.new hp) (rs.ext hp) ⟨p, vs, rfl, .inl ⟨od, upd_same⟩, r.mono (Ext.refl m) (Keep.new hp)⟩⟩
end
def dLstF (f : Sl → Sto → Res (List D)) : Sl → Sto → Res D := fun sd S => (f sd S).bind fun ds S1 => if ds.length ≤ sizeLine then .ok (.frl ds) S1 else .stuck
theorem opr_frz {X : Cx} {f : Value → Value → Sem Value} {r : R2} (h : OpR X f r) : OpR X f (fun x y H Q => r x y H fun v H1 => Q v H1 ∨ ∃ a u, v = .ref a ∧ H1 a = some u ∧ Mut (some u) ∧ ∀ od, Q v (upd H1 a (.frz od u))) := by
  intro pins s σ H x y v u Q I rx ry hh
  refine thn (h pins s σ H x y v u _ I rx ry hh) fun u s1 ⟨v, H1, I1, r1, q1⟩ => ?_
  rcases q1 with q | ⟨a, w, rfl, ha, mu, q⟩
  · exact ⟨v, H1, I1, r1, q⟩
  · obtain ⟨od, I2⟩ := I1.lock ha mu
    exact ⟨.ref a, _, I2, r1, q od⟩
theorem callr_frz {X : Cx} {f : Value} {r} (h : CallR X f r) : CallR X f (fun xs H Q => r xs H fun v H1 => Q v H1 ∨ ∃ a u, v = .ref a ∧ H1 a = some u ∧ Mut (some u) ∧ ∀ od, Q v (upd H1 a (.frz od u))) := by
  intro pins s σ H xs us Q I rx hh
  refine thn (h pins s σ H xs us _ I rx hh) fun u s1 ⟨v, H1, I1, r1, q1⟩ => ?_
  rcases q1 with q | ⟨a, w, rfl, ha, mu, q⟩
  · exact ⟨v, H1, I1, r1, q⟩
  · obtain ⟨od, I2⟩ := I1.lock ha mu
    exact ⟨.ref a, _, I2, r1, q od⟩
def addF : D → D → Sto → Res D
  | .int a, .int b, S => .ok (.int (a + b)) S
  | .str a, .str b, S => if a.length + b.length ≤ sizeLine then .ok (.str (a ++ b)) S else .stuck
  | .tup a, .tup b, S => if a.length + b.length ≤ sizeLine then .ok (.tup (a ++ b)) S else .stuck
  | a, b, S => match lsD a S, lsD b S with
    | some x, some y => if x.length + y.length ≤ sizeLine then .ok (.frl (x ++ y)) S else .stuck
    | _, _ => .stuck
def sliceF (x : D) (lo hi : Option Int) (S : Sto) : Res D := match x with
  | .tup ds => .ok (.tup (cutL ds lo hi)) S
  | .str z => if z.length ≤ sizeLine then .ok (.str (cutS z lo hi)) S else .stuck
  | x => match lsD x S with
    | some ds => .ok (.frl (cutL ds lo hi)) S
    | _ => .stuck
def dSliceF (f : Sl → Sto → Res D) (g h : Sl → Sto → Res (Option Int)) : Sl → Sto → Res D := fun sd S => (f sd S).bind fun x S1 => (g sd S1).bind fun lo S2 => (h sd S2).bind fun hi S3 => sliceF x lo hi S3
def listF : List D → Sto → Res D
  | [d], S => match seqD d S with
    | some ds => .ok (.frl ds) S
    | none => .stuck
  | _, _ => .stuck
section
variable {cl : Cl} {X : Cx} {E : XK} {a b : Expr} {fa fb : Sl → Sto → Res D} {pos : Pos}
theorem zj {es : List Expr} {f pos} (h : DA cl X E es f) : DE cl X E (.List es pos) (dLstF f) := by
  obtain ⟨t, p, h⟩ := h
  refine ⟨_, pe_frz (pe_lst p), fun m S H sd σ Q rs rl hh => ?_⟩
  refine h m S H sd σ _ rs rl (Post.bind hh fun ds S1 m1 vs H1 x1 k1 rs1 rv1 h1 => ?_)
  split at h1
  · rename_i hz
    exact ⟨by rw [← rv1.length]; exact hz, fun p hp => newFrl rs1 rv1 hp h1⟩
  · exact h1.elim
theorem op_addF : OpD cl X (binaryOp .Add) addF := by
  refine ⟨_, opr_frz (((op_add.or op_add_str).or op_catA).or op_catS), fun E m S H x y vx vy Q rs rx ry h => ?_⟩
  unfold addF at h
  split at h
  · rename_i a b
    cases rx; cases ry
    exact .inl (.inl (.inl ⟨_, _, rfl, rfl, .inl (h.here rs rfl)⟩))
  · rename_i a b
    cases rx; cases ry
    split at h
    · rename_i hz
      exact .inl (.inl (.inr ⟨_, _, rfl, rfl, hz, .inl (h.here rs rfl)⟩))
    · exact h.elim
  · rename_i a b
    split at h
    · rename_i hz
      obtain ⟨p, vs, rfl, s1, r1⟩ := rx
      obtain ⟨q, ws, rfl, s2, r2⟩ := ry
      refine .inl (.inr ⟨p, q, vs, ws, rfl, rfl, s1, s2, by rw [← r1.length, ← r2.length]; exact hz, fun e => ?_, fun e1 e2 => ?_, fun e1 e2 p' hp => ?_⟩)
      · subst e
        have : a = [] := List.eq_nil_of_length_eq_zero r1.length
        subst this
        exact .inl (h.here rs ⟨q, ws, rfl, s2, r2⟩)
      · subst e2
        have : b = [] := List.eq_nil_of_length_eq_zero r2.length
        subst this
        exact .inl (h.here rs ⟨p, vs, rfl, s1, by rw [List.append_nil]; exact r1⟩)
      · obtain ⟨a1, b1⟩ := newTup rs (r1.append r2) hp
        exact .inl (h _ _ _ (Ext.refl m) (Keep.new hp) a1 b1)
    · exact h.elim
  · rename_i a b _ _ _
    split at h
    · rename_i x y e1 e2
      split at h
      · rename_i hz
        obtain ⟨p, vs, rfl, hv, r1⟩ := ls_rv rs rx e1
        obtain ⟨q, ws, rfl, hw, r2⟩ := ls_rv rs ry e2
        exact .inr ⟨p, q, vs, ws, rfl, rfl, hv, hw, by rw [← r1.length, ← r2.length]; exact hz, fun p' hp => newFrl rs (r1.append r2) hp h⟩
      · exact h.elim
    · exact h.elim
theorem de_sliceF {lo hi : Option Expr} {p2 : Pos} {fl fh} (ha : DE cl X E a fa) (hl : DPO cl X E lo fl) (hh : DPO cl X E hi fh) : DE cl X E (.Subscript a (.Slice lo hi none p2) pos) (dSliceF fa fl fh) := by
  obtain ⟨t, p, ha⟩ := ha
  obtain ⟨t1, p1, hl⟩ := hl
  obtain ⟨t2, p2', hh⟩ := hh
  refine ⟨_, pe_frz (pe_slice ((sl_list.or sl_tupA).or sl_str) p p1 p2'), fun m S H sd σ Q rs rl h => ?_⟩
  refine ha m S H sd σ _ rs rl (Post.bind h fun x S1 m1 vx H1 x1 k1 rs1 rx h1 => ?_)
  refine hl m1 S1 H1 sd σ _ rs1 (rl.mono x1 k1) (Post.bind h1 fun l S2 m2 vl H2 x2 k2 rs2 rll h2 => ?_)
  refine hh m2 S2 H2 sd σ _ rs2 (rl.mono (x1.trans x2) (k1.trans k2)) (Post.bind h2 fun u S3 m3 vu H3 x3 k3 rs3 ru h3 => ?_)
  cases rll; cases ru
  have rx3 := RV.mono (x2.trans x3) (k2.trans k3) x rx
  unfold sliceF at h3
  split at h3
  · obtain ⟨a, vs, rfl, s1, r1⟩ := rx3
    refine .inl (.inr ⟨a, vs, rfl, s1, fun e => ?_, fun e p' hp => ?_⟩)
    · rw [← r1.length] at e
      rw [sIx_whole e] at h3
      exact .inl (h3.here rs3 ⟨a, vs, rfl, s1, r1⟩)
    · obtain ⟨a1, b1⟩ := newTup rs3 (cut_rv r1 l u) hp
      exact .inl (h3 _ _ _ (Ext.refl _) (Keep.new hp) a1 b1)
  · cases rx3
    split at h3
    · rename_i hz
      exact .inr ⟨_, rfl, hz, .inl (h3.here rs3 rfl)⟩
    · exact h3.elim
  · split at h3
    · rename_i ds e1
      obtain ⟨a, vs, rfl, hv, r1⟩ := ls_rv rs3 rx3 e1
      exact .inl (.inl ⟨a, vs, rfl, hv, fun p' hp => newFrl rs3 (cut_rv r1 l u) hp h3⟩)
    · exact h3.elim
theorem cd_listF : CallD cl X (.type "list") listF := by
  refine ⟨_, callr_frz call_list_of, fun E m S H ds vs Q rs rv h => ?_⟩
  unfold listF at h
  split at h
  · rename_i d
    obtain ⟨v, rfl, r⟩ := rvs1 rv
    split at h
    · rename_i es e1
      obtain ⟨a, ws, rfl, hs, r1⟩ := seq_rv rs r e1
      exact ⟨a, ws, rfl, hs, fun l hl => newFrl rs r1 hl h⟩
    · exact h.elim
  · exact h.elim
end
end DL

namespace DL
open PySem PySem.Spec PyProof.Rows L2
section
variable {X : Cx} {pins : List (Addr × Obj)} {σ : L2.St} {H : Hp} {s : Shared}
def AtP (X : Cx) (pins : List (Addr × Obj)) (σ : L2.St) (H : Hp) (p : Addr) (kvs : List (Key × V)) (s : Shared) : Prop :=
  Inv X pins σ H s ∧ H p = none ∧ (p == sysModules) = false ∧ (X.s_0.heap.objs.size ≤ p ∧ (∀ x c, X.env.cells.lookup x = some c → c ≠ p) ∧ ∀ q ∈ X.pn ++ pins, q.1 ≠ p) ∧ ∃ o vs, KV kvs vs ∧ o.IsDictOf (mixKind X.prog X.w) vs ∧ Inv X ((p, o) :: pins) σ H s
theorem dispP {pos : Pos} {keys : List (Option Expr)} {values : List Expr} {trs : List (TE × TE)} (h : PPs X pos keys values trs) (hall : keys.all (·.isSome) = true) (hl : keys.length = values.length) (h0 : keys ≠ [])
    (h15 : keys.length ≤ 15) (I : Inv X pins σ H s) {Q : List (V × V) → Hp → Prop} (q : tPairs trs σ H Q) {R : Value → Shared → Prop}
    (hR : ∀ ps H2, Q ps H2 → ∃ kvs : List (Key × V), ps = kvs.map (fun kv => (kV kv.1, kv.2)) ∧ ∀ p s2, AtP X pins σ H2 p (mergeK [] kvs) s2 → R (.ref p) s2) :
    wpAny (model X.prog X.w) X.A (eval (.Dict keys values pos) X.env) R X.xe s := by
  have hn := I.hok.fresh (Nat.le_refl s.heap.objs.size)
  have hks : ∀ b u, s.heap.get? b = some u → (s.heap.push { cls := .type "dict", data := .dict #[] }).get? b = some u := fun _ _ q => Heap.get?_push_of_some _ q
  have I0 : Inv X pins σ H { s with heap := s.heap.push { cls := .type "dict", data := .dict #[] } } := I.kept (t' := s.toks) hks
  have hnew : (s.heap.push { cls := .type "dict", data := .dict #[] }).get? s.heap.objs.size = some { cls := .type "dict", data := .dict #[] } := Heap.get?_push_size _ rfl
  have hL : s.heap.objs.size ≠ X.env.locals := Nat.ne_of_gt I.lt
  have hC : ∀ x c, X.env.cells.lookup x = some c → c ≠ s.heap.objs.size := fun x c e => by
    obtain ⟨v, o, ho, _⟩ := I.cell x c e
    exact Nat.ne_of_lt (Heap.lt_size ho)
  have hP : ∀ p ∈ X.pn ++ pins, p.1 ≠ s.heap.objs.size := fun p hp => Nat.ne_of_lt (Heap.lt_size (I.pin p hp).1)
  have I1 : Inv X ((s.heap.objs.size, { cls := .type "dict", data := .dict #[] }) :: pins) σ H { s with heap := s.heap.push { cls := .type "dict", data := .dict #[] } } := I0.pins_of fun p hp => by
    rcases List.mem_cons.mp hp with rfl | hp
    · exact ⟨hnew, hn, hL, I.nofs (Nat.le_refl _), fun v e => by cases e⟩
    · exact I0.pin p (List.mem_append_right _ hp)
  have hbig : (s.heap.objs.size == sysModules) = false := by
    have h1 := I.big
    cases z : s.heap.objs.size == sysModules with
    | false => rfl
    | true => exact absurd (eq_of_beq z) (Nat.ne_of_gt h1)
  refine wpAny_Dict_walk (knd := mixKind X.prog X.w) hall hl h0 h15 (thn (h.run _ _ σ H Q I1 q) fun ws s2 ⟨ps, H2, I2, rel, q2⟩ => ?_)
  obtain ⟨e2, n2, _, f2, _⟩ := I2.pin _ (List.mem_append_right _ (List.mem_cons_self ..))
  have dd0 : s2.heap.DictOf (mixKind X.prog X.w) s.heap.objs.size [] := Heap.dictOf_iff.mpr ⟨_, e2, #[], 0, ⟨rfl, rfl, rfl⟩, rfl, fun _ he => by simp at he, .nil, List.nodup_nil⟩
  have I3 : Inv X pins σ H2 s2 := I2.pins_of fun p hp => I2.pin p (List.mem_append_right _ (List.mem_cons_of_mem _ hp))
  obtain ⟨kvs, e, fin⟩ := hR ps H2 q2
  subst e
  obtain ⟨rs, c, rk⟩ := carries_of (P := X.prog) (w := X.w) rel
  refine ⟨rs, c, dd0, fun h' dd' hs => fin _ _ ?_⟩
  have I4 : Inv X pins σ H2 { s2 with heap := h', toks := s2.toks + ws.length } := I3.turned (it := s.heap.objs.size) (fun b o nb e => (hs.2 b nb).trans e) n2 hL (.inr I.sz) hC hP
  obtain ⟨o, ho, hd⟩ := Heap.dictOf_iff.mp dd'
  refine ⟨I4, n2, hbig, ⟨I.sz, hC, hP⟩, o, _, rk.merge .nil, hd, I4.pins_of fun p hp => ?_⟩
  rcases List.mem_cons.mp hp with rfl | hp
  · refine ⟨ho, n2, hL, f2, fun v e => ?_⟩
    obtain ⟨es, ep, _, h2, _⟩ := hd
    rw [h2] at e; cases e
  · exact I4.pin p (List.mem_append_right _ hp)
def tDispP (trs : List (TE × TE)) : TE := fun σ H Q => tPairs trs σ H fun ps H2 => ∃ kvs : List (Key × V), ps = kvs.map (fun kv => (kV kv.1, kv.2)) ∧ kvs.length ≤ 15 ∧ ∀ p, H2 p = none → Q (.ref p) (upd H2 p (.dK (mergeK [] kvs)))
theorem pe_dispP {dpos : Pos} {keys : List (Option Expr)} {values : List Expr} {trs : List (TE × TE)} (h : PPs X dpos keys values trs) (hall : keys.all (·.isSome) = true) (hl : keys.length = values.length) (h0 : keys ≠ [])
    (h15 : keys.length ≤ 15) : PE X (.Dict keys values dpos) (tDispP trs) := by
  refine ⟨fun pins s σ H Q I q => dispP h hall hl h0 h15 I q fun ps H2 ⟨kvs, e1, l15, q1⟩ => ⟨kvs, e1, fun p s1 a => ?_⟩⟩
  obtain ⟨I1, n1, lo, ⟨hz, hC, hP⟩, o, vs, kv, hd, I2⟩ := a
  obtain ⟨ho, _, hL, hfs, _⟩ := I2.pin _ (List.mem_append_right _ (List.mem_cons_self ..))
  have hzl : (mergeK [] kvs).length ≤ sizeLine := by
    have h1 := length_mergeK kvs []
    rw [List.length_nil] at h1
    rw [sizeLine_eq]; omega
  refine ⟨.ref p, _, ?_, rfl, q1 p n1⟩
  have nit : ∀ b u, H2 b = some u → b ≠ p := fun b u e z => by rw [z, n1] at e; cases e
  refine I1.step (g' := s1.gens) (d' := s1.drawn) (t' := s1.toks) (h' := s1.heap) (H' := upd H2 p (.dK (mergeK [] kvs))) (ch := [p]) (fun b hb => ?_) (fun b o _ _ hc e _ => e) (fun b o _ _ hc e _ => ⟨o.slots, e⟩) (fun b o hc e n => ?_)
    (fun b o hc e => ⟨o, e⟩) (fun b xs e => ?_) (fun b o u e => ?_) (fun b ps e => ⟨#[], ?_⟩) (fun m hm => hm) (fun b u e => ?_) I1.bare
  · have e : b = p := by simpa using hb
    subst e
    exact ⟨.inr hz, hL, hC, hP⟩
  · rw [upd_ne (fun z => hc (by simp [z]))]; exact n
  · rw [upd_ne (nit _ _ e)]; exact e
  · rw [upd_ne (nit _ _ e)]; exact e
  · rw [upd_ne (nit _ _ e), e]; simp
  · by_cases z : b = p
    · subst z
      rw [upd_same] at e; cases e
      exact ⟨hzl, lo, _, kv, Heap.dictOf_iff.mpr ⟨o, ho, hd⟩⟩
    · rw [upd_ne z] at e
      refine (I1.hok b u e).stay (fun c v hc q => q) (fun _ q => ?_) fun _ _ q => ?_
      · rw [upd_ne (nit _ _ q)]; exact q
      · rw [upd_ne (nit _ _ q)]; exact q
end
theorem key0_rv {K : PySem.W.Frag} {m : List Addr} {H : Hp} {d : D} {v : V} {k : Key} (h : key0 d = some k) (r : RV K m H d v) : v = kV k := by
  cases d <;> simp only [key0] at h <;> cases h <;> exact r
theorem key0_eq {a b : D} {j k : Key} (ha : key0 a = some j) (hb : key0 b = some k) : a = b ↔ j = k := by
  constructor
  · intro e; subst e; rw [ha] at hb; cases hb; rfl
  · intro e; subst e
    cases a <;> simp only [key0] at ha <;> cases ha <;> cases b <;> simp only [key0] at hb <;> cases hb <;> rfl
def RVp (K : PySem.W.Frag) (m : List Addr) (H : Hp) : List (D × D) → List (V × V) → Prop
  | [], vs => vs = []
  | p :: ps, vs => ∃ a b vs', vs = (a, b) :: vs' ∧ RV K m H p.1 a ∧ RV K m H p.2 b ∧ RVp K m H ps vs'
def RVo (K : PySem.W.Frag) (m : List Addr) (H : Hp) : Option D → Option V → Prop
  | none, o => o = none
  | some d, o => ∃ v, o = some v ∧ RV K m H d v
def keysOk (ps : List (D × D)) : Bool := ps.all fun p => (key0 p.1).isSome
def dgl (y : D) : List (D × D) → Option D → Option D
  | [], acc => acc
  | p :: r, acc => dgl y r (if p.1 = y then some p.2 else acc)
def putD (kvs : List (D × D)) (k v : D) : List (D × D) := if kvs.any (fun p => decide (p.1 = k)) then kvs.map fun p => if p.1 = k then (p.1, v) else p else kvs ++ [(k, v)]
def mergeD (kvs more : List (D × D)) : List (D × D) := more.foldl (fun acc p => putD acc p.1 p.2) kvs
def getK (kvs : List (D × D)) (k : D) : Option D := (kvs.find? fun p => decide (p.1 = k)).map (·.2)
section
variable {K : PySem.W.Frag} {m m' : List Addr} {H H' : Hp}
theorem RVp.mono (x : Ext m m') (k : Keep H H') : ∀ {ps : List (D × D)} {vs : List (V × V)}, RVp K m H ps vs → RVp K m' H' ps vs
  | [], _, h => h
  | _ :: _, _, ⟨a, b, vs', e, r1, r2, t⟩ => ⟨a, b, vs', e, RV.mono x k _ r1, RV.mono x k _ r2, RVp.mono x k t⟩
theorem RVp.keys : ∀ {ps : List (D × D)} {vs : List (V × V)}, RVp K m H ps vs → keysOk ps = true → ∃ kvs : List (Key × V), vs = kvs.map (fun kv => (kV kv.1, kv.2)) ∧ RD0 K m H ps kvs ∧ kvs.length = ps.length
  | [], _, h, _ => by cases h; exact ⟨[], rfl, rfl, rfl⟩
  | p :: ps, _, ⟨a, b, vs', e, r1, r2, t⟩, h => by
    unfold keysOk at h
    rw [List.all_cons, Bool.and_eq_true] at h
    obtain ⟨kvs, e1, r, l⟩ := RVp.keys t h.2
    obtain ⟨k, hk⟩ := Option.isSome_iff_exists.mp h.1
    have := key0_rv hk r1
    subst this e e1
    exact ⟨(k, b) :: kvs, rfl, ⟨k, b, kvs, rfl, hk, r2, r⟩, by simp [l]⟩
theorem RD0.any : ∀ {ps : List (D × D)} {gs : List (Key × V)} {d : D} {k : Key}, RD0 K m H ps gs → key0 d = some k → (ps.any fun p => decide (p.1 = d)) = gs.any fun kv => decide (kv.1 = k)
  | [], _, _, _, h, _ => by cases h; rfl
  | p :: ps, _, d, k, ⟨j, v, gs', e, hj, r, t⟩, hk => by
    subst e
    rw [List.any_cons, List.any_cons, RD0.any t hk]
    congr 1
    exact decide_eq_decide.mpr (key0_eq hj hk)
theorem RD0.repl {d x : D} {k : Key} {v : V} (hk : key0 d = some k) (rx : RV K m H x v) : ∀ {ps : List (D × D)} {gs : List (Key × V)}, RD0 K m H ps gs → RD0 K m H (ps.map fun p => if p.1 = d then (p.1, x) else p) (gs.map fun kv => if kv.1 = k then (kv.1, v) else kv)
  | [], _, h => by cases h; exact rfl
  | p :: ps, _, ⟨j, u, gs', e, hj, r, t⟩ => by
    subst e
    rw [List.map_cons, List.map_cons]
    by_cases z : p.1 = d
    · rw [if_pos z, if_pos ((key0_eq hj hk).mp z)]
      exact ⟨j, v, _, rfl, hj, rx, RD0.repl hk rx t⟩
    · rw [if_neg z, if_neg (fun q => z ((key0_eq hj hk).mpr q))]
      exact ⟨j, u, _, rfl, hj, r, RD0.repl hk rx t⟩
theorem RD0.snoc {d x : D} {k : Key} {v : V} (hk : key0 d = some k) (rx : RV K m H x v) : ∀ {ps : List (D × D)} {gs : List (Key × V)}, RD0 K m H ps gs → RD0 K m H (ps ++ [(d, x)]) (gs ++ [(k, v)])
  | [], _, h => by cases h; exact ⟨k, v, [], rfl, hk, rx, rfl⟩
  | p :: ps, _, ⟨j, u, gs', e, hj, r, t⟩ => by subst e; exact ⟨j, u, _, rfl, hj, r, RD0.snoc hk rx t⟩
theorem RD0.put {d x : D} {k : Key} {v : V} {ps : List (D × D)} {gs : List (Key × V)} (r : RD0 K m H ps gs) (hk : key0 d = some k) (rx : RV K m H x v) : RD0 K m H (putD ps d x) (putK gs k v) := by
  unfold putD putK
  rw [RD0.any r hk]
  split
  · exact RD0.repl hk rx r
  · exact RD0.snoc hk rx r
theorem RD0.len : ∀ {ps : List (D × D)} {gs : List (Key × V)}, RD0 K m H ps gs → gs.length = ps.length
  | [], _, h => by cases h; rfl
  | p :: ps, _, ⟨j, u, gs', e, hj, r, t⟩ => by subst e; simp [RD0.len t]
theorem RD0.merge : ∀ {more : List (D × D)} {ms : List (Key × V)} {ps : List (D × D)} {gs : List (Key × V)}, RD0 K m H more ms → RD0 K m H ps gs → RD0 K m H (mergeD ps more) (mergeK gs ms)
  | [], _, _, _, h, r => by cases h; exact r
  | p :: more, _, _, _, ⟨j, u, gs', e, hj, r1, t⟩, r => by
    subst e
    show RD0 K m H (mergeD (putD _ p.1 p.2) more) (mergeK (putK _ j u) gs')
    exact RD0.merge t (r.put hj r1)
theorem RD0.get : ∀ {ps : List (D × D)} {gs : List (Key × V)} {d : D} {k : Key}, RD0 K m H ps gs → key0 d = some k → RVo K m H (getK ps d) (valV gs k)
  | [], _, _, _, h, _ => by cases h; exact rfl
  | p :: ps, _, d, k, ⟨j, v, gs', e, hj, r, t⟩, hk => by
    subst e
    by_cases z : p.1 = d
    · rw [valV_pos ((key0_eq hj hk).mp z)]
      simp only [getK, List.find?_cons, z, decide_true, Option.map_some]
      exact ⟨v, rfl, r⟩
    · rw [valV_neg (fun q => z ((key0_eq hj hk).mpr q))]
      have := RD0.get t hk
      simp only [getK, List.find?_cons, z, decide_false] at this ⊢
      exact this
theorem RD0.dgl {d : D} {k : Key} (hk : key0 d = some k) : ∀ {ps : List (D × D)} {gs : List (Key × V)} {o : Option D} {u : Option V}, RD0 K m H ps gs → RVo K m H o u → RVo K m H (DL.dgl d ps o) (gs.foldl (fun acc kv => if kv.1 = k then some kv.2 else acc) u)
  | [], _, _, _, h, r => by cases h; exact r
  | p :: ps, _, o, u, ⟨j, v, gs', e, hj, r1, t⟩, r => by
    subst e
    show RVo K m H (DL.dgl d ps (if p.1 = d then some p.2 else o)) _
    rw [List.foldl_cons]
    refine RD0.dgl hk t ?_
    by_cases z : p.1 = d
    · rw [if_pos z, if_pos ((key0_eq hj hk).mp z)]
      exact ⟨v, rfl, r1⟩
    · rw [if_neg z, if_neg (fun q => z ((key0_eq hj hk).mpr q))]
      exact r
theorem RVo.mono (x : Ext m m') (k : Keep H H') : ∀ {o : Option D} {u : Option V}, RVo K m H o u → RVo K m' H' o u
  | none, _, h => h
  | some _, _, ⟨v, e, r⟩ => ⟨v, e, RV.mono x k _ r⟩
theorem RVo.getD {d : D} {v : V} (r : RV K m H d v) : ∀ {o : Option D} {u : Option V}, RVo K m H o u → RV K m H (o.getD d) (u.getD v)
  | none, _, h => by cases h; exact r
  | some _, _, ⟨v, e, q⟩ => by subst e; exact q
theorem RVo.isSome : ∀ {o : Option D} {u : Option V}, RVo K m H o u → o.isSome = u.isSome
  | none, _, h => by cases h; rfl
  | some _, _, ⟨v, e, q⟩ => by subst e; rfl
end
def DP (cl : Cl) (X : Cx) (E : XK) (pos : Pos) (ks : List (Option Expr)) (vs : List Expr) (f : Sl → Sto → Res (List (D × D))) : Prop :=
  ∃ t, PPs X pos ks vs t ∧ ∀ m S H sd σ Q, RS cl X.K m S H → RSl X.K m H sd σ → Post cl X.K (RVp X.K) m H E Q (f sd S) → tPairs t σ H Q
def pNil : Sl → Sto → Res (List (D × D)) := fun _ S => .ok [] S
def pCons (fk fv : Sl → Sto → Res D) (g : Sl → Sto → Res (List (D × D))) : Sl → Sto → Res (List (D × D)) := fun sd S =>
  (fk sd S).bind fun k S1 => (fv sd S1).bind fun v S2 => (g sd S2).bind fun ds S3 => .ok ((k, v) :: ds) S3
section
variable {cl : Cl} {X : Cx} {E : XK} {dpos apos cpos pos : Pos} {o e f : Expr} {fo fe ff : Sl → Sto → Res D} {fp : Sl → Sto → Res (List (D × D))} {keys : List (Option Expr)} {values : List Expr}
theorem dp_nil : DP cl X E pos [] [] pNil := ⟨_, pps_nil, fun m S H sd σ Q rs rl h => h.here rs rfl⟩
theorem dp_cons (he : DE cl X E e fe) (hf : DE cl X E f ff) (hr : DP cl X E pos keys values fp) : DP cl X E pos (some e :: keys) (f :: values) (pCons fe ff fp) := by
  obtain ⟨t, p, he⟩ := he
  obtain ⟨u, q, hf⟩ := hf
  obtain ⟨r, q2, hr⟩ := hr
  refine ⟨_, pps_cons p q q2, fun m S H sd σ Q rs rl h => ?_⟩
  refine he m S H sd σ _ rs rl (Post.bind h fun d S1 m1 v H1 x1 k1 rs1 rv1 h1 => ?_)
  refine hf m1 S1 H1 sd σ _ rs1 (rl.mono x1 k1) (Post.bind h1 fun d2 S2 m2 v2 H2 x2 k2 rs2 rv2 h2 => ?_)
  refine hr m2 S2 H2 sd σ _ rs2 ((rl.mono x1 k1).mono x2 k2) (Post.bind h2 fun ds S3 m3 vs H3 x3 k3 rs3 rv3 h3 => ?_)
  exact h3.here rs3 ⟨v, v2, vs, rfl, RV.mono (x2.trans x3) (k2.trans k3) d rv1, RV.mono x3 k3 d2 rv2, rv3⟩
def dDispGet (fp : Sl → Sto → Res (List (D × D))) (fe ff : Sl → Sto → Res D) : Sl → Sto → Res D := fun sd S => (fp sd S).bind fun ps S1 => match keysOk ps with
  | false => .stuck
  | true => (fe sd S1).bind fun y S2 => match (key0 y).isSome with
    | false => .stuck
    | true => (ff sd S2).bind fun z S3 => .ok ((dgl y ps none).getD z) S3
def dDisp (fp : Sl → Sto → Res (List (D × D))) : Sl → Sto → Res D := fun sd S => (fp sd S).bind fun ps S1 => match keysOk ps && decide (ps.length ≤ 15) with
  | false => .stuck
  | true => .ok (.ref S1.length) (S1 ++ [.dic 0 (mergeD [] ps)])
theorem newDic {m : List Addr} {S : Sto} {H : Hp} {ds : List (D × D)} {vs : List (Key × V)} {p : Addr} {K : PySem.W.Frag} (rs : RS cl K m S H) (r : RD0 K m H ds vs) (hp : H p = none) :
    RS cl K (m ++ [p]) (S ++ [.dic 0 ds]) (upd H p (.dK vs)) ∧ RV K (m ++ [p]) (upd H p (.dK vs)) (.ref S.length) (.ref p) :=
  ⟨rs.new hp ⟨vs, upd_same, r.mono (Ext.snoc m p) (Keep.new hp)⟩, p, by rw [← rs.len]; simp, rfl⟩
theorem de_disp (hp : DP cl X E dpos keys values fp) (hall : keys.all (·.isSome) = true := by rfl) (hl : keys.length = values.length := by rfl) (h0 : keys ≠ [] := by nofun)
    (h15 : keys.length ≤ 15 := by decide) : DE cl X E (.Dict keys values dpos) (dDisp fp) := by
  obtain ⟨t, p, hp⟩ := hp
  refine ⟨_, pe_dispP p hall hl h0 h15, fun m S H sd σ Q rs rl h => ?_⟩
  refine hp m S H sd σ _ rs rl (Post.bind h fun ps S1 m1 vs H1 x1 k1 rs1 rv1 h1 => ?_)
  split at h1
  · exact h1.elim
  · rename_i hk
    rw [Bool.and_eq_true] at hk
    obtain ⟨kvs, e1, rd, ln⟩ := rv1.keys hk.1
    refine ⟨kvs, e1, by rw [ln]; exact of_decide_eq_true hk.2, fun p hp => ?_⟩
    obtain ⟨a, b⟩ := newDic rs1 (RD0.merge rd (ps := []) (gs := []) rfl) hp
    exact h1 _ _ _ (Ext.snoc m1 p) (Keep.new hp) a b
def dDisp0 : Sl → Sto → Res D := fun _ S => .ok (.ref S.length) (S ++ [.dic 0 []])
def dicD (d k : D) (S : Sto) : Option (Option D) := match d with
  | .ref l => match S[l]? with
    | some (.dic 0 kvs) => match (key0 k).isSome with
      | true => some (getK kvs k)
      | false => none
    | _ => none
  | _ => none
theorem dicD_rv {K : PySem.W.Frag} {m : List Addr} {S : Sto} {H : Hp} {d k : D} {v vk : V} {r : Option D} (rs : RS cl K m S H) (rv : RV K m H d v) (rk : RV K m H k vk) (h : dicD d k S = some r) :
    ∃ a u, v = .ref a ∧ DGet H a vk u ∧ IsD H a ∧ RVo K m H r u := by
  unfold dicD at h
  split at h
  · split at h
    · rename_i kvs e1
      split at h
      · rename_i hk
        cases h
        obtain ⟨j, hj⟩ := Option.isSome_iff_exists.mp hk
        obtain ⟨a, h1, gs, hv, r1⟩ := rs.adr e1
        obtain ⟨a', h2, rfl⟩ := rv
        rw [h1] at h2; cases h2
        have := key0_rv hj rk
        subst this
        exact ⟨a, _, rfl, DGet.k hv, .inl ⟨_, .inl hv⟩, RD0.get r1 hj⟩
      · cases h
    · cases h
  · cases h
def notInDic (k d : D) (S : Sto) : Res D := match dicD d k S with
  | some r => .ok (.bl (!r.isSome)) S
  | none => .stuck
def ixDic (d k : D) (S : Sto) : Res D := match dicD d k S with
  | some (some r) => .ok r S
  | _ => .stuck
theorem op_notInDic (hu : X.A.units + 65 < cLine) : OpD cl X (compareOp .NotIn) notInDic := by
  refine ⟨fun x y H Q => ∃ a u, y = .ref a ∧ DGet H a x u ∧ Q (.bl (!u.isSome)) H, fun pins s σ H x y v u Q I rx ry ⟨a, w, e, g, q⟩ => ?_, fun E m S H x y vx vy Q rs rx ry h => ?_⟩
  · subst e
    cases ry
    exact d_notIn (by omega) I g rx fun s' I' => ⟨.bl (!w.isSome), H, I', rfl, q⟩
  · unfold notInDic at h
    split at h
    · rename_i r e
      obtain ⟨a, u, e1, g, _, ro⟩ := dicD_rv rs ry rx e
      exact ⟨a, u, e1, g, by rw [← ro.isSome]; exact h.here rs rfl⟩
    · exact h.elim
theorem de_ixDic (hu : X.A.units + 1 < cLine) (ha : DE cl X E o fo) (hb : DE cl X E e fe) (hs : NoSl e := by intro _ _; rfl) : DE cl X E (.Subscript o e pos) (d2 ixDic fo fe) := by
  obtain ⟨t, p, ha⟩ := ha
  obtain ⟨u, q, hb⟩ := hb
  refine ⟨_, pe_dget hu p q hs, fun m S H sd σ Q rs rl h => ?_⟩
  refine ha m S H sd σ _ rs rl (Post.bind h fun x S1 m1 vx H1 x1 k1 rs1 rx h1 => ?_)
  refine hb m1 S1 H1 sd σ _ rs1 (rl.mono x1 k1) (Post.bind h1 fun y S2 m2 vy H2 x2 k2 rs2 ry h2 => ?_)
  unfold ixDic at h2
  split at h2
  · rename_i r e
    obtain ⟨a, u, e1, g, _, v, e2, rv⟩ := dicD_rv rs2 (RV.mono x2 k2 x rx) ry e
    subst e2
    exact ⟨a, v, e1, g, h2.here rs2 rv⟩
  · exact h2.elim
def dDget (fo fe ff : Sl → Sto → Res D) : Sl → Sto → Res D := fun sd S => (fo sd S).bind fun x S1 => match dicD x (.int 0) S1 with
  | none => .stuck
  | some _ => (fe sd S1).bind fun y S2 => (ff sd S2).bind fun z S3 => match dicD x y S3 with
    | some r => .ok (r.getD z) S3
    | none => .stuck
end
end DL

namespace DL
open PySem PySem.Spec PyProof.Rows L2
structure KDg (K : PySem.W.Frag) (w : World) (mg : Str → Option Value) (x : Str) (kvs : List (Str × D)) : Prop where
  g : mg x = some (.ref (He.ga K x))
  d : ∃ es n, KDict K w (He.ga K x) es n
  hit : ∀ z c, kvs.lookup z = some c → ∃ u v, PySem.W.nsIn K (He.ga K x) z = some (some u) ∧ RelV v u ∧ ∀ m H, RV K m H c v
  miss : ∀ z, kvs.lookup z = none → PySem.W.nsIn K (He.ga K x) z = some none
section
variable {cl : Cl} {X : Cx} {E : XK} {apos cpos pos : Pos} {o e f : Expr} {fe ff : Sl → Sto → Res D} {td ty tx : TE}
def kdGet (kvs : List (Str × D)) : D → Option (Option D)
  | .str z => some (kvs.lookup z)
  | .int _ => some none
  | _ => none
def dKget (kvs : List (Str × D)) (fe ff : Sl → Sto → Res D) : Sl → Sto → Res D := fun sd S => (fe sd S).bind fun y S1 => match kdGet kvs y with
  | some r => (ff sd S1).bind fun x S2 => .ok (r.getD x) S2
  | none => .stuck
end
end DL

namespace DL
open PySem PySem.Spec PyProof.Rows L2
def setDic (o i v : D) (S : Sto) : Res Unit := match o with
  | .ref l => match S[l]? with
    | some (.dic 0 kvs) => match (key0 i).isSome && decide (kvs.length < sizeLine) with
      | true => .ok () (S.set l (.dic 0 (putD kvs i v)))
      | false => .stuck
    | _ => .stuck
  | _ => .stuck
section
variable {cl : Cl} {X : Cx}
theorem set_dicD (hu : X.A.units + 65 < cLine) : SetD cl X setDic := by
  refine ⟨_, set_dict (by omega), fun E m S H o i v vo vi vv Q rs ro ri rv h => ?_⟩
  unfold setDic at h
  split at h
  · rename_i l
    split at h
    · rename_i kvs e1
      obtain ⟨a, h1, gs, hv, r1⟩ := rs.adr e1
      obtain ⟨a', h2, rfl⟩ := ro
      rw [h1] at h2; cases h2
      split at h
      · rename_i hk
        rw [Bool.and_eq_true] at hk
        obtain ⟨j, hj⟩ := Option.isSome_iff_exists.mp hk.1
        have hl : gs.length < sizeLine := by rw [RD0.len r1]; exact of_decide_eq_true hk.2
        have := key0_rv hj ri
        subst this
        have kp := rs.keepPut (u := .dK (putK gs j vv)) e1 h1
        refine ⟨a, _, rfl, DPut.k hv hl, h m () _ (Ext.refl _) kp (rs.put e1 h1 ⟨_, upd_same, (r1.put hj rv).mono (Ext.refl _) kp⟩) trivial⟩
      · exact h.elim
    · exact h.elim
  · exact h.elim
end
end DL

namespace DL
open PySem PySem.Spec PyProof.Rows L2
mutual
def NKey (K : PySem.W.Frag) (H : Hp) : NestedKey → V → Prop
  | .none, v => v = .non
  | .num i, v => v = .int i
  | .text x, v => v = .str x
  | .tup ks, v => ∃ a vs, v = .ref a ∧ SqT K H a vs ∧ NKeys K H ks vs
def NKeys (K : PySem.W.Frag) (H : Hp) : List NestedKey → List V → Prop
  | [], vs => vs = []
  | k :: ks, vs => ∃ v vs', vs = v :: vs' ∧ NKey K H k v ∧ NKeys K H ks vs'
end
section
variable {K : PySem.W.Frag} {m : List Addr} {H : Hp}
mutual
theorem nkey_rv : ∀ (d : D) {k : NestedKey} {v : V}, nkey d = some k → RV K m H d v → NKey K H k v
  | .non, _, _, h, r => by cases h; exact r
  | .int _, _, _, h, r => by cases h; exact r
  | .str _, _, _, h, r => by cases h; exact r
  | .tup ds, _, _, h, ⟨a, vs, e, s, r⟩ => by
    unfold nkey at h
    cases e2 : nkeys ds with
    | none => rw [e2] at h; cases h
    | some ks =>
      rw [e2] at h
      cases h
      exact ⟨a, vs, e, s, nkeys_rv ds e2 r⟩
  | .bl _, _, _, h, _ => by cases h
  | .frl _, _, _, h, _ => by cases h
  | .ref _, _, _, h, _ => by cases h
  | .exn _ _ _ _, _, _, h, _ => by cases h
theorem nkeys_rv : ∀ (ds : List D) {ks : List NestedKey} {vs : List V}, nkeys ds = some ks → RVs K m H ds vs → NKeys K H ks vs
  | [], _, _, h, r => by cases h; exact r
  | d :: ds, _, _, h, ⟨v, vs', e, r, t⟩ => by
    unfold nkeys at h
    cases e1 : nkey d with
    | none => rw [e1] at h; cases h
    | some k =>
      cases e2 : nkeys ds with
      | none => rw [e1, e2] at h; cases h
      | some ks =>
        rw [e1, e2] at h
        cases h
        exact ⟨v, vs', e, nkey_rv d e1 r, nkeys_rv ds e2 t⟩
end
mutual
theorem nkey_inj : ∀ (a b : D) {k : NestedKey}, nkey a = some k → nkey b = some k → a = b
  | .non, b, _, h, g => by
    cases h
    cases b <;> first | (cases g <;> rfl) | (unfold nkey at g; split at g <;> cases g)
  | .int i, b, _, h, g => by
    cases h
    cases b <;> first | (cases g <;> rfl) | (unfold nkey at g; split at g <;> cases g)
  | .str x, b, _, h, g => by
    cases h
    cases b <;> first | (cases g <;> rfl) | (unfold nkey at g; split at g <;> cases g)
  | .tup ds, b, k, h, g => by
    unfold nkey at h
    cases e2 : nkeys ds with
    | none => rw [e2] at h; cases h
    | some ks =>
      rw [e2] at h
      cases h
      cases b with
      | tup es =>
        unfold nkey at g
        cases e3 : nkeys es with
        | none => rw [e3] at g; cases g
        | some js =>
          rw [e3] at g
          cases g
          rw [nkeys_inj ds es e2 e3]
      | _ => cases g
  | .bl _, _, _, h, _ => by cases h
  | .frl _, _, _, h, _ => by cases h
  | .ref _, _, _, h, _ => by cases h
  | .exn _ _ _ _, _, _, h, _ => by cases h
theorem nkeys_inj : ∀ (as bs : List D) {ks : List NestedKey}, nkeys as = some ks → nkeys bs = some ks → as = bs
  | [], bs, _, h, g => by
    cases h
    cases bs with
    | nil => rfl
    | cons b bs =>
      unfold nkeys at g
      split at g <;> cases g
  | a :: as, bs, _, h, g => by
    unfold nkeys at h
    cases e1 : nkey a with
    | none => rw [e1] at h; cases h
    | some k =>
      cases e2 : nkeys as with
      | none => rw [e1, e2] at h; cases h
      | some ks =>
        rw [e1, e2] at h
        cases h
        cases bs with
        | nil => cases g
        | cons b bs =>
          unfold nkeys at g
          cases e3 : nkey b with
          | none => rw [e3] at g; cases g
          | some j =>
            cases e4 : nkeys bs with
            | none => rw [e3, e4] at g; cases g
            | some js =>
              rw [e3, e4] at g
              cases g
              rw [nkey_inj a b e1 e3, nkeys_inj as bs e2 e4]
end
end
section
variable {X : Cx} {pins : List (Addr × Obj)} {σ : L2.St} {H : Hp} {s : Shared}
mutual
theorem NKey.is (I : Inv X pins σ H s) : ∀ (k : NestedKey) {v : V} {u : Value}, NKey X.K H k v → RelV v u → NestedIs s.heap k u
  | .none, _, _, h, r => by cases h; cases r; exact .none
  | .num i, _, _, h, r => by cases h; obtain ⟨t, rfl⟩ := r; exact .int i t
  | .text x, _, _, h, r => by cases h; obtain ⟨t, rfl⟩ := r; exact .text x t
  | .tup ks, _, _, ⟨a, vs, e, sq, hk⟩, r => by
    subst e
    cases (show _ = Value.ref a from r)
    obtain ⟨its, rv, ⟨o, ho, hc, n, hd⟩, _⟩ := I.tuple sq
    exact .tup ho hc hd (by simpa using NKeys.is I ks hk rv)
theorem NKeys.is (I : Inv X pins σ H s) : ∀ (ks : List NestedKey) {vs : List V} {us : List Value}, NKeys X.K H ks vs → Vals vs us → NestedAll s.heap ks us
  | [], _, _, h, r => by cases h; cases r; exact .nil
  | k :: ks, _, _, ⟨v, vs', e, hk, t⟩, r => by
    subst e
    cases r with
    | cons r1 r2 => exact .cons (NKey.is I k hk r1) (NKeys.is I ks t r2)
end
def entN (X : Cx) (x : NestedKey × Addr × Value) : DictEntry := ⟨x.1.hash X.w, .ref x.2.1, x.2.2⟩
def NAt (X : Cx) (H : Hp) (a : Addr) (xs : List (NestedKey × Addr × Value)) : Prop :=
  ∃ es ep, H a = some (RawO a es ep) ∧ es.toList = xs.map (entN X) ∧ (xs.map (·.1)).Nodup ∧ (a == sysModules) = false ∧ ∀ x ∈ xs, NKey X.K H x.1 (.ref x.2.1) ∧ x.1.depth ≤ 8
theorem NAt.dict {a : Addr} {xs : List (NestedKey × Addr × Value)} (I : Inv X pins σ H s) (h : NAt X H a xs) : s.heap.DictOfH (nestedKind X.prog X.w) a xs := by
  obtain ⟨es, ep, e, he, hn, _, hk⟩ := h
  obtain ⟨⟨o, ho, hc, hd⟩, _, _⟩ := (show ObjOk X.prog X.w H s.heap a (RawO a es ep) from I.hok a _ e)
  exact ⟨o, es, ep, ho, hc, hd, he, fun x hx => ⟨NKey.is I _ (hk x hx).1 rfl, (hk x hx).2⟩, hn⟩
theorem NAt.sys {a : Addr} {xs : List (NestedKey × Addr × Value)} (h : NAt X H a xs) : (a == sysModules) = false := let ⟨_, _, _, _, _, hs, _⟩ := h; hs
theorem rawO_ok {P : Program} {w : World} {H' : Hp} {h' : Heap} {a : Addr} {o : Obj} {es : Array DictEntry} {ep : Nat} (ho : h'.get? a = some o) (hc : o.ExactDict) (hd : o.data = .dict es ep) : ObjOk P w H' h' a (RawO a es ep) :=
  ⟨⟨o, ho, hc, hd⟩, ⟨o, ho⟩, fun h1 h2 ⟨q, e1, e2, e3⟩ k => ⟨q, k q e1, e2, e3⟩⟩
end
def nokD : D → Bool
  | .tup ds => match nkey (.tup ds) with
    | some k => decide (k.depth ≤ 8)
    | none => false
  | _ => false
theorem nokD_key {d : D} (h : nokD d = true) : ∃ ds k, d = .tup ds ∧ nkey d = some k ∧ k.depth ≤ 8 := by
  unfold nokD at h
  split at h
  · rename_i ds
    split at h
    · rename_i k e
      exact ⟨ds, k, rfl, e, of_decide_eq_true h⟩
    · cases h
  · cases h
def dicN (d k : D) (S : Sto) : Option (Option D) := match d with
  | .ref l => match S[l]? with
    | some (.dic 2 kvs) => match nokD k with
      | true => some (getK kvs k)
      | false => none
    | _ => none
  | _ => none
def RVn (K : PySem.W.Frag) (m : List Addr) (H : Hp) : Option D → Option (Addr × Value) → Prop
  | none, o => o = none
  | some d, o => ∃ p v, o = some p ∧ RV K m H d v ∧ RelV v p.2
section
variable {K : PySem.W.Frag} {m : List Addr} {H : Hp}
theorem RD2.get {d : D} {k : NestedKey} (hk : nkey d = some k) : ∀ {ps : List (D × D)} {xs : List (NestedKey × Addr × Value)}, RD2 K m H ps xs → RVn K m H (getK ps d) (atKey xs k)
  | [], _, h => by cases h; exact rfl
  | p :: ps, _, ⟨j, b, v, u, xs', e, hj, hd, r1, r2, r3, t⟩ => by
    subst e
    have ih := RD2.get hk t
    by_cases z : p.1 = d
    · have zk : j = k := by rw [z] at hj; rw [hj] at hk; exact Option.some.inj hk
      simp only [getK, List.find?_cons, z, decide_true, Option.map_some, atKey, zk]
      exact ⟨(b, u), v, rfl, r2, r3⟩
    · have zk : ¬ j = k := fun q => z (nkey_inj _ _ hj (q ▸ hk))
      simp only [getK, List.find?_cons, z, decide_false, atKey, zk] at ih ⊢
      exact ih
theorem RD2.keys : ∀ {ps : List (D × D)} {xs : List (NestedKey × Addr × Value)}, RD2 K m H ps xs → ∀ x ∈ xs, NKey K H x.1 (.ref x.2.1) ∧ x.1.depth ≤ 8
  | [], _, h, x, hx => by cases h; cases hx
  | p :: ps, _, ⟨j, b, v, u, xs', e, hj, hd, r1, r2, r3, t⟩, x, hx => by
    subst e
    rcases List.mem_cons.mp hx with rfl | hx
    · exact ⟨nkey_rv _ hj r1, hd⟩
    · exact RD2.keys t x hx
theorem RD2.len : ∀ {ps : List (D × D)} {xs : List (NestedKey × Addr × Value)}, RD2 K m H ps xs → xs.length = ps.length
  | [], _, h => by cases h; rfl
  | p :: ps, _, ⟨j, b, v, u, xs', e, hj, hd, r1, r2, r3, t⟩ => by subst e; simp [RD2.len t]
theorem RD2.any {d : D} {k : NestedKey} (hk : nkey d = some k) : ∀ {ps : List (D × D)} {xs : List (NestedKey × Addr × Value)}, RD2 K m H ps xs → (ps.any fun p => decide (p.1 = d)) = (atKey xs k).isSome
  | [], _, h => by cases h; rfl
  | p :: ps, _, ⟨j, b, v, u, xs', e, hj, hd, r1, r2, r3, t⟩ => by
    subst e
    have ih := RD2.any hk t
    by_cases z : p.1 = d
    · have zk : j = k := by rw [z] at hj; rw [hj] at hk; exact Option.some.inj hk
      simp [z, atKey, zk]
    · have zk : ¬ j = k := fun q => z (nkey_inj _ _ hj (q ▸ hk))
      simp only [List.any_cons, z, decide_false, Bool.false_or, atKey, List.find?_cons, zk] at ih ⊢
      exact ih
theorem RD2.repl {d x : D} {k : NestedKey} {v : V} {u : Value} (hk : nkey d = some k) (rx : RV K m H x v) (ru : RelV v u) : ∀ {ps : List (D × D)} {xs : List (NestedKey × Addr × Value)}, RD2 K m H ps xs → RD2 K m H (ps.map fun p => if p.1 = d then (p.1, x) else p) (xs.map (putAt k u))
  | [], _, h => by cases h; exact rfl
  | p :: ps, _, ⟨j, b, w, u', xs', e, hj, hd, r1, r2, r3, t⟩ => by
    subst e
    by_cases z : p.1 = d
    · have zk : j = k := by rw [z] at hj; rw [hj] at hk; exact Option.some.inj hk
      simp only [List.map_cons, z, if_true, putAt, zk]
      exact ⟨k, b, v, u, _, rfl, hk, zk ▸ hd, z ▸ r1, rx, ru, RD2.repl hk rx ru t⟩
    · have zk : ¬ j = k := fun q => z (nkey_inj _ _ hj (q ▸ hk))
      simp only [List.map_cons, z, if_false, putAt, zk]
      exact ⟨j, b, w, u', _, rfl, hj, hd, r1, r2, r3, RD2.repl hk rx ru t⟩
theorem RD2.snoc {d x : D} {k : NestedKey} {b : Addr} {v : V} {u : Value} (hk : nkey d = some k) (hd : k.depth ≤ 8) (rd : RV K m H d (.ref b)) (rx : RV K m H x v) (ru : RelV v u) : ∀ {ps : List (D × D)} {xs : List (NestedKey × Addr × Value)}, RD2 K m H ps xs → RD2 K m H (ps ++ [(d, x)]) (xs ++ [(k, b, u)])
  | [], _, h => by cases h; exact ⟨k, b, v, u, [], rfl, hk, hd, rd, rx, ru, rfl⟩
  | p :: ps, _, ⟨j, c, w, u', xs', e, hj, hd', r1, r2, r3, t⟩ => by
    subst e
    exact ⟨j, c, w, u', _, rfl, hj, hd', r1, r2, r3, RD2.snoc hk hd rd rx ru t⟩
theorem RD2.put {d x : D} {k : NestedKey} {b : Addr} {v : V} {u : Value} {ps : List (D × D)} {xs : List (NestedKey × Addr × Value)} (r : RD2 K m H ps xs) (hk : nkey d = some k) (hd : k.depth ≤ 8) (rd : RV K m H d (.ref b)) (rx : RV K m H x v) (ru : RelV v u) : RD2 K m H (putD ps d x) (storedH xs k b u) := by
  unfold putD storedH
  rw [RD2.any hk r]
  split
  · exact RD2.repl hk rx ru r
  · exact RD2.snoc hk hd rd rx ru r
end
section
variable {cl : Cl} {X : Cx} {E : XK}
abbrev HashOk (cl : Cl) (X : Cx) : Prop := cl.hh = fun k => k.hash X.w
theorem dicN_rv {m : List Addr} {S : Sto} {H : Hp} {d k : D} {v vk : V} {r : Option D} (hc : HashOk cl X) (rs : RS cl X.K m S H) (rv : RV X.K m H d v) (rk : RV X.K m H k vk) (h : dicN d k S = some r) :
    ∃ a b xs q, v = .ref a ∧ vk = .ref b ∧ NAt X H a xs ∧ NKey X.K H q (.ref b) ∧ q.depth ≤ 8 ∧ RVn X.K m H r (atKey xs q) := by
  unfold dicN at h
  split at h
  · split at h
    · rename_i kvs e1
      split at h
      · rename_i hk
        cases h
        obtain ⟨ds, q, ek, hq, hd⟩ := nokD_key hk
        obtain ⟨a, h1, xs, es, ep, hv, he, hn, hs, r1⟩ := rs.adr e1
        obtain ⟨a', h2, rfl⟩ := rv
        rw [h1] at h2; cases h2
        have rk' := rk
        rw [ek] at rk'
        obtain ⟨b, vs, rfl, _⟩ := rk'
        refine ⟨a, b, xs, q, rfl, rfl, ⟨es, ep, hv, ?_, hn, hs, RD2.keys r1⟩, nkey_rv _ hq rk, hd, RD2.get hq r1⟩
        rw [he]
        unfold HashOk at hc
        rw [hc]
        rfl
      · cases h
    · cases h
  · cases h
theorem RVn.isSome {K : PySem.W.Frag} {m : List Addr} {H : Hp} : ∀ {o : Option D} {u : Option (Addr × Value)}, RVn K m H o u → o.isSome = u.isSome
  | none, _, h => by cases h; rfl
  | some _, _, ⟨p, v, e, _⟩ => by subst e; rfl
def inDicN (k d : D) (S : Sto) : Res D := match dicN d k S with
  | some r => .ok (.bl r.isSome) S
  | none => .stuck
def notInDicN (k d : D) (S : Sto) : Res D := match dicN d k S with
  | some r => .ok (.bl (!r.isSome)) S
  | none => .stuck
theorem nroom (hu : X.A.units + 65 < cLine) : (nestedKind X.prog X.w).room X.A.in1 := by
  show X.A.units + 1 + 8 < cLine
  omega
theorem op_inDicN (hu : X.A.units + 65 < cLine) (hc : HashOk cl X) : OpD cl X (compareOp .In) inDicN := by
  refine ⟨fun x y H Q => ∃ a b xs q, y = .ref a ∧ x = .ref b ∧ NAt X H a xs ∧ NKey X.K H q (.ref b) ∧ q.depth ≤ 8 ∧ Q (.bl (atKey xs q).isSome) H, fun pins s σ H x y v u Q I rx ry ⟨a, b, xs, q, ey, ex, hn, hk, hd, hq⟩ => ?_, fun E m S H x y vx vy Q rs rx ry h => ?_⟩
  · subst ey ex
    cases (show u = Value.ref a from ry)
    cases (show v = Value.ref b from rx)
    exact wpAny_in_heap (nroom hu) ⟨NKey.is I _ hk rfl, hd⟩ hn.sys (hn.dict I) ⟨.bl _, H, I.tok _, rfl, hq⟩
  · unfold inDicN at h
    split at h
    · rename_i r e
      obtain ⟨a, b, xs, q, e1, e2, hn, hk, hd, ro⟩ := dicN_rv hc rs ry rx e
      exact ⟨a, b, xs, q, e1, e2, hn, hk, hd, by rw [← ro.isSome]; exact h.here rs rfl⟩
    · exact h.elim
theorem op_notInDicN (hu : X.A.units + 65 < cLine) (hc : HashOk cl X) : OpD cl X (compareOp .NotIn) notInDicN := by
  refine ⟨fun x y H Q => ∃ a b xs q, y = .ref a ∧ x = .ref b ∧ NAt X H a xs ∧ NKey X.K H q (.ref b) ∧ q.depth ≤ 8 ∧ Q (.bl (!(atKey xs q).isSome)) H, fun pins s σ H x y v u Q I rx ry ⟨a, b, xs, q, ey, ex, hn, hk, hd, hq⟩ => ?_, fun E m S H x y vx vy Q rs rx ry h => ?_⟩
  · subst ey ex
    cases (show u = Value.ref a from ry)
    cases (show v = Value.ref b from rx)
    refine notIn_keyed (nroom hu) ⟨NKey.is I _ hk rfl, hd⟩ hn.sys ⟨xs, hn.dict I, rfl⟩ ⟨.bl (!(atKey xs q).isSome), H, I.tok _, ?_, hq⟩
    rw [valueAt_pairsH, Option.isSome_map]
    rfl
  · unfold notInDicN at h
    split at h
    · rename_i r e
      obtain ⟨a, b, xs, q, e1, e2, hn, hk, hd, ro⟩ := dicN_rv hc rs ry rx e
      exact ⟨a, b, xs, q, e1, e2, hn, hk, hd, by rw [← ro.isSome]; exact h.here rs rfl⟩
    · exact h.elim
def setDicN (o i v : D) (S : Sto) : Res Unit := match o with
  | .ref l => match S[l]? with
    | some (.dic 2 kvs) => match nokD i && decide (kvs.length ≤ sizeLine) with
      | true => .ok () (S.set l (.dic 2 (putD kvs i v)))
      | false => .stuck
    | _ => .stuck
  | _ => .stuck
def rSetN (X : Cx) : TSet := fun o i v H Q => ∃ a b xs q, o = .ref a ∧ i = .ref b ∧ NAt X H a xs ∧ NKey X.K H q (.ref b) ∧ q.depth ≤ 8 ∧ xs.length ≤ sizeLine ∧
  ∀ u es ep, RelV v u → es.toList = (storedH xs q b u).map (entN X) → ((storedH xs q b u).map (·.1)).Nodup → Q (upd H a (RawO a es ep))
theorem set_dictN (hu : X.A.units + 65 < cLine) : PSet X (rSetN X) := by
  intro pins s σ H o i v ov iv u Q I ro ri rv h
  obtain ⟨a, b, xs, q, eo, ei, hn, hk, hd, hz, hq⟩ := h
  subst eo ei
  cases (show ov = Value.ref a from ro)
  cases (show iv = Value.ref b from ri)
  obtain ⟨es0, ep0, e0, _⟩ := id hn
  refine wpAny_setItem_heap (hsz := hz) (nroom hu) ⟨NKey.is I _ hk rfl, hd⟩ (hn.dict I) fun h' dd' hs => ?_
  obtain ⟨o2, es, ep, ho, h2, h3, h4, _, h5⟩ := dd'
  exact ⟨_, d_write I (by rw [e0]; exact True.intro) hs ⟨o2, ho⟩ (rawO_ok ho h2 h3), hq u es ep rv h4 h5⟩
theorem set_dicN (hu : X.A.units + 65 < cLine) (hc : HashOk cl X) : SetD cl X setDicN := by
  refine ⟨_, set_dictN hu, fun E m S H o i v vo vi vv Q rs ro ri rv h => ?_⟩
  unfold setDicN at h
  split at h
  · rename_i l
    split at h
    · rename_i kvs e1
      obtain ⟨a, h1, xs, es, ep, hv, he, hn, hs, r1⟩ := rs.adr e1
      obtain ⟨a', h2, rfl⟩ := ro
      rw [h1] at h2; cases h2
      split at h
      · rename_i hk
        rw [Bool.and_eq_true] at hk
        obtain ⟨ds, q, ek, hq, hd⟩ := nokD_key hk.1
        have hl : xs.length ≤ sizeLine := by rw [RD2.len r1]; exact of_decide_eq_true hk.2
        have ri' := ri
        rw [ek] at ri'
        obtain ⟨b, vs, rfl, _⟩ := ri'
        have hce : cl.hh = fun k => k.hash X.w := hc
        refine ⟨a, b, xs, q, rfl, rfl, ⟨es, ep, hv, by rw [he, hce]; rfl, hn, hs, RD2.keys r1⟩, nkey_rv _ hq ri, hd, hl, fun u es' ep' ru he' hn' => ?_⟩
        have kp := rs.keepPut (u := RawO a es' ep') e1 h1
        refine h m () _ (Ext.refl _) kp (rs.put e1 h1 ⟨storedH xs q b u, es', ep', upd_same, by rw [he', hce]; rfl, hn', hs, (r1.put hq hd ri rv ru).mono (Ext.refl _) kp⟩) trivial
      · exact h.elim
    · exact h.elim
  · exact h.elim
end
end DL

namespace DL
open PySem PySem.Spec PyProof.Rows L2
theorem Dict_walkH {prog : Program} {w : World} {K : Type} [DecidableEq K] {knd : HeapKind prog w K} {A : Around} {E : Value → Shared → Prop} {s : Shared} {env : Env} {keys : List (Option Expr)} {values : List Expr} {pos : Pos} {Q : Value → Shared → Prop}
    (hu : knd.room A) (hall : keys.all (·.isSome) = true) (hl : keys.length = values.length) (h0 : keys ≠ []) (hlen : keys.length ≤ 15)
    (h : wpAny (model prog w) A (evalPairs (pairTrees keys values env pos)) (fun vs s₁ => ∃ ps, CarriesH knd s₁.heap vs ps ∧ s₁.heap.DictOfH knd s.heap.objs.size [] ∧
      ∀ h' tk, h'.DictOfH knd s.heap.objs.size (storedAllH [] ps) → Heap.SameBut s.heap.objs.size s₁.heap h' → Q (.ref s.heap.objs.size) { s₁ with heap := h', toks := tk }) E
      { s with heap := s.heap.push { cls := .type "dict", data := .dict #[] } }) :
    wpAny (model prog w) A (eval (.Dict keys values pos) env) Q E s := by
  have hn := pairTrees_length keys values env pos hall hl
  have hne : pairTrees keys values env pos ≠ [] := by
    intro he
    rw [he] at hn
    exact h0 (List.length_eq_zero_iff.mp hn.symm)
  rw [arm_eval_Dict, zip_pairTrees keys values env pos hall hl, dictDisplay_pairs _ hne (by omega)]
  exact wpAny_bind (wpAny_standAt (wpAny_bind (wpAny_subDictH (knd := knd) (Q := fun d s' => wpAny (model prog w) A (pure (Value.ref d)) Q E s') hu (by omega)
    (wpAny_mono h (fun vs s₁ h₁ => by obtain ⟨ps, hc, hm, hq⟩ := h₁; exact ⟨ps, hc, hm, fun h' tk a b => wpAny_pure (hq h' tk a b)⟩) fun _ _ e => e))))
section
variable {X : Cx}
def tDispN (X : Cx) (tk tv : TE) : TE := fun σ H Q => tPairs [(tk, tv)] σ H fun ps H2 => ∃ y v, ps = [(y, v)] ∧ ∃ b q, y = .ref b ∧ NKey X.K H2 q (.ref b) ∧ q.depth ≤ 8 ∧
  ∀ p u es ep, H2 p = none → (p == sysModules) = false → RelV v u → es.toList = [entN X (q, b, u)] → Q (.ref p) (upd H2 p (RawO p es ep))
theorem pe_dispN {dpos : Pos} {ke ve : Expr} {tk tv : TE} (hu : X.A.units + 65 < cLine) (hk : PE X ke tk) (hv : PE X ve tv) : PE X (.Dict [some ke] [ve] dpos) (tDispN X tk tv) := by
  refine ⟨fun pins s σ H Q I q => ?_⟩
  have h : PPs X dpos [some ke] [ve] [(tk, tv)] := pps_cons hk hv pps_nil
  have hn := I.hok.fresh (Nat.le_refl s.heap.objs.size)
  have hks : ∀ b u, s.heap.get? b = some u → (s.heap.push { cls := .type "dict", data := .dict #[] }).get? b = some u := fun _ _ q => Heap.get?_push_of_some _ q
  have I0 : Inv X pins σ H { s with heap := s.heap.push { cls := .type "dict", data := .dict #[] } } := I.kept (t' := s.toks) hks
  have hnew : (s.heap.push { cls := .type "dict", data := .dict #[] }).get? s.heap.objs.size = some { cls := .type "dict", data := .dict #[] } := Heap.get?_push_size _ rfl
  have hL : s.heap.objs.size ≠ X.env.locals := Nat.ne_of_gt I.lt
  have hC : ∀ x c, X.env.cells.lookup x = some c → c ≠ s.heap.objs.size := fun x c e => by
    obtain ⟨v, o, ho, _⟩ := I.cell x c e
    exact Nat.ne_of_lt (Heap.lt_size ho)
  have hP : ∀ p ∈ X.pn ++ pins, p.1 ≠ s.heap.objs.size := fun p hp => Nat.ne_of_lt (Heap.lt_size (I.pin p hp).1)
  have I1 : Inv X ((s.heap.objs.size, { cls := .type "dict", data := .dict #[] }) :: pins) σ H { s with heap := s.heap.push { cls := .type "dict", data := .dict #[] } } := I0.pins_of fun p hp => by
    rcases List.mem_cons.mp hp with rfl | hp
    · exact ⟨hnew, hn, hL, I.nofs (Nat.le_refl _), fun v e => by cases e⟩
    · exact I0.pin p (List.mem_append_right _ hp)
  have hbig : (s.heap.objs.size == sysModules) = false := by
    have h1 := I.big
    cases z : s.heap.objs.size == sysModules with
    | false => rfl
    | true => exact absurd (eq_of_beq z) (Nat.ne_of_gt h1)
  have hroom : (nestedKind X.prog X.w).room X.A := by
    show X.A.units + 8 < cLine
    omega
  refine Dict_walkH (knd := nestedKind X.prog X.w) hroom rfl rfl (by nofun) (by simp) (thn (h.run _ _ σ H _ I1 q) fun ws s2 ⟨ps, H2, I2, rel, y, v, ep0, b, nk, ey, hnk, hnd, q2⟩ => ?_)
  subst ep0 ey
  obtain ⟨uy, uv, hws, r1, r1'⟩ : ∃ uy uv, ws = [(uy, uv)] ∧ RelV (.ref b) uy ∧ RelV v uv := by
    cases rel with
    | cons r1 r2 =>
      cases r2
      exact ⟨_, _, rfl, r1.1, r1.2⟩
  subst hws
  cases (show uy = Value.ref b from r1)
  · skip
    obtain ⟨e2, n2, _, f2, _⟩ := I2.pin _ (List.mem_append_right _ (List.mem_cons_self ..))
    have dd0 : s2.heap.DictOfH (nestedKind X.prog X.w) s.heap.objs.size [] := ⟨_, #[], 0, e2, ⟨rfl, rfl, rfl⟩, rfl, rfl, fun x hx => (nomatch hx), List.nodup_nil⟩
    have I3 : Inv X pins σ H2 s2 := I2.pins_of fun p hp => I2.pin p (List.mem_append_right _ (List.mem_cons_of_mem _ hp))
    refine ⟨[(nk, b, uv)], ⟨rfl, rfl, ⟨NKey.is I3 _ hnk rfl, hnd⟩, trivial⟩, dd0, fun h' tk dd' hs => ?_⟩
    have I4 : Inv X pins σ H2 { s2 with heap := h', toks := tk } := I3.turned (it := s.heap.objs.size) (fun b o nb e => (hs.2 b nb).trans e) n2 hL (.inr I.sz) hC hP
    obtain ⟨o, es, ep, ho, hc, hd, he, _, _⟩ := dd'
    generalize hs3 : ({ s2 with heap := h', toks := tk } : Shared) = s3 at I4 ⊢
    have ho : s3.heap.get? s.heap.objs.size = some o := by rw [← hs3]; exact ho
    refine ⟨.ref s.heap.objs.size, _, ?_, rfl, q2 s.heap.objs.size uv es ep n2 hbig r1' he⟩
    have nit : ∀ b u, H2 b = some u → b ≠ s.heap.objs.size := fun b u e z => by rw [z, n2] at e; cases e
    refine I4.step (g' := s3.gens) (d' := s3.drawn) (t' := s3.toks) (h' := s3.heap) (H' := upd H2 s.heap.objs.size (RawO s.heap.objs.size es ep)) (ch := [s.heap.objs.size]) (fun b hb => ?_) (fun b o _ _ hc e _ => e) (fun b o _ _ hc e _ => ⟨o.slots, e⟩) (fun b o hc e n => ?_)
      (fun b o hc e => ⟨o, e⟩) (fun b xs e => ?_) (fun b o u e => ?_) (fun b ps e => ⟨#[], ?_⟩) (fun m hm => hm) (fun b u e => ?_) I4.bare
    · have e : b = s.heap.objs.size := by simpa using hb
      subst e
      exact ⟨.inr I.sz, hL, hC, hP⟩
    · rw [upd_ne (fun z => hc (by simp [z]))]; exact n
    · rw [upd_ne (nit _ _ e)]; exact e
    · rw [upd_ne (nit _ _ e)]; exact e
    · rw [upd_ne (nit _ _ e), e]; simp
    · by_cases z : b = s.heap.objs.size
      · subst z
        rw [upd_same] at e; cases e
        exact rawO_ok ho hc hd
      · rw [upd_ne z] at e
        refine (I4.hok b u e).stay (fun c v hc q => q) (fun _ q => ?_) fun _ _ q => ?_
        · rw [upd_ne (nit _ _ q)]; exact q
        · rw [upd_ne (nit _ _ q)]; exact q
def dDispN (fk fv : Sl → Sto → Res D) : Sl → Sto → Res D := fun sd S => (fk sd S).bind fun k S1 => (fv sd S1).bind fun v S2 => match nokD k with
  | true => .ok (.ref S2.length) (S2 ++ [.dic 2 [(k, v)]])
  | false => .stuck
theorem de_dispN {cl : Cl} {E : XK} {dpos : Pos} {ke ve : Expr} {fk fv : Sl → Sto → Res D} (hu : X.A.units + 65 < cLine) (hc : HashOk cl X) (hk : DE cl X E ke fk) (hv : DE cl X E ve fv) : DE cl X E (.Dict [some ke] [ve] dpos) (dDispN fk fv) := by
  obtain ⟨t, p, hk⟩ := hk
  obtain ⟨u, q, hv⟩ := hv
  refine ⟨_, pe_dispN hu p q, fun m S H sd σ Q rs rl h => ?_⟩
  refine hk m S H sd σ _ rs rl (Post.bind h fun x S1 m1 vx H1 x1 k1 rs1 rx h1 => ?_)
  refine hv m1 S1 H1 sd σ _ rs1 (rl.mono x1 k1) (Post.bind h1 fun y S2 m2 vy H2 x2 k2 rs2 ry h2 => ?_)
  split at h2
  · rename_i hn
    obtain ⟨ds, nk, ek, hnk, hd⟩ := nokD_key hn
    have rx2 := RV.mono x2 k2 x rx
    have rx' := rx2
    rw [ek] at rx'
    obtain ⟨b, vs, rfl, _⟩ := rx'
    have hce : cl.hh = fun k => k.hash X.w := hc
    refine ⟨_, _, rfl, b, nk, rfl, nkey_rv _ hnk rx2, hd, fun p u es ep hp hsys ru he => ?_⟩
    have kp : Keep H2 (upd H2 p (RawO p es ep)) := Keep.new hp
    refine h2 _ _ _ (Ext.snoc m2 p) kp (rs2.new hp ⟨[(nk, b, u)], es, ep, upd_same, by rw [he, hce]; rfl, by simp, hsys, nk, b, vy, u, [], rfl, hnk, hd, RV.mono (Ext.snoc m2 p) kp _ rx2, RV.mono (Ext.snoc m2 p) kp _ ry, ru, rfl⟩) ⟨p, by rw [← rs2.len]; simp, rfl⟩
  · exact h2.elim
end
end DL

namespace DL
open PySem PySem.Spec PyProof.Rows L2
section
variable {cl : Cl} {X : Cx} {E : XK}
noncomputable def rgB (a b : Int) : Bool := @decide (RgOk a b) (Classical.propDecidable _)
theorem rgB_ok {a b : Int} (h : rgB a b = true) : RgOk a b := @of_decide_eq_true _ (Classical.propDecidable _) h
theorem rgB_of {a b : Int} (h : RgOk a b) : rgB a b = true := @decide_eq_true _ (Classical.propDecidable _) h
theorem rgV_rv {K : PySem.W.Frag} {m : List Addr} {H : Hp} {a b : Int} : RVs K m H (rangeL a (b - a).toNat) (rgV a b) := by
  unfold rgV rangeL
  generalize List.range (b - a).toNat = l
  induction l with
  | nil => exact rfl
  | cons i l ih => exact ⟨_, _, rfl, rfl, ih⟩
end
end DL

namespace DL
open PySem PySem.Spec PyProof.Rows L2
section
variable {cl : Cl} {X : Cx} {E : XK}
end
end DL

namespace DL
open PySem PySem.Spec PyProof.Rows L2
section
variable {cl : Cl} {X : Cx} {E : XK}
end
end DL

namespace DL
open PySem PySem.Spec PyProof.Rows L2
section
variable {cl : Cl} {X : Cx} {E : XK}
def dDispN0 : Sl → Sto → Res D := fun _ S => .ok (.ref S.length) (S ++ [.dic 2 []])
def tDNewN : TE := fun _ H Q => ∀ p, H p = none → (p == sysModules) = false → Q (.ref p) (upd H p (RawO p #[] 0))
theorem pe_dnewN {pos : Pos} : PE X (.Dict [] [] pos) tDNewN := ⟨fun pins s σ H Q I h => by
  have hnew : (s.heap.push { cls := .type "dict", data := .dict #[] }).get? s.heap.objs.size = some { cls := .type "dict", data := .dict #[] } := Heap.get?_push_size _ rfl
  have hbig : (s.heap.objs.size == sysModules) = false := by
    have h1 := I.big
    cases z : s.heap.objs.size == sysModules with
    | false => rfl
    | true => exact absurd (eq_of_beq z) (Nat.ne_of_gt h1)
  exact wpAny_Dict_empty ⟨.ref s.heap.objs.size, _, I.laid (a := s.heap.objs.size) (o := RawO s.heap.objs.size #[] 0) (t' := s.toks) (fun _ _ q => Heap.get?_push_of_some _ q) (Nat.le_refl _) (rawO_ok hnew ⟨rfl, rfl, rfl⟩ rfl), rfl, h _ (I.hok.fresh (Nat.le_refl _)) hbig⟩⟩
theorem de_dispN0 {pos : Pos} : DE cl X E (.Dict [] [] pos) dDispN0 := by
  refine ⟨_, pe_dnewN, fun m S H sd σ Q rs rl h => fun p hp hs => ?_⟩
  exact h _ _ _ (Ext.snoc m p) (Keep.new hp) (rs.new hp ⟨[], #[], 0, upd_same, rfl, List.nodup_nil, hs, rfl⟩) ⟨p, by rw [← rs.len]; simp, rfl⟩
theorem nat_of {m : List Addr} {S : Sto} {H : Hp} {l : Nat} {kvs : List (D × D)} {v : V} (hc : HashOk cl X) (rs : RS cl X.K m S H) (rv : RV X.K m H (.ref l) v) (e : S[l]? = some (.dic 2 kvs)) : ∃ a xs, v = .ref a ∧ m[l]? = some a ∧ NAt X H a xs ∧ RD2 X.K m H kvs xs := by
  obtain ⟨a, h1, xs, es, ep, hv, he, hn, hs, r1⟩ := rs.adr e
  obtain ⟨a', h2, rfl⟩ := rv
  rw [h1] at h2; cases h2
  have hce : cl.hh = fun k => k.hash X.w := hc
  exact ⟨a, xs, rfl, h1, ⟨es, ep, hv, by rw [he, hce]; rfl, hn, hs, RD2.keys r1⟩, r1⟩
def ddL (ns : List Int) : List Int := PyProof.Rows.firstMet (fun i => ns.getD i 0) ns.length
end
end DL

namespace DL
open PySem PySem.Spec PyProof.Rows L2
section
variable {prog : Program} {w : World} {A : Around} {E : Value → Shared → Prop} {s : Shared} {z TI TO T i1 i2 : Addr} {fp1 fp2 : List Addr} {n1 n2 i : Nat} {P1 P2 : Nat → Value → Prop} {St1 St2 : Nat → Heap → Prop} {f : Bool} {oT : Obj}
end
section
variable {prog : Program} {w : World}
end
end DL

namespace DL
open PySem PySem.Spec PyProof.Rows L2
section
variable {cl : Cl} {X : Cx} {E : XK}
end
end DL

namespace DL
open PySem PySem.Spec PyProof.Rows L2
section
variable {cl : Cl} {X : Cx} {E : XK}
end
end DL

namespace DL
open PySem PySem.Spec PyProof.Rows L2
section
variable {prog : Program} {w : World} {A : Around} {R : Result → Shared → Prop} {I : Addr} {fp wr : List Addr} {n : Nat} {P : Nat → Value → Prop} {St : Nat → Heap → Prop} {h0 : Heap}
end
section
variable {cl : Cl} {X : Cx} {E : XK}
end
end DL

namespace DL
open PySem PySem.Spec PyProof.Rows L2
section
variable {cl : Cl} {X : Cx} {E : XK}
end
end DL
namespace DL
open PySem PySem.Spec PyProof.Rows L2
section
variable {cl : Cl} {X : Cx} {E : XK}
end
end DL

namespace DL
open PySem PySem.Spec PyProof.Rows L2
def Wp {α : Type} (r : Res α) (Q : α → Sto → Prop) (X : Exc → Sto → Prop) : Prop := match r with
  | .ok a S => Q a S
  | .exc x S => X x S
  | .stuck => False
def kB {α β : Type} (k : α → Sto → Res β) (Q : β → Sto → Prop) (X : Exc → Sto → Prop) (a : α) (S : Sto) : Prop := Wp (k a S) Q X
theorem kB_ap {α β : Type} {k : α → Sto → Res β} {Q : β → Sto → Prop} {X : Exc → Sto → Prop} {a : α} {S : Sto} : kB k Q X a S = Wp (k a S) Q X := rfl
theorem w_bind {α β : Type} {r : Res α} {k : α → Sto → Res β} {Q : β → Sto → Prop} {X : Exc → Sto → Prop} : Wp (r.bind k) Q X = Wp r (kB k Q X) X := by cases r <;> rfl
theorem w_ok {α : Type} {a : α} {S : Sto} {Q : α → Sto → Prop} {X : Exc → Sto → Prop} : Wp (.ok a S) Q X = Q a S := rfl
theorem w_exc {α : Type} {x : Exc} {S : Sto} {Q : α → Sto → Prop} {X : Exc → Sto → Prop} : Wp (.exc x S) Q X = X x S := rfl
theorem w_stuck {α : Type} {Q : α → Sto → Prop} {X : Exc → Sto → Prop} : Wp .stuck Q X = False := rfl
theorem zm {α : Type} {c : Prop} [Decidable c] {r s : Res α} {Q : α → Sto → Prop} {X : Exc → Sto → Prop} (h : c) : Wp (if c then r else s) Q X = Wp r Q X := by rw [if_pos h]
theorem Wp.mono {α : Type} {r : Res α} {Q Q' : α → Sto → Prop} {X X' : Exc → Sto → Prop} (h : Wp r Q X) (hq : ∀ a S, Q a S → Q' a S) (hx : ∀ x S, X x S → X' x S) : Wp r Q' X' := by
  cases r with
  | ok a S => exact hq a S h
  | exc x S => exact hx x S h
  | stuck => exact h
theorem Wp.ok {α : Type} {r : Res α} {Q : α → Sto → Prop} (h : Wp r Q (fun _ _ => False)) : ∃ a S, r = .ok a S ∧ Q a S := by
  cases r with
  | ok a S => exact ⟨a, S, rfl, h⟩
  | exc x S => exact h.elim
  | stuck => exact h.elim
def kFn (Q : D → Sto → Prop) : Fl → Sto → Prop
  | .nx _, S => Q .non S
  | .ret d, S => Q d S
  | _, _ => False
theorem w_dFn {n : Nat} {Fb : Sl → Sto → Res Fl} {ds : List D} {S : Sto} {Q : D → Sto → Prop} {X : Exc → Sto → Prop} : Wp (dFn n Fb ds S) Q X = Wp (Fb (startD n ds) S) (kFn Q) X := by
  unfold dFn
  cases h : Fb (startD n ds) S with
  | ok fl S1 => cases fl <;> rfl
  | exc x S1 => rfl
  | stuck => rfl
theorem kFn_nx {Q : D → Sto → Prop} {sd : Sl} {S : Sto} : kFn Q (.nx sd) S = Q .non S := rfl
theorem kFn_ret {Q : D → Sto → Prop} {d : D} {S : Sto} : kFn Q (.ret d) S = Q d S := rfl
theorem w_sTry {Fb : Sl → Sto → Res Fl} {Fx : Exc → Sto → Res D} {sd : Sl} {S : Sto} {Q : Fl → Sto → Prop} {X : Exc → Sto → Prop} : Wp (sTry Fb Fx sd S) Q X = Wp (Fb sd S) Q (fun x S => Wp (Fx x S) (fun d S => Q (.ret d) S) X) := by
  unfold sTry
  cases Fb sd S with
  | ok fl S1 => rfl
  | exc x S1 =>
    show Wp ((Fx x S1).bind _) Q X = _
    rw [w_bind]; rfl
  | stuck => rfl
theorem w_dKind {Fx : Exc → Sto → Res D} {fb : Sl → Sto → Res D} {sd : Sl} {S : Sto} {Q : D → Sto → Prop} {X : Exc → Sto → Prop} : Wp (dKind Fx fb sd S) Q X = Wp (fb sd S) Q (fun x S => Wp (Fx x S) Q (fun _ _ => False)) := by
  unfold dKind
  cases fb sd S with
  | ok d S1 => rfl
  | exc x S1 =>
    show Wp (match Fx x S1 with
      | .ok d S2 => .ok d S2
      | _ => .stuck) Q X = _
    show _ = Wp (Fx x S1) Q _
    cases Fx x S1 <;> rfl
  | stuck => rfl
theorem w_sFor {fi : Sl → Sto → Res ItD} {ga : D → Sl → Sto → Res Sl} {fb : Sl → Sto → Res Fl} {sd : Sl} {S : Sto} {Q : Fl → Sto → Prop} {X : Exc → Sto → Prop} :
    Wp (sFor fi ga fb sd S) Q X = Wp (fi sd S) (kB (fun it S1 => loopD it.chk ga fb it.items sd S1) Q X) X := w_bind
theorem w_loop {chk : Sto → Bool} {ga : D → Sl → Sto → Res Sl} {fb : Sl → Sto → Res Fl} {Q : Fl → Sto → Prop} {X : Exc → Sto → Prop} (I : List D → Sl → Sto → Prop) (hc : ∀ xs sd S, I xs sd S → chk S = true)
    (h0 : ∀ sd S, I [] sd S → Q (.nx sd) S)
    (h1 : ∀ x xs sd S, I (x :: xs) sd S → Wp (ga x sd S) (fun sd1 S1 => Wp (fb sd1 S1) (fun fl S2 => match fl with
      | .nx sd2 => I xs sd2 S2
      | .cnt sd2 => I xs sd2 S2
      | .brk sd2 => Q (.nx sd2) S2
      | .ret d => Q (.ret d) S2) X) X) :
    ∀ xs sd S, I xs sd S → Wp (loopD chk ga fb xs sd S) Q X := by
  intro xs
  induction xs with
  | nil =>
    intro sd S h
    unfold loopD
    rw [if_pos (hc _ _ _ h)]
    exact h0 sd S h
  | cons x xs ih =>
    intro sd S h
    unfold loopD
    rw [if_pos (hc _ _ _ h), w_bind]
    refine Wp.mono (h1 x xs sd S h) (fun sd1 S1 h2 => ?_) fun _ _ z => z
    show Wp ((fb sd1 S1).bind _) Q X
    rw [w_bind]
    refine Wp.mono h2 (fun fl S2 h3 => ?_) fun _ _ z => z
    show Wp (match fl with
      | .nx sd2 => loopD chk ga fb xs sd2 S2
      | .cnt sd2 => loopD chk ga fb xs sd2 S2
      | .brk sd2 => .ok (.nx sd2) S2
      | .ret d => .ok (.ret d) S2) Q X
    cases fl with
    | nx sd2 => exact ih sd2 S2 h3
    | cnt sd2 => exact ih sd2 S2 h3
    | brk sd2 => exact h3
    | ret d => exact h3
theorem z6 {ga : D → Sl → Sto → Res Sl} {fb : Sl → Sto → Res Fl} {sd : Sl} {S : Sto} {Q : Fl → Sto → Prop} {X : Exc → Sto → Prop} : Wp (loopD yes ga fb [] sd S) Q X = Q (.nx sd) S := rfl
theorem z5 {ga : D → Sl → Sto → Res Sl} {fb : Sl → Sto → Res Fl} {x : D} {xs : List D} {sd : Sl} {S : Sto} {Q : Fl → Sto → Prop} {X : Exc → Sto → Prop} : Wp (loopD yes ga fb (x :: xs) sd S) Q X =
    Wp ((ga x sd S).bind fun sd1 S1 => (fb sd1 S1).bind fun fl S2 => match fl with
      | .nx sd2 => loopD yes ga fb xs sd2 S2
      | .cnt sd2 => loopD yes ga fb xs sd2 S2
      | .brk sd2 => .ok (.nx sd2) S2
      | .ret d => .ok (.ret d) S2) Q X := rfl
theorem w_dVar {i : Nat} {sd : Sl} {S : Sto} {Q : D → Sto → Prop} {X : Exc → Sto → Prop} : Wp (dVar i  sd S) Q X = Wp (match sd[i]? with
  | some (some d) => .ok d S
  | _ => .stuck) Q X := rfl
theorem w_dC {d : D} {sd : Sl} {S : Sto} {Q : D → Sto → Prop} {X : Exc → Sto → Prop} : Wp (dC d  sd S) Q X = Wp (.ok d S) Q X := rfl
theorem w_dNil {sd : Sl} {S : Sto} {Q : (List D) → Sto → Prop} {X : Exc → Sto → Prop} : Wp (dNil   sd S) Q X = Wp (.ok [] S) Q X := rfl
theorem w_dCons {f : Sl → Sto → Res D} {g : Sl → Sto → Res (List D)} {sd : Sl} {S : Sto} {Q : (List D) → Sto → Prop} {X : Exc → Sto → Prop} : Wp (dCons f g  sd S) Q X = Wp ((f sd S).bind fun d S1 => (g sd S1).bind fun ds S2 => .ok (d :: ds) S2) Q X := rfl
theorem w_dTup {f : Sl → Sto → Res (List D)} {sd : Sl} {S : Sto} {Q : D → Sto → Prop} {X : Exc → Sto → Prop} : Wp (dTup f  sd S) Q X = Wp ((f sd S).bind fun ds S1 => if ds.length ≤ sizeLine then .ok (.tup ds) S1 else .stuck) Q X := rfl
theorem w_dLst {f : Sl → Sto → Res (List D)} {sd : Sl} {S : Sto} {Q : D → Sto → Prop} {X : Exc → Sto → Prop} : Wp (dLst f  sd S) Q X = Wp ((f sd S).bind fun ds S1 => if ds.length ≤ sizeLine then .ok (.ref S1.length) (S1 ++ [.lst ds]) else .stuck) Q X := rfl
theorem w_d2 {g : D → D → Sto → Res D} {fa fb : Sl → Sto → Res D} {sd : Sl} {S : Sto} {Q : D → Sto → Prop} {X : Exc → Sto → Prop} : Wp (d2 g fa fb  sd S) Q X = Wp ((fa sd S).bind fun x S1 => (fb sd S1).bind fun y S2 => g x y S2) Q X := rfl
theorem w_d2T {g : D → D → Sto → Res D} {fa fb : Sl → Sto → Res D} {sd : Sl} {S : Sto} {Q : Bool → Sto → Prop} {X : Exc → Sto → Prop} : Wp (d2T g fa fb  sd S) Q X = Wp ((d2 g fa fb sd S).bind fun d S1 => match d with
  | .bl b => .ok b S1
  | _ => .stuck) Q X := rfl
theorem w_d3 {g g' : D → D → Sto → Res D} {fa fb fc : Sl → Sto → Res D} {sd : Sl} {S : Sto} {Q : D → Sto → Prop} {X : Exc → Sto → Prop} : Wp (d3 g g' fa fb fc  sd S) Q X = Wp ((fa sd S).bind fun x S1 => (fb sd S1).bind fun y S2 => (g x y S2).bind fun z S3 => match z with
  | .bl true => (fc sd S3).bind fun w S4 => g' y w S4
  | .bl false => .ok (.bl false) S3
  | _ => .stuck) Q X := rfl
theorem w_d3T {g g' : D → D → Sto → Res D} {fa fb fc : Sl → Sto → Res D} {sd : Sl} {S : Sto} {Q : Bool → Sto → Prop} {X : Exc → Sto → Prop} : Wp (d3T g g' fa fb fc  sd S) Q X = Wp ((d3 g g' fa fb fc sd S).bind fun d S1 => match d with
  | .bl b => .ok b S1
  | _ => .stuck) Q X := rfl
theorem w_tstB {f : Sl → Sto → Res D} {sd : Sl} {S : Sto} {Q : Bool → Sto → Prop} {X : Exc → Sto → Prop} : Wp (tstB f  sd S) Q X = Wp ((f sd S).bind fun d S1 => match d with
  | .bl b => .ok b S1
  | _ => .stuck) Q X := rfl
theorem w_tAndD {f g : Sl → Sto → Res Bool} {sd : Sl} {S : Sto} {Q : Bool → Sto → Prop} {X : Exc → Sto → Prop} : Wp (tAndD f g  sd S) Q X = Wp ((f sd S).bind fun b S1 => if b then g sd S1 else .ok false S1) Q X := rfl
theorem w_tOrD {f g : Sl → Sto → Res Bool} {sd : Sl} {S : Sto} {Q : Bool → Sto → Prop} {X : Exc → Sto → Prop} : Wp (tOrD f g  sd S) Q X = Wp ((f sd S).bind fun b S1 => if b then .ok true S1 else g sd S1) Q X := rfl
theorem w_tNotD {f : Sl → Sto → Res Bool} {sd : Sl} {S : Sto} {Q : Bool → Sto → Prop} {X : Exc → Sto → Prop} : Wp (tNotD f  sd S) Q X = Wp ((f sd S).bind fun b S1 => .ok (!b) S1) Q X := rfl
theorem w_dAnd {f g : Sl → Sto → Res D} {sd : Sl} {S : Sto} {Q : D → Sto → Prop} {X : Exc → Sto → Prop} : Wp (dAnd f g  sd S) Q X = Wp ((f sd S).bind fun d S1 => match d with
  | .bl true => g sd S1
  | .bl false => .ok (.bl false) S1
  | _ => .stuck) Q X := rfl
theorem w_dOr {f g : Sl → Sto → Res D} {sd : Sl} {S : Sto} {Q : D → Sto → Prop} {X : Exc → Sto → Prop} : Wp (dOr f g  sd S) Q X = Wp ((f sd S).bind fun d S1 => match d with
  | .bl true => .ok (.bl true) S1
  | .bl false => g sd S1
  | _ => .stuck) Q X := rfl
theorem w_dNot {f : Sl → Sto → Res D} {sd : Sl} {S : Sto} {Q : D → Sto → Prop} {X : Exc → Sto → Prop} : Wp (dNot f  sd S) Q X = Wp ((f sd S).bind fun d S1 => match d with
  | .bl b => .ok (.bl (!b)) S1
  | _ => .stuck) Q X := rfl
theorem w_dIf {c : Sl → Sto → Res Bool} {f g : Sl → Sto → Res D} {sd : Sl} {S : Sto} {Q : D → Sto → Prop} {X : Exc → Sto → Prop} : Wp (dIf c f g  sd S) Q X = Wp ((c sd S).bind fun b S1 => if b then f sd S1 else g sd S1) Q X := rfl
theorem w_dNeg {f : Sl → Sto → Res D} {sd : Sl} {S : Sto} {Q : D → Sto → Prop} {X : Exc → Sto → Prop} : Wp (dNeg f  sd S) Q X = Wp ((f sd S).bind fun d S1 => match d with
  | .int i => .ok (.int (-i)) S1
  | _ => .stuck) Q X := rfl
theorem w_sNext {sd : Sl} {S : Sto} {Q : Fl → Sto → Prop} {X : Exc → Sto → Prop} : Wp (sNext   sd S) Q X = Wp (.ok (.nx sd) S) Q X := rfl
theorem w_sSeq {f g : Sl → Sto → Res Fl} {sd : Sl} {S : Sto} {Q : Fl → Sto → Prop} {X : Exc → Sto → Prop} : Wp (sSeq f g  sd S) Q X = Wp ((f sd S).bind fun fl S1 => match fl with
  | .nx sd1 => g sd1 S1
  | r => .ok r S1) Q X := rfl
theorem w_sIf {c : Sl → Sto → Res Bool} {f g : Sl → Sto → Res Fl} {sd : Sl} {S : Sto} {Q : Fl → Sto → Prop} {X : Exc → Sto → Prop} : Wp (sIf c f g  sd S) Q X = Wp ((c sd S).bind fun b S1 => if b then f sd S1 else g sd S1) Q X := rfl
theorem w_sRet {f : Sl → Sto → Res D} {sd : Sl} {S : Sto} {Q : Fl → Sto → Prop} {X : Exc → Sto → Prop} : Wp (sRet f  sd S) Q X = Wp ((f sd S).bind fun d S1 => .ok (.ret d) S1) Q X := rfl
theorem w_sExpr {f : Sl → Sto → Res D} {sd : Sl} {S : Sto} {Q : Fl → Sto → Prop} {X : Exc → Sto → Prop} : Wp (sExpr f  sd S) Q X = Wp ((f sd S).bind fun _ S1 => .ok (.nx sd) S1) Q X := rfl
theorem w_sAsg {f : Sl → Sto → Res D} {g : D → Sl → Sto → Res Sl} {sd : Sl} {S : Sto} {Q : Fl → Sto → Prop} {X : Exc → Sto → Prop} : Wp (sAsg f g  sd S) Q X = Wp ((f sd S).bind fun d S1 => (g d sd S1).bind fun sd1 S2 => .ok (.nx sd1) S2) Q X := rfl
theorem w_gVar {i : Nat} {d : D} {sd : Sl} {S : Sto} {Q : Sl → Sto → Prop} {X : Exc → Sto → Prop} : Wp (gVar i d sd S) Q X = Wp (.ok (sd.set i (some d)) S) Q X := rfl
theorem w_sBrk {sd : Sl} {S : Sto} {Q : Fl → Sto → Prop} {X : Exc → Sto → Prop} : Wp (sBrk   sd S) Q X = Wp (.ok (.brk sd) S) Q X := rfl
theorem w_gsNil {ds : List D} {sd : Sl} {S : Sto} {Q : Sl → Sto → Prop} {X : Exc → Sto → Prop} : Wp (gsNil  ds sd S) Q X = Wp (match ds with
  | [] => .ok sd S
  | _ => .stuck) Q X := rfl
theorem w_gsCons {g : D → Sl → Sto → Res Sl} {k : List D → Sl → Sto → Res Sl} {ds : List D} {sd : Sl} {S : Sto} {Q : Sl → Sto → Prop} {X : Exc → Sto → Prop} : Wp (gsCons g k ds sd S) Q X = Wp (match ds with
  | d :: r => (g d sd S).bind fun sd1 S1 => k r sd1 S1
  | _ => .stuck) Q X := rfl
theorem w_gTupD {n : Nat} {k : List D → Sl → Sto → Res Sl} {d : D} {sd : Sl} {S : Sto} {Q : Sl → Sto → Prop} {X : Exc → Sto → Prop} : Wp (gTupD n k d sd S) Q X = Wp (match d with
  | .tup ds => if ds.length = n then k ds sd S else .stuck
  | d => match lsD d S with
    | some ds => if ds.length = n then k ds sd S else .stuck
    | _ => .stuck) Q X := rfl
theorem w_sPar {i j : Nat} {f : Sl → Sto → Res (List D)} {sd : Sl} {S : Sto} {Q : Fl → Sto → Prop} {X : Exc → Sto → Prop} : Wp (sPar i j f  sd S) Q X = Wp ((f sd S).bind fun ds S1 => match ds with
  | [x, y] => .ok (.nx ((sd.set i (some x)).set j (some y))) S1
  | _ => .stuck) Q X := rfl
theorem w_iVal {f : Sl → Sto → Res D} {sd : Sl} {S : Sto} {Q : ItD → Sto → Prop} {X : Exc → Sto → Prop} : Wp (iVal f  sd S) Q X = Wp ((f sd S).bind fun d S1 => match itemsD d S1 with
  | some it => .ok it S1
  | none => .stuck) Q X := rfl
theorem w_iEnumD {f : Sl → Sto → Res D} {sd : Sl} {S : Sto} {Q : ItD → Sto → Prop} {X : Exc → Sto → Prop} : Wp (iEnumD f  sd S) Q X = Wp ((f sd S).bind fun d S1 => match itemsD d S1 with
  | some it => .ok ⟨enumL 0 it.items, it.chk⟩ S1
  | none => .stuck) Q X := rfl
theorem w_iZipD {f g : Sl → Sto → Res D} {sd : Sl} {S : Sto} {Q : ItD → Sto → Prop} {X : Exc → Sto → Prop} : Wp (iZipD f g  sd S) Q X = Wp ((f sd S).bind fun d S1 => (g sd S1).bind fun e S2 => match itemsD d S2, itemsD e S2 with
  | some it, some jt => .ok ⟨zipL it.items jt.items, fun S => it.chk S && jt.chk S⟩ S2
  | _, _ => .stuck) Q X := rfl
theorem w_iRngD1 {f : Sl → Sto → Res D} {sd : Sl} {S : Sto} {Q : ItD → Sto → Prop} {X : Exc → Sto → Prop} : Wp (iRngD1 f  sd S) Q X = Wp ((f sd S).bind fun d S1 => match d with
  | .int j => if bnd 62 j = true then .ok ⟨rangeL 0 j.toNat, yes⟩ S1 else .stuck
  | _ => .stuck) Q X := rfl
theorem w_iRngD2 {f g : Sl → Sto → Res D} {sd : Sl} {S : Sto} {Q : ItD → Sto → Prop} {X : Exc → Sto → Prop} : Wp (iRngD2 f g  sd S) Q X = Wp ((f sd S).bind fun d S1 => (g sd S1).bind fun e S2 => match d, e with
  | .int i, .int j => if bnd 62 i = true ∧ bnd 62 j = true then .ok ⟨rangeL i (j - i).toNat, yes⟩ S2 else .stuck
  | _, _ => .stuck) Q X := rfl
theorem w_dComp {vs : List Nat} {fi : Sl → Sto → Res ItD} {ga : D → Sl → Sto → Res Sl} {ft : Sl → Sto → Res Bool} {fe : Sl → Sto → Res D} {sd : Sl} {S : Sto} {Q : D → Sto → Prop} {X : Exc → Sto → Prop} : Wp (dComp vs fi ga ft fe  sd S) Q X = Wp ((fi sd S).bind fun it S1 => (compD it.chk ga ft fe S1.length (wipeD sd vs) it.items (S1 ++ [.lst []])).bind fun _ S2 => .ok (.ref S1.length) S2) Q X := rfl
theorem w_tYesD {sd : Sl} {S : Sto} {Q : Bool → Sto → Prop} {X : Exc → Sto → Prop} : Wp (tYesD   sd S) Q X = Wp (.ok true S) Q X := rfl
theorem w_gSubD {set : D → D → D → Sto → Res Unit} {fo fi : Sl → Sto → Res D} {v : D} {sd : Sl} {S : Sto} {Q : Sl → Sto → Prop} {X : Exc → Sto → Prop} : Wp (gSubD set fo fi v sd S) Q X = Wp ((fo sd S).bind fun o S1 => (fi sd S1).bind fun i S2 => (set o i v S2).bind fun _ S3 => .ok sd S3) Q X := rfl
theorem w_oNone {sd : Sl} {S : Sto} {Q : (Option Int) → Sto → Prop} {X : Exc → Sto → Prop} : Wp (oNone   sd S) Q X = Wp (.ok none S) Q X := rfl
theorem w_oSome {f : Sl → Sto → Res D} {sd : Sl} {S : Sto} {Q : (Option Int) → Sto → Prop} {X : Exc → Sto → Prop} : Wp (oSome f  sd S) Q X = Wp ((f sd S).bind fun d S1 => match d with
  | .int i => .ok (some i) S1
  | _ => .stuck) Q X := rfl
theorem w_dSlice {f : Sl → Sto → Res D} {g h : Sl → Sto → Res (Option Int)} {sd : Sl} {S : Sto} {Q : D → Sto → Prop} {X : Exc → Sto → Prop} : Wp (dSlice f g h  sd S) Q X = Wp ((f sd S).bind fun x S1 => (g sd S1).bind fun lo S2 => (h sd S2).bind fun hi S3 => sliceD x lo hi S3) Q X := rfl
theorem w_dCall {g : List D → Sto → Res D} {f : Sl → Sto → Res (List D)} {sd : Sl} {S : Sto} {Q : D → Sto → Prop} {X : Exc → Sto → Prop} : Wp (dCall g f  sd S) Q X = Wp ((f sd S).bind fun ds S1 => g ds S1) Q X := rfl
theorem w_dFld {cs : List Nat} {f : Str} {fo : Sl → Sto → Res D} {sd : Sl} {S : Sto} {Q : D → Sto → Prop} {X : Exc → Sto → Prop} : Wp (dFld cs f fo  sd S) Q X = Wp ((fo sd S).bind fun d S1 => getF cs f d S1) Q X := rfl
theorem w_sFldD {cs : List Nat} {f : Str} {fo fv : Sl → Sto → Res D} {sd : Sl} {S : Sto} {Q : Fl → Sto → Prop} {X : Exc → Sto → Prop} : Wp (sFldD cs f fo fv  sd S) Q X = Wp ((fv sd S).bind fun v S1 => (fo sd S1).bind fun o S2 => (setF cs f o v S2).bind fun _ S3 => .ok (.nx sd) S3) Q X := rfl
theorem w_gFldD {cs : List Nat} {f : Str} {fo : Sl → Sto → Res D} {v : D} {sd : Sl} {S : Sto} {Q : Sl → Sto → Prop} {X : Exc → Sto → Prop} : Wp (gFldD cs f fo v sd S) Q X = Wp ((fo sd S).bind fun o S2 => (setF cs f o v S2).bind fun _ S3 => .ok sd S3) Q X := rfl
theorem w_dCallF {n : Nat} {F : List D → Sto → Res D} {fs : Sl → Sto → Res (List D)} {sd : Sl} {S : Sto} {Q : D → Sto → Prop} {X : Exc → Sto → Prop} : Wp (dCallF n F fs  sd S) Q X = Wp ((fs sd S).bind fun ds S1 => if ds.length = n then F ds S1 else .stuck) Q X := rfl
theorem w_dMeth {c : Nat} {m : Str} {n : Nat} {F : List D → Sto → Res D} {fo : Sl → Sto → Res D} {fs : Sl → Sto → Res (List D)} {sd : Sl} {S : Sto} {Q : D → Sto → Prop} {X : Exc → Sto → Prop} : Wp (dMeth c m n F fo fs  sd S) Q X = Wp ((fo sd S).bind fun d S1 => match d with
  | .ref l => match S1[l]? with
    | some (.ins c' gs) => if c' = c ∧ gs.lookup m = none then (fs sd S1).bind fun ds S2 => if ds.length + 1 = n then F (d :: ds) S2 else .stuck else .stuck
    | _ => .stuck
  | _ => .stuck) Q X := rfl
theorem w_dMake {c : Nat} {n : Nat} {F : List D → Sto → Res D} {fs : Sl → Sto → Res (List D)} {sd : Sl} {S : Sto} {Q : D → Sto → Prop} {X : Exc → Sto → Prop} : Wp (dMake c n F fs  sd S) Q X = Wp ((fs sd S).bind fun ds S1 => if ds.length + 1 = n then (F (.ref S1.length :: ds) (S1 ++ [.ins c []])).bind fun r S2 => match r with
    | .non => .ok (.ref S1.length) S2
    | _ => .stuck
  else .stuck) Q X := rfl
theorem w_sRaise {c : Nat} {fs : List Str} {fa : Sl → Sto → Res (List D)} {sd : Sl} {S : Sto} {Q : Fl → Sto → Prop} {X : Exc → Sto → Prop} : Wp (sRaise c fs fa  sd S) Q X = Wp ((fa sd S).bind fun ds S1 => match fs, ds with
  | [f], [d] => .exc ⟨c, some [(f, d)]⟩ S1
  | [f, g], [d, e] => .exc ⟨c, some [(g, e), (f, d)]⟩ S1
  | _, _ => .stuck) Q X := rfl
theorem w_sRaiseT {c : Nat} {sd : Sl} {S : Sto} {Q : Fl → Sto → Prop} {X : Exc → Sto → Prop} : Wp (sRaiseT c  sd S) Q X = Wp (.exc ⟨c, none⟩ S) Q X := rfl
theorem w_dExF {i : Nat} {a : Addr} {d : Option Addr} {f : Str} {sd : Sl} {S : Sto} {Q : D → Sto → Prop} {X : Exc → Sto → Prop} : Wp (dExF i a d f  sd S) Q X = Wp (match sd[i]? with
  | some (some (.exn a' dd ns ds)) => if a' = a ∧ d = some dd ∧ ns ≠ [] then (match lookN ns ds f with
    | some v => .ok v S
    | none => .stuck) else .stuck
  | _ => .stuck) Q X := rfl
theorem w_dExI {i : Nat} {a : Addr} {d : Option Addr} {b : Bool} {sd : Sl} {S : Sto} {Q : D → Sto → Prop} {X : Exc → Sto → Prop} : Wp (dExI i a d b  sd S) Q X = Wp (match sd[i]? with
  | some (some (.exn a' dd ns _)) => if a' = a ∧ (d = none ∨ (d = some dd ∧ ns ≠ [])) then .ok (.bl b) S else .stuck
  | _ => .stuck) Q X := rfl
theorem w_dExFc {i : Nat} {c : Nat} {cs : List Nat} {a : Addr} {d : Option Addr} {f : Str} {sd : Sl} {S : Sto} {Q : D → Sto → Prop} {X : Exc → Sto → Prop} : Wp (dExFc i c cs a d f  sd S) Q X = Wp (if c ∈ cs then dExF i a d f sd S else .stuck) Q X := rfl
theorem w_dBm {T : String} {g : D → List D → Sto → Res D} {fo : Sl → Sto → Res D} {fs : Sl → Sto → Res (List D)} {sd : Sl} {S : Sto} {Q : D → Sto → Prop} {X : Exc → Sto → Prop} : Wp (dBm T g fo fs  sd S) Q X = Wp ((fo sd S).bind fun d S1 => if isTy T d S1 then (fs sd S1).bind fun ds S2 => g d ds S2 else .stuck) Q X := rfl
theorem w_dIsi {ts : List String} {f : Sl → Sto → Res D} {sd : Sl} {S : Sto} {Q : D → Sto → Prop} {X : Exc → Sto → Prop} : Wp (dIsi ts f  sd S) Q X = Wp ((f sd S).bind fun d S1 => match tyS d S1 with
  | some t => .ok (.bl (ts.any fun b => isT t b)) S1
  | none => .stuck) Q X := rfl
theorem w_dFrz {f : Sl → Sto → Res D} {sd : Sl} {S : Sto} {Q : D → Sto → Prop} {X : Exc → Sto → Prop} : Wp (dFrz f  sd S) Q X = Wp ((f sd S).bind fun d S1 => frzD S d S1) Q X := rfl
theorem w_dLstF {f : Sl → Sto → Res (List D)} {sd : Sl} {S : Sto} {Q : D → Sto → Prop} {X : Exc → Sto → Prop} : Wp (dLstF f  sd S) Q X = Wp ((f sd S).bind fun ds S1 => if ds.length ≤ sizeLine then .ok (.frl ds) S1 else .stuck) Q X := rfl
theorem w_dSliceF {f : Sl → Sto → Res D} {g h : Sl → Sto → Res (Option Int)} {sd : Sl} {S : Sto} {Q : D → Sto → Prop} {X : Exc → Sto → Prop} : Wp (dSliceF f g h  sd S) Q X = Wp ((f sd S).bind fun x S1 => (g sd S1).bind fun lo S2 => (h sd S2).bind fun hi S3 => sliceF x lo hi S3) Q X := rfl
-- w_dVar, w_dC, w_dNil, w_dCons, w_dTup, w_dLst, w_d2, w_d2T, w_d3, w_d3T, w_tstB, w_tAndD, w_tOrD, w_tNotD, w_dAnd, w_dOr, w_dNot, w_dIf, w_dNeg, w_sNext, w_sSeq, w_sIf, w_sRet, w_sExpr, w_sAsg, w_gVar, w_sBrk, w_gsNil, w_gsCons, w_gTupD, w_sPar, w_iVal, w_iEnumD, w_iZipD, w_iRngD1, w_iRngD2, w_dComp, w_tYesD, w_gSubD, w_oNone, w_oSome, w_dSlice, w_dCall, w_dFld, w_sFldD, w_gFldD, w_dCallF, w_dMeth, w_dMake, w_sRaise, w_sRaiseT, w_dExF, w_dExI, w_dExFc, w_dBm, w_dIsi, w_dFrz, w_dLstF, w_dSliceF

section
variable {S : Sto} {Q : D → Sto → Prop} {X : Exc → Sto → Prop}
theorem w_addI {a b : Int} : Wp (addD (.int a) (.int b) S) Q X = Q (.int (a + b)) S := rfl
theorem w_subI {a b : Int} : Wp (subD (.int a) (.int b) S) Q X = Q (.int (a - b)) S := rfl
theorem w_modI {a b : Int} (h : 0 < b) : Wp (modD (.int a) (.int b) S) Q X = Q (.int (a % b)) S := by simp only [modD, if_pos h]; rfl
theorem w_fdivI {a b : Int} (h : fdOk b = true) : Wp (fdivD (.int a) (.int b) S) Q X = Q (.int (a / b)) S := by simp only [fdivD, if_pos h]; rfl
theorem w_mulI {a b : Int} (h : (bnd 63 a || bnd 63 b) = true) : Wp (mulD (.int a) (.int b) S) Q X = Q (.int (a * b)) S := by simp only [mulD, if_pos h]; rfl
theorem w_ltI {a b : Int} : Wp (ltD (.int a) (.int b) S) Q X = Q (.bl (decide (a < b))) S := rfl
theorem w_leI {a b : Int} : Wp (leD (.int a) (.int b) S) Q X = Q (.bl (decide (a ≤ b))) S := rfl
theorem w_gtI {a b : Int} : Wp (gtD (.int a) (.int b) S) Q X = Q (.bl (decide (b < a))) S := rfl
theorem w_geI {a b : Int} : Wp (geD (.int a) (.int b) S) Q X = Q (.bl (decide (b ≤ a))) S := rfl
theorem w_eqI {a b : Int} : Wp (eqD (.int a) (.int b) S) Q X = Q (.bl (decide (a = b))) S := rfl
theorem w_neI {a b : Int} : Wp (neD (.int a) (.int b) S) Q X = Q (.bl (!decide (a = b))) S := rfl
theorem w_eqS {a b : Str} : Wp (eqD (.str a) (.str b) S) Q X = Q (.bl (decide (a = b))) S := rfl
theorem w_neS {a b : Str} : Wp (neD (.str a) (.str b) S) Q X = Q (.bl (!decide (a = b))) S := rfl
theorem w_lenT {ds : List D} : Wp (lenD [.tup ds] S) Q X = Q (.int (ds.length : Nat)) S := rfl
theorem w_lenF {ds : List D} : Wp (lenD [.frl ds] S) Q X = Q (.int (ds.length : Nat)) S := rfl
theorem w_lenS {z : Str} (h : z.length ≤ sizeLine) : Wp (lenD [.str z] S) Q X = Q (.int (z.length : Nat)) S := by simp only [lenD, if_pos h]; rfl
theorem w_ixL {l : Nat} {ds : List D} {i : Int} {d : D} (hl : S[l]? = some (.lst ds)) (h : atI ds i = some d) : Wp (ixD (.ref l) (.int i) S) Q X = Q d S := by simp only [ixD, hl, h]; rfl
theorem w_ixT2 {ds : List D} {i : Int} : Wp (ixD (.tup ds) (.int i) S) Q X = Wp (match atI ds i with
  | some d => .ok d S
  | none => .stuck) Q X := rfl
theorem w_ixF2 {ds : List D} {i : Int} : Wp (ixD (.frl ds) (.int i) S) Q X = Wp (match atI ds i with
  | some d => .ok d S
  | none => .stuck) Q X := rfl
theorem w_ixL2 {l : Nat} {ds : List D} {i : Int} (hl : S[l]? = some (.lst ds)) : Wp (ixD (.ref l) (.int i) S) Q X = Wp (match atI ds i with
  | some d => .ok d S
  | none => .stuck) Q X := by simp only [ixD, hl] <;> rfl
theorem w_setL2 {l : Nat} {ds : List D} {i : Int} {v : D} {Q : Unit → Sto → Prop} (hl : S[l]? = some (.lst ds)) : Wp (setD (.ref l) (.int i) v S) Q X = Wp (match ixN ds.length i with
  | some j => .ok () (S.set l (.lst (ds.set j v)))
  | none => .stuck) Q X := by simp only [setD, hl] <;> rfl
theorem w_setL {l : Nat} {ds : List D} {i : Int} {v : D} {j : Nat} {Q : Unit → Sto → Prop} (hl : S[l]? = some (.lst ds)) (h : ixN ds.length i = some j) : Wp (setD (.ref l) (.int i) v S) Q X = Q () (S.set l (.lst (ds.set j v))) := by simp only [setD, hl, h]; rfl
end
theorem atI_pos {α : Type} {xs : List α} {i : Int} (h : 0 ≤ i) : atI xs i = xs[i.toNat]? := by
  unfold atI ixN
  rw [if_pos h]
  by_cases hl : i < xs.length
  · rw [if_pos hl]; rfl
  · rw [if_neg hl]
    rw [List.getElem?_eq_none (by omega)]
    rfl
theorem ixN_nat {n : Nat} {i : Int} (h : 0 ≤ i) (h2 : i < n) : ixN n i = some i.toNat := by
  unfold ixN
  rw [if_pos h, if_pos h2]
theorem set_same {S : Sto} {l : Nat} {o : DO} (h : l < S.length) : (S.set l o)[l]? = some o := by rw [List.getElem?_set_self h]
def Grow (S S' : Sto) : Prop := ∃ T, S' = S ++ T
theorem Grow.refl (S : Sto) : Grow S S := ⟨[], by simp⟩
theorem Grow.trans {A B C : Sto} (a : Grow A B) (b : Grow B C) : Grow A C := by
  obtain ⟨T, rfl⟩ := a
  obtain ⟨U, rfl⟩ := b
  exact ⟨T ++ U, by simp⟩
theorem Grow.one (S : Sto) (o : DO) : Grow S (S ++ [o]) := ⟨[o], rfl⟩
theorem Grow.get {S S' : Sto} (g : Grow S S') {l : Nat} {o : DO} (h : S[l]? = some o) : S'[l]? = some o := by
  obtain ⟨T, rfl⟩ := g
  rw [List.getElem?_append_left (List.getElem?_eq_some_iff.mp h).1]; exact h
theorem Grow.len {S S' : Sto} (g : Grow S S') : S.length ≤ S'.length := by
  obtain ⟨T, rfl⟩ := g
  simp
theorem set_last {S : Sto} {o o' : DO} : (S ++ [o]).set S.length o' = S ++ [o'] := by
  rw [List.set_append_right _ _ (Nat.le_refl _)]
  simp
theorem eq_of_wp {α : Type} {r : Res α} {a : α} {S : Sto} (h : Wp r (fun d S' => d = a ∧ S' = S) (fun _ _ => False)) : r = .ok a S := by
  obtain ⟨d, S', e, rfl, rfl⟩ := h.ok
  exact e
theorem c_0 : ((0 : Nat) : Int) = 0 := rfl
theorem c_1 : ((1 : Nat) : Int) = 1 := rfl
theorem c_2 : ((2 : Nat) : Int) = 2 := rfl
theorem c_3 : ((3 : Nat) : Int) = 3 := rfl
theorem c_4 : ((4 : Nat) : Int) = 4 := rfl
theorem c_5 : ((5 : Nat) : Int) = 5 := rfl
theorem c_6 : ((6 : Nat) : Int) = 6 := rfl
theorem c_7 : ((7 : Nat) : Int) = 7 := rfl
theorem c_8 : ((8 : Nat) : Int) = 8 := rfl
theorem c_9 : ((9 : Nat) : Int) = 9 := rfl
theorem c_10 : ((10 : Nat) : Int) = 10 := rfl
theorem c_11 : ((11 : Nat) : Int) = 11 := rfl
theorem c_12 : ((12 : Nat) : Int) = 12 := rfl
theorem sz_0 : (0 ≤ sizeLine) = True := eq_true (by rw [sizeLine_eq]; omega)
theorem sz_1 : (1 ≤ sizeLine) = True := eq_true (by rw [sizeLine_eq]; omega)
theorem sz_2 : (2 ≤ sizeLine) = True := eq_true (by rw [sizeLine_eq]; omega)
theorem sz_3 : (3 ≤ sizeLine) = True := eq_true (by rw [sizeLine_eq]; omega)
theorem sz_4 : (4 ≤ sizeLine) = True := eq_true (by rw [sizeLine_eq]; omega)
theorem sz_5 : (5 ≤ sizeLine) = True := eq_true (by rw [sizeLine_eq]; omega)
theorem sz_6 : (6 ≤ sizeLine) = True := eq_true (by rw [sizeLine_eq]; omega)
theorem sz_7 : (7 ≤ sizeLine) = True := eq_true (by rw [sizeLine_eq]; omega)
theorem sz_8 : (8 ≤ sizeLine) = True := eq_true (by rw [sizeLine_eq]; omega)
theorem sz_9 : (9 ≤ sizeLine) = True := eq_true (by rw [sizeLine_eq]; omega)
theorem sz_10 : (10 ≤ sizeLine) = True := eq_true (by rw [sizeLine_eq]; omega)
theorem sz_11 : (11 ≤ sizeLine) = True := eq_true (by rw [sizeLine_eq]; omega)
theorem sz_12 : (12 ≤ sizeLine) = True := eq_true (by rw [sizeLine_eq]; omega)
theorem sz_13 : (13 ≤ sizeLine) = True := eq_true (by rw [sizeLine_eq]; omega)
theorem sz_14 : (14 ≤ sizeLine) = True := eq_true (by rw [sizeLine_eq]; omega)
theorem sz_15 : (15 ≤ sizeLine) = True := eq_true (by rw [sizeLine_eq]; omega)
theorem sz_16 : (16 ≤ sizeLine) = True := eq_true (by rw [sizeLine_eq]; omega)
theorem off {S T : Sto} {k : Nat} : (S ++ T)[S.length + k]? = T[k]? := by rw [List.getElem?_append_right (Nat.le_add_right _ _), Nat.add_sub_cancel_left]
theorem w_addFI {a b : Int} {S : Sto} {Q : D → Sto → Prop} {X : Exc → Sto → Prop} : Wp (addF (.int a) (.int b) S) Q X = Q (.int (a + b)) S := rfl
theorem w_addFL2 {a b : List D} {S : Sto} {Q : D → Sto → Prop} {X : Exc → Sto → Prop} : Wp (addF (.frl a) (.frl b) S) Q X = Wp (if a.length + b.length ≤ sizeLine then .ok (.frl (a ++ b)) S else .stuck) Q X := rfl
theorem w_addFT2 {a b : List D} {S : Sto} {Q : D → Sto → Prop} {X : Exc → Sto → Prop} : Wp (addF (.tup a) (.tup b) S) Q X = Wp (if a.length + b.length ≤ sizeLine then .ok (.tup (a ++ b)) S else .stuck) Q X := rfl
theorem w_addS {a b : Str} {S : Sto} {Q : D → Sto → Prop} {X : Exc → Sto → Prop} (h : a.length + b.length ≤ sizeLine) : Wp (addD (.str a) (.str b) S) Q X = Q (.str (a ++ b)) S := by simp only [addD, if_pos h]; rfl
theorem w_frzI {i : Int} {S0 S : Sto} {Q : D → Sto → Prop} {X : Exc → Sto → Prop} : Wp (frzD S0 (.int i) S) Q X = Q (.int i) S := rfl
theorem w_frzS {i : Str} {S0 S : Sto} {Q : D → Sto → Prop} {X : Exc → Sto → Prop} : Wp (frzD S0 (.str i) S) Q X = Q (.str i) S := rfl
theorem w_frzT {i : List D} {S0 S : Sto} {Q : D → Sto → Prop} {X : Exc → Sto → Prop} : Wp (frzD S0 (.tup i) S) Q X = Q (.tup i) S := rfl
theorem w_frzF {i : List D} {S0 S : Sto} {Q : D → Sto → Prop} {X : Exc → Sto → Prop} : Wp (frzD S0 (.frl i) S) Q X = Q (.frl i) S := rfl
theorem w_frzN {S0 S : Sto} {Q : D → Sto → Prop} {X : Exc → Sto → Prop} : Wp (frzD S0 .non S) Q X = Q .non S := rfl
theorem w_frzB {i : Bool} {S0 S : Sto} {Q : D → Sto → Prop} {X : Exc → Sto → Prop} : Wp (frzD S0 (.bl i) S) Q X = Q (.bl i) S := rfl
theorem get_last {S : Sto} {o : DO} : (S ++ [o])[S.length]? = some o := by simp
theorem it_tuplelist_int : ((["tuple", "list"] : List String).any fun b => isT "int" b) = false := by decide +kernel
theorem it_tuplelist_str : ((["tuple", "list"] : List String).any fun b => isT "str" b) = false := by decide +kernel
theorem it_tuplelist_tuple : ((["tuple", "list"] : List String).any fun b => isT "tuple" b) = true := by decide +kernel
theorem it_tuplelist_list : ((["tuple", "list"] : List String).any fun b => isT "list" b) = true := by decide +kernel
theorem it_tuplelist_bool : ((["tuple", "list"] : List String).any fun b => isT "bool" b) = false := by decide +kernel
theorem it_tuplelist_NoneType : ((["tuple", "list"] : List String).any fun b => isT "NoneType" b) = false := by decide +kernel
theorem it_list_int : ((["list"] : List String).any fun b => isT "int" b) = false := by decide +kernel
theorem it_list_str : ((["list"] : List String).any fun b => isT "str" b) = false := by decide +kernel
theorem it_list_tuple : ((["list"] : List String).any fun b => isT "tuple" b) = false := by decide +kernel
theorem it_list_list : ((["list"] : List String).any fun b => isT "list" b) = true := by decide +kernel
theorem it_list_bool : ((["list"] : List String).any fun b => isT "bool" b) = false := by decide +kernel
theorem it_list_NoneType : ((["list"] : List String).any fun b => isT "NoneType" b) = false := by decide +kernel
theorem it_tuple_int : ((["tuple"] : List String).any fun b => isT "int" b) = false := by decide +kernel
theorem it_tuple_str : ((["tuple"] : List String).any fun b => isT "str" b) = false := by decide +kernel
theorem it_tuple_tuple : ((["tuple"] : List String).any fun b => isT "tuple" b) = true := by decide +kernel
theorem it_tuple_list : ((["tuple"] : List String).any fun b => isT "list" b) = false := by decide +kernel
theorem it_tuple_bool : ((["tuple"] : List String).any fun b => isT "bool" b) = false := by decide +kernel
theorem it_tuple_NoneType : ((["tuple"] : List String).any fun b => isT "NoneType" b) = false := by decide +kernel
theorem it_bool_int : ((["bool"] : List String).any fun b => isT "int" b) = false := by decide +kernel
theorem it_bool_str : ((["bool"] : List String).any fun b => isT "str" b) = false := by decide +kernel
theorem it_bool_tuple : ((["bool"] : List String).any fun b => isT "tuple" b) = false := by decide +kernel
theorem it_bool_list : ((["bool"] : List String).any fun b => isT "list" b) = false := by decide +kernel
theorem it_bool_bool : ((["bool"] : List String).any fun b => isT "bool" b) = true := by decide +kernel
theorem it_bool_NoneType : ((["bool"] : List String).any fun b => isT "NoneType" b) = false := by decide +kernel
theorem it_int_int : ((["int"] : List String).any fun b => isT "int" b) = true := by decide +kernel
theorem it_int_str : ((["int"] : List String).any fun b => isT "str" b) = false := by decide +kernel
theorem it_int_tuple : ((["int"] : List String).any fun b => isT "tuple" b) = false := by decide +kernel
theorem it_int_list : ((["int"] : List String).any fun b => isT "list" b) = false := by decide +kernel
theorem it_int_bool : ((["int"] : List String).any fun b => isT "bool" b) = true := by decide +kernel
theorem it_int_NoneType : ((["int"] : List String).any fun b => isT "NoneType" b) = false := by decide +kernel
theorem it_str_int : ((["str"] : List String).any fun b => isT "int" b) = false := by decide +kernel
theorem it_str_str : ((["str"] : List String).any fun b => isT "str" b) = true := by decide +kernel
theorem it_str_tuple : ((["str"] : List String).any fun b => isT "tuple" b) = false := by decide +kernel
theorem it_str_list : ((["str"] : List String).any fun b => isT "list" b) = false := by decide +kernel
theorem it_str_bool : ((["str"] : List String).any fun b => isT "bool" b) = false := by decide +kernel
theorem it_str_NoneType : ((["str"] : List String).any fun b => isT "NoneType" b) = false := by decide +kernel
theorem ty_int {i : Int} {S : Sto} : tyS (.int i) S = some "int" := rfl
theorem ty_str {i : Str} {S : Sto} : tyS (.str i) S = some "str" := rfl
theorem ty_tuple {i : List D} {S : Sto} : tyS (.tup i) S = some "tuple" := rfl
theorem ty_list {i : List D} {S : Sto} : tyS (.frl i) S = some "list" := rfl
theorem ty_bool {i : Bool} {S : Sto} : tyS (.bl i) S = some "bool" := rfl
theorem ty_non {S : Sto} : tyS .non S = some "NoneType" := rfl
theorem w_eqB {a b : Bool} {S : Sto} {Q : D → Sto → Prop} {X : Exc → Sto → Prop} : Wp (eqD (.bl a) (.bl b) S) Q X = Q (.bl (decide (a = b))) S := rfl
theorem w_neB {a b : Bool} {S : Sto} {Q : D → Sto → Prop} {X : Exc → Sto → Prop} : Wp (neD (.bl a) (.bl b) S) Q X = Q (.bl (!decide (a = b))) S := rfl
theorem w_isN {x : D} {S : Sto} {Q : D → Sto → Prop} {X : Exc → Sto → Prop} : Wp (isD x .non S) Q X = Q (.bl (decide (x = .non))) S := by cases x <;> rfl
theorem w_isNotN {x : D} {S : Sto} {Q : D → Sto → Prop} {X : Exc → Sto → Prop} : Wp (isNotD x .non S) Q X = Q (.bl (!decide (x = .non))) S := by cases x <;> rfl
theorem nn_int {i : Int} : (D.int i = D.non) = False := eq_false (by intro h; cases h)
theorem nn_str {i : Str} : (D.str i = D.non) = False := eq_false (by intro h; cases h)
theorem nn_tuple {i : List D} : (D.tup i = D.non) = False := eq_false (by intro h; cases h)
theorem nn_list {i : List D} : (D.frl i = D.non) = False := eq_false (by intro h; cases h)
theorem nn_bool {i : Bool} : (D.bl i = D.non) = False := eq_false (by intro h; cases h)
end DL

namespace DL
open PySem PySem.Spec PyProof.Rows L2
end DL

namespace DL
open PySem PySem.Spec PyProof.Rows L2
theorem Wp.noExc {α : Type} {r : Res α} {Q : α → Sto → Prop} {X : Exc → Sto → Prop} (h : Wp r Q (fun _ _ => False)) : Wp r.noExc Q X := by
  cases r with
  | ok a S => exact h
  | exc x S => exact h.elim
  | stuck => exact h.elim
theorem w_while {fc : Sl → Sto → Res Bool} {fb : Sl → Sto → Res Fl} {Q : Fl → Sto → Prop} {X : Exc → Sto → Prop} (I : Nat → Sl → Sto → Prop)
    (h : ∀ n sd S, I n sd S → Wp (fc sd S) (fun b S1 => if b = true then Wp (fb sd S1) (fun fl S2 => match fl with
      | .nx sd2 => ∃ k, k < n ∧ I k sd2 S2
      | .cnt sd2 => ∃ k, k < n ∧ I k sd2 S2
      | .brk sd2 => Q (.nx sd2) S2
      | .ret d => Q (.ret d) S2) X else Q (.nx sd) S1) X) :
    ∀ (f n : Nat) (sd : Sl) (S : Sto), n < f → I n sd S → Wp (whileD fc fb f sd S) Q X := by
  intro f
  induction f with
  | zero => intro n sd S hn _; omega
  | succ f ih =>
    intro n sd S hn hi
    unfold whileD
    rw [w_bind]
    refine Wp.mono (h n sd S hi) (fun b S1 h1 => ?_) fun _ _ z => z
    show Wp (if b then _ else _) Q X
    cases b with
    | false => rw [if_neg (by simp)] at h1; exact h1
    | true =>
      rw [if_pos rfl] at h1
      show Wp ((fb sd S1).bind _) Q X
      rw [w_bind]
      refine Wp.mono h1 (fun fl S2 h2 => ?_) fun _ _ z => z
      show Wp (match fl with
        | .nx sd2 => whileD fc fb f sd2 S2
        | .cnt sd2 => whileD fc fb f sd2 S2
        | .brk sd2 => .ok (.nx sd2) S2
        | .ret d => .ok (.ret d) S2) Q X
      cases fl with
      | nx sd2 => obtain ⟨k, hk, hi2⟩ := h2; exact ih k sd2 S2 (by omega) hi2
      | cnt sd2 => obtain ⟨k, hk, hi2⟩ := h2; exact ih k sd2 S2 (by omega) hi2
      | brk sd2 => exact h2
      | ret d => exact h2
def TD : Nat → D → Prop
  | _, .str w => PyData.strOk w = true
  | _, .int _ => True
  | n + 1, .tup ds => ∀ d ∈ ds, TD n d
  | _, _ => False
theorem TD.up : ∀ {n : Nat} {d : D}, TD n d → TD (n + 1) d
  | _, .str w, h => by cases ‹Nat› <;> exact h
  | _, .int _, _ => by cases ‹Nat› <;> trivial
  | n + 1, .tup ds, h => fun d hd => TD.up (h d hd)
  | 0, .tup _, h => h.elim
  | 0, .non, h => h.elim
  | 0, .bl _, h => h.elim
  | 0, .frl _, h => h.elim
  | 0, .ref _, h => h.elim
  | 0, .exn _ _ _ _, h => h.elim
  | _ + 1, .non, h => h.elim
  | _ + 1, .bl _, h => h.elim
  | _ + 1, .frl _, h => h.elim
  | _ + 1, .ref _, h => h.elim
  | _ + 1, .exn _ _ _ _, h => h.elim
theorem TD.le {n m : Nat} {d : D} (h : n ≤ m) (t : TD n d) : TD m d := by
  induction h with
  | refl => exact t
  | step _ ih => exact ih.up
theorem mapO_all {f : D → Option PyData} {P : PyData → Prop} : ∀ (ds : List D), (∀ d ∈ ds, ∃ p, f d = some p ∧ P p) → ∃ ps, mapO f ds = some ps ∧ (∀ p ∈ ps, P p) ∧ ps.length = ds.length
  | [], _ => ⟨[], rfl, (fun _ h => nomatch h), rfl⟩
  | d :: ds, h => by
    obtain ⟨p, e, hp⟩ := h d (by simp)
    obtain ⟨ps, e2, h2, h3⟩ := mapO_all ds fun x hx => h x (by simp [hx])
    refine ⟨p :: ps, ?_, ?_, by simp [h3]⟩
    · unfold mapO; rw [e, e2]
    · intro x hx
      rcases List.mem_cons.mp hx with rfl | hx
      · exact hp
      · exact h2 x hx
theorem lay_all : ∀ {ps : List PyData}, (∀ p ∈ ps, p.canLay0 = true) → PyData.canLayAll0 ps = true
  | [], _ => by simp [PyData.canLayAll0]
  | p :: ps, h => by
    simp only [PyData.canLayAll0, Bool.and_eq_true]
    exact ⟨h p (by simp), lay_all fun x hx => h x (by simp [hx])⟩
theorem depth_all {n : Nat} : ∀ {ps : List PyData}, (∀ p ∈ ps, p.depth ≤ n) → PyData.depthAll ps ≤ n
  | [], _ => by simp [PyData.depthAll]
  | p :: ps, h => by
    simp only [PyData.depthAll]
    exact Nat.max_le.mpr ⟨h p (by simp), depth_all fun x hx => h x (by simp [hx])⟩
theorem TD.toP {S : Sto} : ∀ {n m : Nat} {d : D}, TD n d → n ≤ m → ∃ p, DL.toP S m d = some p ∧ (p.canLay0 = true ∧ p.depth ≤ n)
  | n, m, .str w, h, _ => by
    have h' : PyData.strOk w = true := by cases n <;> exact h
    exact ⟨.str w, by cases m <;> rfl, by simp [PyData.canLay0, h'], by simp [PyData.depth]⟩
  | n, m, .int i, _, _ => ⟨.int i, by cases m <;> rfl, by simp [PyData.canLay0], by simp [PyData.depth]⟩
  | n + 1, 0, .tup ds, _, hm => by omega
  | n + 1, m + 1, .tup ds, h, hm => by
    obtain ⟨ps, e, hp, _⟩ := mapO_all (f := DL.toP S m) (P := fun p => p.canLay0 = true ∧ p.depth ≤ n) ds fun d hd => TD.toP (h d hd) (by omega)
    refine ⟨.tuple ps, ?_, ?_, ?_⟩
    · show (mapO (DL.toP S m) ds).map PyData.tuple = _
      rw [e]; rfl
    · simp only [PyData.canLay0]; exact lay_all fun p h => (hp p h).1
    · simp only [PyData.depth]; exact Nat.succ_le_succ (depth_all fun p h => (hp p h).2)
  | 0, _, .tup _, h, _ => h.elim
  | 0, _, .non, h, _ => h.elim
  | 0, _, .bl _, h, _ => h.elim
  | 0, _, .frl _, h, _ => h.elim
  | 0, _, .ref _, h, _ => h.elim
  | 0, _, .exn _ _ _ _, h, _ => h.elim
  | _ + 1, _, .non, h, _ => h.elim
  | _ + 1, _, .bl _, h, _ => h.elim
  | _ + 1, _, .frl _, h, _ => h.elim
  | _ + 1, _, .ref _, h, _ => h.elim
  | _ + 1, _, .exn _ _ _ _, h, _ => h.elim
end DL

namespace DL
open PySem PySem.Spec PyProof.Rows L2
def W (l : List Nat) : Str := ⟨l.toArray⟩
theorem W_cps (l : List Nat) : (W l).cps.toList = l := by simp [W]
theorem W_inj {a b : List Nat} : W a = W b ↔ a = b := ⟨fun h => by have := congrArg (fun s : Str => s.cps.toList) h; simpa [W_cps] using this, fun h => by rw [h]⟩
theorem W_app (a b : List Nat) : W a ++ W b = W (a ++ b) := by
  show (⟨(W a).cps ++ (W b).cps⟩ : Str) = _
  simp [W]
theorem W_len (l : List Nat) : (W l).length = l.length := by simp [W, Str.length]
theorem W_empty : Str.ofString "" = W [] := by decide +kernel
theorem W_01 : Str.ofString "01" = W [48, 49] := by decide +kernel
theorem W_0 : Str.ofString "0" = W [48] := by decide +kernel
theorem W_1 : Str.ofString "1" = W [49] := by decide +kernel
def Wok (l : List Nat) : Prop := ∀ c ∈ l, c < 1114112
theorem strOk_W {l : List Nat} (h : Wok l) : PyData.strOk (W l) = true := by
  unfold PyData.strOk
  rw [Array.all_eq_true_iff_forall_mem]
  intro c hc
  exact decide_eq_true (h c (by simpa [W] using hc))
def GD : Nat → D → Prop
  | _, .str w => PyData.strOk w = true
  | _, .int _ => True
  | _, .non => True
  | n + 1, .tup ds => ∀ d ∈ ds, GD n d
  | n + 1, .frl ds => ∀ d ∈ ds, GD n d
  | _, _ => False
theorem gd_int {n : Nat} {i : Int} : GD n (.int i) := by cases n <;> trivial
theorem gd_non {n : Nat} : GD n .non := by cases n <;> trivial
theorem gd_str {n : Nat} {w : Str} (h : PyData.strOk w = true) : GD n (.str w) := by cases n <;> exact h
theorem gd_W {n : Nat} {l : List Nat} (h : Wok l) : GD n (.str (W l)) := gd_str (strOk_W h)
theorem gd_tup {n : Nat} {ds : List D} (h : ∀ d ∈ ds, GD n d) : GD (n + 1) (.tup ds) := h
theorem gd_frl {n : Nat} {ds : List D} (h : ∀ d ∈ ds, GD n d) : GD (n + 1) (.frl ds) := h
theorem GD.up : ∀ {n : Nat} {d : D}, GD n d → GD (n + 1) d
  | _, .str w, h => by cases ‹Nat› <;> exact h
  | _, .int _, _ => gd_int
  | _, .non, _ => gd_non
  | n + 1, .tup ds, h => fun d hd => GD.up (h d hd)
  | n + 1, .frl ds, h => fun d hd => GD.up (h d hd)
  | 0, .tup _, h => h.elim
  | 0, .frl _, h => h.elim
  | 0, .bl _, h => h.elim
  | 0, .ref _, h => h.elim
  | 0, .exn _ _ _ _, h => h.elim
  | _ + 1, .bl _, h => h.elim
  | _ + 1, .ref _, h => h.elim
  | _ + 1, .exn _ _ _ _, h => h.elim
theorem GD.le {n m : Nat} {d : D} (t : GD n d) (h : n ≤ m) : GD m d := by
  induction h with
  | refl => exact t
  | step _ ih => exact ih.up
mutual
def pd : D → PyData
  | .non => .none
  | .bl b => .bool b
  | .int i => .int i
  | .str x => .str x
  | .tup ds => .tuple (pds ds)
  | .frl ds => .list (pds ds)
  | .ref _ => .none
  | .exn _ _ _ _ => .none
def pds : List D → List PyData
  | [] => []
  | d :: ds => pd d :: pds ds
end
theorem mapO_pd {f : D → Option PyData} : ∀ (ds : List D), (∀ d ∈ ds, f d = some (pd d)) → mapO f ds = some (pds ds)
  | [], _ => rfl
  | d :: ds, h => by
    unfold mapO
    rw [h d (by simp), mapO_pd ds fun x hx => h x (by simp [hx])]
    rfl
theorem gd_toP {S : Sto} : ∀ {n k : Nat} {d : D}, GD n d → n ≤ k → toP S k d = some (pd d)
  | n, k, .str w, _, _ => by cases k <;> rfl
  | n, k, .int _, _, _ => by cases k <;> rfl
  | n, k, .non, _, _ => by cases k <;> rfl
  | n + 1, 0, .tup ds, _, hk => by omega
  | n + 1, 0, .frl ds, _, hk => by omega
  | n + 1, k + 1, .tup ds, h, hk => by
    show (mapO (toP S k) ds).map PyData.tuple = _
    rw [mapO_pd ds fun d hd => gd_toP (h d hd) (by omega)]; rfl
  | n + 1, k + 1, .frl ds, h, hk => by
    show (mapO (toP S k) ds).map PyData.list = _
    rw [mapO_pd ds fun d hd => gd_toP (h d hd) (by omega)]; rfl
  | 0, _, .tup _, h, _ => h.elim
  | 0, _, .frl _, h, _ => h.elim
  | 0, _, .bl _, h, _ => h.elim
  | 0, _, .ref _, h, _ => h.elim
  | 0, _, .exn _ _ _ _, h, _ => h.elim
  | _ + 1, _, .bl _, h, _ => h.elim
  | _ + 1, _, .ref _, h, _ => h.elim
  | _ + 1, _, .exn _ _ _ _, h, _ => h.elim
theorem pds_mem : ∀ {ds : List D} {p : PyData}, p ∈ pds ds → ∃ d ∈ ds, p = pd d
  | [], _, h => by cases h
  | d :: ds, p, h => by
    have h' : p ∈ pd d :: pds ds := h
    rcases List.mem_cons.mp h' with rfl | h'
    · exact ⟨d, by simp, rfl⟩
    · obtain ⟨e, he, rfl⟩ := pds_mem h'
      exact ⟨e, by simp [he], rfl⟩
theorem gd_lay : ∀ {n : Nat} {d : D}, GD n d → (pd d).canLay0 = true ∧ (pd d).depth ≤ n
  | n, .str w, h => by
    have h' : PyData.strOk w = true := by cases n <;> exact h
    exact ⟨by simp [pd, PyData.canLay0, h'], by simp [pd, PyData.depth]⟩
  | n, .int _, _ => ⟨by simp [pd, PyData.canLay0], by simp [pd, PyData.depth]⟩
  | n, .non, _ => ⟨by simp [pd, PyData.canLay0], by simp [pd, PyData.depth]⟩
  | n + 1, .tup ds, h => by
    have key : ∀ p ∈ pds ds, p.canLay0 = true ∧ p.depth ≤ n := fun p hp => by
      obtain ⟨d, hd, rfl⟩ := pds_mem hp
      exact gd_lay (h d hd)
    refine ⟨?_, ?_⟩
    · simp only [pd, PyData.canLay0]; exact lay_all fun p h => (key p h).1
    · simp only [pd, PyData.depth]; exact Nat.succ_le_succ (depth_all fun p h => (key p h).2)
  | n + 1, .frl ds, h => by
    have key : ∀ p ∈ pds ds, p.canLay0 = true ∧ p.depth ≤ n := fun p hp => by
      obtain ⟨d, hd, rfl⟩ := pds_mem hp
      exact gd_lay (h d hd)
    refine ⟨?_, ?_⟩
    · simp only [pd, PyData.canLay0]; exact lay_all fun p h => (key p h).1
    · simp only [pd, PyData.depth]; exact Nat.succ_le_succ (depth_all fun p h => (key p h).2)
  | 0, .tup _, h => h.elim
  | 0, .frl _, h => h.elim
  | 0, .bl _, h => h.elim
  | 0, .ref _, h => h.elim
  | 0, .exn _ _ _ _, h => h.elim
  | _ + 1, .bl _, h => h.elim
  | _ + 1, .ref _, h => h.elim
  | _ + 1, .exn _ _ _ _, h => h.elim
theorem gd_shaped {n : Nat} {d : D} (h : GD n d) (hn : n ≤ 64) : SeqAt.shaped (pd d) = true := by
  unfold SeqAt.shaped
  obtain ⟨a, b⟩ := gd_lay h
  rw [a, decide_eq_true (Nat.le_trans b hn)]; rfl
mutual
theorem eqv_pd : ∀ (x y : D) {n m : Nat}, GD n x → GD m y → PyData.eqv (pd x) (pd y) = decide (x = y)
  | .non, .non, _, _, _, _ => by simp [pd, PyData.eqv]
  | .int a, .int b, _, _, _, _ => by by_cases h : a = b <;> simp [pd, PyData.eqv, h]
  | .str a, .str b, _, _, _, _ => by by_cases h : a = b <;> simp [pd, PyData.eqv, h]
  | .tup a, .tup b, 0, _, h, _ => h.elim
  | .tup a, .tup b, _ + 1, 0, _, h => h.elim
  | .tup a, .tup b, n + 1, m + 1, h, h2 => by
    simp only [pd, PyData.eqv]
    rw [eqv_pds a b h h2]
    by_cases e : a = b <;> simp [e]
  | .frl a, .frl b, 0, _, h, _ => h.elim
  | .frl a, .frl b, _ + 1, 0, _, h => h.elim
  | .frl a, .frl b, n + 1, m + 1, h, h2 => by
    simp only [pd, PyData.eqv]
    rw [eqv_pds a b h h2]
    by_cases e : a = b <;> simp [e]
  | .non, .int _, _, _, _, _ => by simp [pd, PyData.eqv]
  | .non, .str _, _, _, _, _ => by simp [pd, PyData.eqv]
  | .non, .tup _, _, _, _, _ => by simp [pd, PyData.eqv]
  | .non, .frl _, _, _, _, _ => by simp [pd, PyData.eqv]
  | .int _, .non, _, _, _, _ => by simp [pd, PyData.eqv]
  | .int _, .str _, _, _, _, _ => by simp [pd, PyData.eqv]
  | .int _, .tup _, _, _, _, _ => by simp [pd, PyData.eqv]
  | .int _, .frl _, _, _, _, _ => by simp [pd, PyData.eqv]
  | .str _, .non, _, _, _, _ => by simp [pd, PyData.eqv]
  | .str _, .int _, _, _, _, _ => by simp [pd, PyData.eqv]
  | .str _, .tup _, _, _, _, _ => by simp [pd, PyData.eqv]
  | .str _, .frl _, _, _, _, _ => by simp [pd, PyData.eqv]
  | .tup _, .non, _, _, _, _ => by simp [pd, PyData.eqv]
  | .tup _, .int _, _, _, _, _ => by simp [pd, PyData.eqv]
  | .tup _, .str _, _, _, _, _ => by simp [pd, PyData.eqv]
  | .tup _, .frl _, _, _, _, _ => by simp [pd, PyData.eqv]
  | .frl _, .non, _, _, _, _ => by simp [pd, PyData.eqv]
  | .frl _, .int _, _, _, _, _ => by simp [pd, PyData.eqv]
  | .frl _, .str _, _, _, _, _ => by simp [pd, PyData.eqv]
  | .frl _, .tup _, _, _, _, _ => by simp [pd, PyData.eqv]
  | .bl _, _, n, _, h, _ => by cases n <;> exact h.elim
  | .ref _, _, n, _, h, _ => by cases n <;> exact h.elim
  | .exn _ _ _ _, _, n, _, h, _ => by cases n <;> exact h.elim
  | _, .bl _, _, n, _, h => by cases n <;> exact h.elim
  | _, .ref _, _, n, _, h => by cases n <;> exact h.elim
  | _, .exn _ _ _ _, _, n, _, h => by cases n <;> exact h.elim
theorem eqv_pds : ∀ (xs ys : List D) {n m : Nat}, (∀ d ∈ xs, GD n d) → (∀ d ∈ ys, GD m d) → PyData.eqvAll (pds xs) (pds ys) = decide (xs = ys)
  | [], [], _, _, _, _ => by simp [pds, PyData.eqvAll]
  | [], _ :: _, _, _, _, _ => by simp [pds, PyData.eqvAll]
  | _ :: _, [], _, _, _, _ => by simp [pds, PyData.eqvAll]
  | x :: xs, y :: ys, n, m, hx, hy => by
    simp only [pds, PyData.eqvAll]
    rw [eqv_pd x y (hx x (by simp)) (hy y (by simp)), eqv_pds xs ys (fun d hd => hx d (by simp [hd])) (fun d hd => hy d (by simp [hd]))]
    by_cases e : x = y <;> by_cases e2 : xs = ys <;> simp [e, e2]
end
theorem same_gd {x y : D} {S : Sto} {n m : Nat} (hx : GD n x) (hy : GD m y) (hn : n ≤ 60 := by decide) (hm : m ≤ 60 := by decide) : sameD x y S = some (decide (x = y)) := by
  have e1 := gd_toP (S := S) hx hn
  have e2 := gd_toP (S := S) hy hm
  have s1 := gd_shaped hx (by omega)
  have s2 := gd_shaped hy (by omega)
  have key : (match toP S 60 x, toP S 60 y with
    | some a, some b => if SeqAt.shaped a && SeqAt.shaped b then some (PyData.eqv a b) else none
    | _, _ => none) = some (decide (x = y)) := by
    rw [e1, e2]
    simp only [s1, s2, Bool.and_self, if_true]
    rw [eqv_pd x y hx hy]
  unfold sameD
  split
  · simp
  · simp
  · simp
  · exact key
theorem w_eqG {x y : D} {S : Sto} {Q : D → Sto → Prop} {X : Exc → Sto → Prop} {n m : Nat} (hx : GD n x) (hy : GD m y) (hn : n ≤ 60 := by decide) (hm : m ≤ 60 := by decide) : Wp (eqD x y S) Q X = Q (.bl (decide (x = y))) S := by
  simp only [eqD, same_gd hx hy hn hm]; rfl
theorem w_neG {x y : D} {S : Sto} {Q : D → Sto → Prop} {X : Exc → Sto → Prop} {n m : Nat} (hx : GD n x) (hy : GD m y) (hn : n ≤ 60 := by decide) (hm : m ≤ 60 := by decide) : Wp (neD x y S) Q X = Q (.bl (!decide (x = y))) S := by
  simp only [neD, same_gd hx hy hn hm]; rfl
mutual
theorem gd_blw {k : Nat} : ∀ {n : Nat} (d : D), GD n d → d.blw k = true
  | _, .str _, _ => rfl
  | _, .int _, _ => rfl
  | _, .non, _ => rfl
  | n + 1, .tup ds, h => gd_blws ds h
  | n + 1, .frl ds, h => gd_blws ds h
  | 0, .tup _, h => h.elim
  | 0, .frl _, h => h.elim
  | 0, .bl _, h => h.elim
  | 0, .ref _, h => h.elim
  | 0, .exn _ _ _ _, h => h.elim
  | _ + 1, .bl _, h => h.elim
  | _ + 1, .ref _, h => h.elim
  | _ + 1, .exn _ _ _ _, h => h.elim
theorem gd_blws {k : Nat} : ∀ {n : Nat} (ds : List D), (∀ d ∈ ds, GD n d) → D.blws k ds = true
  | _, [], _ => rfl
  | n, d :: ds, h => by
    show (D.blw k d && D.blws k ds) = true
    rw [gd_blw d (h d (by simp)), gd_blws ds fun x hx => h x (by simp [hx])]; rfl
end
theorem blws_all {k : Nat} : ∀ {ds : List D}, (∀ d ∈ ds, d.blw k = true) → D.blws k ds = true
  | [], _ => rfl
  | d :: ds, h => by
    show (D.blw k d && D.blws k ds) = true
    rw [h d (by simp), blws_all fun x hx => h x (by simp [hx])]; rfl
theorem has_sign {c : Nat} {l : List Nat} {S : Sto} : hasD (.str (W [c])) (.str (W l)) S = some (decide (c ∈ l)) := by
  simp only [hasD, W_cps]
theorem cutOk_app (S T : Sto) : cutOk S (S ++ T) = true := by
  unfold cutOk
  rw [Bool.and_eq_true]
  refine ⟨decide_eq_true (by simp), List.all_eq_true.mpr fun i hi => ?_⟩
  have hi' := List.mem_range.mp hi
  unfold sameO
  rw [List.getElem?_append_left hi', decide_eq_true rfl, Bool.true_or]
theorem cutOk_set (S T : Sto) (l : Nat) (o : DO) (ho : o.blw S.length = true) : cutOk S (S.set l o ++ T) = true := by
  unfold cutOk
  rw [Bool.and_eq_true]
  refine ⟨decide_eq_true (by simp), List.all_eq_true.mpr fun i hi => ?_⟩
  have hi' := List.mem_range.mp hi
  unfold sameO
  rw [List.getElem?_append_left (by simpa using hi')]
  by_cases e : l = i
  · subst e
    rw [List.getElem?_set_self hi']
    simp [ho]
  · rw [List.getElem?_set_ne e, decide_eq_true rfl, Bool.true_or]
theorem cut_app {d : D} {S T : Sto} (h : d.blw S.length = true) : cutR S (.ok d (S ++ T)) = .ok d S := by
  simp only [cutR]
  rw [if_pos (cutOk_app S T), if_pos h, List.take_left]
theorem cut_set {d : D} {S T : Sto} {l : Nat} {o : DO} (h : d.blw S.length = true) (ho : o.blw S.length = true) : cutR S (.ok d (S.set l o ++ T)) = .ok d (S.set l o) := by
  simp only [cutR]
  rw [if_pos (cutOk_set S T l o ho), if_pos h]
  congr 1
  rw [List.take_append_of_le_length (by simp)]
  exact List.take_of_length_le (by simp)
def NX : Exc → Sto → Prop := fun _ _ => False
theorem fn_ok {n : Nat} {b : Sl → Sto → Res Fl} {ds : List D} {S : Sto} {v : D} (hv : v.blw S.length = true) (h : Wp (b (startD n ds) S) (kFn fun d S' => d = v ∧ ∃ T, S' = S ++ T) NX) : cutF (dFn n b) ds S = .ok v S := by
  have h' : Wp (dFn n b ds S) (fun d S' => d = v ∧ ∃ T, S' = S ++ T) NX := by rw [w_dFn]; exact h
  obtain ⟨d, S', e, rfl, T, rfl⟩ := Wp.ok h'
  unfold cutF
  rw [e, cut_app hv]
theorem app_nil (S : Sto) : ∃ T, S = S ++ T := ⟨[], by simp⟩
theorem frz_last {S : Sto} {xs : List D} (h : D.blws S.length xs = true) : frzD S (.ref S.length) (S ++ [.lst xs]) = .ok (.frl xs) S := by
  unfold frzD
  simp only [get_last]
  rw [if_pos ⟨Nat.le_refl _, cutOk_app S _, h⟩, List.take_left]
theorem ok_of_wp {α : Type} {r : Res α} {Q : α → Sto → Prop} (h : Wp r Q NX) : ∃ a S, r = .ok a S ∧ Q a S := Wp.ok h
theorem compF {α : Type} (xs : List α) (en : α → D) (P : α → Bool) (f : α → D) {vs : List Nat} {fi : Sl → Sto → Res ItD} {ga : D → Sl → Sto → Res Sl} {ft : Sl → Sto → Res Bool} {fe : Sl → Sto → Res D} {sd : Sl} {S : Sto}
    (hi : Wp (fi sd S) (fun it S1 => S1 = S ∧ it.items = xs.map en ∧ ∀ S', Grow S S' → it.chk S' = true) NX) (hl : (xs.filter P).length ≤ sizeLine)
    (hx : ∀ a ∈ xs, ∀ S', Grow S S' → Wp (ga (en a) (wipeD sd vs) S') (fun sd1 S1 => S1 = S' ∧ Wp (ft sd1 S') (fun b S2 => S2 = S' ∧ b = P a ∧ (P a = true → Wp (fe sd1 S') (fun y S3 => S3 = S' ∧ y = f a) NX)) NX) NX)
    (hb : ∀ a ∈ xs, P a = true → (f a).blw S.length = true) : dFrz (dComp vs fi ga ft fe) sd S = .ok (.frl ((xs.filter P).map f)) S := by
  obtain ⟨it, S1, e1, rfl, e2, e3⟩ := ok_of_wp hi
  have key : ∀ (ys : List α) (acc : List D), (∀ a ∈ ys, a ∈ xs) → acc.length + (ys.filter P).length ≤ sizeLine → compD it.chk ga ft fe S1.length (wipeD sd vs) (ys.map en) (S1 ++ [.lst acc]) = .ok () (S1 ++ [.lst (acc ++ (ys.filter P).map f)]) := by
    intro ys
    induction ys with
    | nil =>
      intro acc _ _
      show (if it.chk (S1 ++ [.lst acc]) = true then Res.ok () (S1 ++ [.lst acc]) else .stuck) = _
      rw [if_pos (e3 _ (Grow.one _ _))]
      simp
    | cons a ys ih =>
      intro acc hm hlen
      obtain ⟨sd1, S2, g1, rfl, h2⟩ := ok_of_wp (hx a (hm a (by simp)) (S1 ++ [.lst acc]) (Grow.one _ _))
      obtain ⟨b, S3, g2, rfl, rfl, h3⟩ := ok_of_wp h2
      rw [List.map_cons]
      unfold compD
      rw [if_pos (e3 _ (Grow.one _ _)), g1]
      simp only [Res.noExc, Res.bind, g2]
      cases hp : P a with
      | false =>
        rw [List.filter_cons_of_neg (by simp [hp])] at hlen ⊢
        rw [if_neg (by simp), ih acc (fun z hz => hm z (by simp [hz])) hlen]
      | true =>
        rw [List.filter_cons_of_pos hp] at hlen ⊢
        have hlen' : acc.length + 1 + (ys.filter P).length ≤ sizeLine := by simp at hlen; omega
        obtain ⟨y, S4, g3, rfl, rfl⟩ := ok_of_wp (h3 hp)
        rw [if_pos rfl, g3]
        simp only [Res.noExc, Res.bind]
        rw [List.getElem?_append_right (Nat.le_refl _)]
        simp only [Nat.sub_self, List.getElem?_cons_zero]
        rw [if_pos (by omega), set_last, ih (acc ++ [f a]) (fun z hz => hm z (by simp [hz])) (by simp; omega)]
        simp
  unfold dFrz dComp
  rw [e1]
  show ((compD it.chk ga ft fe S1.length (wipeD sd vs) it.items (S1 ++ [.lst []])).bind fun _ S2 => Res.ok (D.ref S1.length) S2).bind _ = _
  rw [e2, key xs [] (fun _ h => h) (by simpa using hl)]
  show frzD S1 (.ref S1.length) (S1 ++ [.lst ([] ++ (xs.filter P).map f)]) = _
  rw [List.nil_append, frz_last]
  refine blws_all fun d hd => ?_
  obtain ⟨a, ha, rfl⟩ := List.mem_map.mp hd
  exact hb a (List.mem_filter.mp ha).1 (List.mem_filter.mp ha).2
theorem filt_true {α : Type} : ∀ l : List α, l.filter (fun _ => true) = l
  | [] => rfl
  | a :: l => by rw [List.filter_cons_of_pos rfl, filt_true l]
theorem compM {α : Type} (xs : List α) (en : α → D) (f : α → D) {vs : List Nat} {fi : Sl → Sto → Res ItD} {ga : D → Sl → Sto → Res Sl} {fe : Sl → Sto → Res D} {sd : Sl} {S : Sto}
    (hi : Wp (fi sd S) (fun it S1 => S1 = S ∧ it.items = xs.map en ∧ ∀ S', Grow S S' → it.chk S' = true) NX) (hl : xs.length ≤ sizeLine)
    (hx : ∀ a ∈ xs, ∀ S', Grow S S' → Wp (ga (en a) (wipeD sd vs) S') (fun sd1 S1 => S1 = S' ∧ Wp (fe sd1 S') (fun y S3 => S3 = S' ∧ y = f a) NX) NX)
    (hb : ∀ a ∈ xs, (f a).blw S.length = true) : dFrz (dComp vs fi ga tYesD fe) sd S = .ok (.frl (xs.map f)) S := by
  have := compF (vs := vs) (ga := ga) (fe := fe) (ft := tYesD) xs en (fun _ => true) f hi (by rw [filt_true]; exact hl) (fun a ha S' g => ?_) (fun a ha _ => hb a ha)
  · rw [this, filt_true]
  · refine Wp.mono (hx a ha S' g) (fun sd1 S1 h => ⟨h.1, ?_⟩) fun _ _ z => z
    exact ⟨rfl, rfl, fun _ => h.2⟩
theorem w_loopP {α : Type} (en : α → D) (I : List α → Sl → Sto → Prop) (xs : List α) {chk : Sto → Bool} {ga : D → Sl → Sto → Res Sl} {fb : Sl → Sto → Res Fl} {Q : Fl → Sto → Prop} {X : Exc → Sto → Prop} {sd : Sl} {S : Sto}
    (hc : ∀ pre post sd S, xs = pre ++ post → I pre sd S → chk S = true) (hs : I [] sd S) (h0 : ∀ sd S, I xs sd S → Q (.nx sd) S)
    (h1 : ∀ pre a post sd S, xs = pre ++ a :: post → I pre sd S → Wp (ga (en a) sd S) (fun sd1 S1 => Wp (fb sd1 S1) (fun fl S2 => match fl with
      | .nx sd2 => I (pre ++ [a]) sd2 S2
      | .cnt sd2 => I (pre ++ [a]) sd2 S2
      | .brk sd2 => Q (.nx sd2) S2
      | .ret d => Q (.ret d) S2) X) X) : Wp (loopD chk ga fb (xs.map en) sd S) Q X := by
  refine w_loop (fun ds sd S => ∃ pre post, xs = pre ++ post ∧ ds = post.map en ∧ I pre sd S) ?_ ?_ ?_ _ _ _ ⟨[], xs, rfl, rfl, hs⟩
  · rintro ds sd S ⟨pre, post, e, _, h⟩
    exact hc pre post sd S e h
  · rintro sd S ⟨pre, post, e, e2, h⟩
    have : post = [] := by simpa using e2.symm
    subst this
    rw [List.append_nil] at e
    subst e
    exact h0 sd S h
  · rintro x ds sd S ⟨pre, post, e, e2, h⟩
    cases post with
    | nil => cases e2
    | cons a post =>
      rw [List.map_cons] at e2
      cases e2
      refine Wp.mono (h1 pre a post sd S e h) (fun sd1 S1 h2 => Wp.mono h2 (fun fl S2 h3 => ?_) fun _ _ z => z) fun _ _ z => z
      have ea : xs = (pre ++ [a]) ++ post := by rw [e]; simp
      cases fl with
      | nx sd2 => exact ⟨_, _, ea, rfl, h3⟩
      | cnt sd2 => exact ⟨_, _, ea, rfl, h3⟩
      | brk sd2 => exact h3
      | ret d => exact h3
inductive All2 {α β : Type} (P : α → β → Prop) : List α → List β → Prop where
  | nil : All2 P [] []
  | cons {a b as bs} : P a b → All2 P as bs → All2 P (a :: as) (b :: bs)
theorem All2.len {α β : Type} {P : α → β → Prop} {as : List α} {bs : List β} (h : All2 P as bs) : bs.length = as.length := by
  induction h with
  | nil => rfl
  | cons _ _ ih => simp [ih]
theorem All2.mem {α β : Type} {P : α → β → Prop} {as : List α} {bs : List β} (h : All2 P as bs) : ∀ b ∈ bs, ∃ a ∈ as, P a b := by
  induction h with
  | nil => intro b hb; cases hb
  | cons h _ ih =>
    intro b hb
    rcases List.mem_cons.mp hb with rfl | hb
    · exact ⟨_, by simp, h⟩
    · obtain ⟨a, ha, hp⟩ := ih b hb
      exact ⟨a, by simp [ha], hp⟩
theorem All2.ex {α β γ : Type} {P : α → β → Prop} {f : γ → β} {as : List α} {bs : List β} (h : All2 P as bs) (hp : ∀ a ∈ as, ∀ b, P a b → ∃ c, b = f c) : ∃ cs : List γ, bs = cs.map f := by
  induction h with
  | nil => exact ⟨[], rfl⟩
  | cons h1 _ ih =>
    obtain ⟨cs, rfl⟩ := ih fun a ha => hp a (by simp [ha])
    obtain ⟨c, rfl⟩ := hp _ (by simp) _ h1
    exact ⟨c :: cs, rfl⟩
theorem none_dec {α β : Type} [DecidableEq β] {p : α → Bool} {f : α → β} : ∀ l : List α, decide ((l.filter p).map f = []) = l.all fun a => !p a
  | [] => by simp
  | a :: l => by
    cases hp : p a with
    | true => rw [List.filter_cons_of_pos hp, List.all_cons, hp]; simp
    | false => rw [List.filter_cons_of_neg (by simp [hp]), none_dec l, List.all_cons, hp]; simp
theorem gd_nil : GD 1 (.frl []) := fun d hd => by cases hd
theorem gd_map {α : Type} {n : Nat} {f : α → D} {l : List α} (h : ∀ a ∈ l, GD n (f a)) : ∀ d ∈ l.map f, GD n d := fun d hd => by
  obtain ⟨a, ha, rfl⟩ := List.mem_map.mp hd
  exact h a ha
theorem w_eqNil {α : Type} {p : α → Bool} {f : α → D} {l : List α} {n : Nat} {S : Sto} {Q : D → Sto → Prop} {X : Exc → Sto → Prop} (h : ∀ a ∈ l, GD n (f a)) (hn : n ≤ 59 := by decide) : Wp (eqD (.frl ((l.filter p).map f)) (.frl []) S) Q X = Q (.bl (l.all fun a => !p a)) S := by
  rw [w_eqG (n := n + 1) (m := 1) (gd_frl (gd_map fun a ha => h a (List.mem_filter.mp ha).1)) gd_nil (by omega)]
  rw [show decide (D.frl ((l.filter p).map f) = D.frl []) = l.all (fun a => !p a) from by
    rw [← none_dec (p := p) (f := f) l]; simp]
theorem w_neNil {α : Type} {p : α → Bool} {f : α → D} {l : List α} {n : Nat} {S : Sto} {Q : D → Sto → Prop} {X : Exc → Sto → Prop} (h : ∀ a ∈ l, GD n (f a)) (hn : n ≤ 59 := by decide) : Wp (neD (.frl ((l.filter p).map f)) (.frl []) S) Q X = Q (.bl (!l.all fun a => !p a)) S := by
  rw [w_neG (n := n + 1) (m := 1) (gd_frl (gd_map fun a ha => h a (List.mem_filter.mp ha).1)) gd_nil (by omega)]
  rw [show decide (D.frl ((l.filter p).map f) = D.frl []) = l.all (fun a => !p a) from by
    rw [← none_dec (p := p) (f := f) l]; simp]
theorem w_enumP {α : Type} (en : α → D) (I : List α → Sl → Sto → Prop) (xs : List α) {chk : Sto → Bool} {ga : D → Sl → Sto → Res Sl} {fb : Sl → Sto → Res Fl} {Q : Fl → Sto → Prop} {X : Exc → Sto → Prop} {sd : Sl} {S : Sto}
    (hc : ∀ pre post sd S, xs = pre ++ post → I pre sd S → chk S = true) (hs : I [] sd S) (h0 : ∀ sd S, I xs sd S → Q (.nx sd) S)
    (h1 : ∀ pre a post sd S, xs = pre ++ a :: post → I pre sd S → Wp (ga (.tup [.int (pre.length : Nat), en a]) sd S) (fun sd1 S1 => Wp (fb sd1 S1) (fun fl S2 => match fl with
      | .nx sd2 => I (pre ++ [a]) sd2 S2
      | .cnt sd2 => I (pre ++ [a]) sd2 S2
      | .brk sd2 => Q (.nx sd2) S2
      | .ret d => Q (.ret d) S2) X) X) : Wp (loopD chk ga fb (enumL 0 (xs.map en)) sd S) Q X := by
  refine w_loop (fun ds sd S => ∃ pre post, xs = pre ++ post ∧ ds = enumL pre.length (post.map en) ∧ I pre sd S) ?_ ?_ ?_ _ _ _ ⟨[], xs, rfl, rfl, hs⟩
  · rintro ds sd S ⟨pre, post, e, _, h⟩
    exact hc pre post sd S e h
  · rintro sd S ⟨pre, post, e, e2, h⟩
    have : post = [] := by
      cases post with
      | nil => rfl
      | cons a post => simp [enumL] at e2
    subst this
    rw [List.append_nil] at e
    subst e
    exact h0 sd S h
  · rintro x ds sd S ⟨pre, post, e, e2, h⟩
    cases post with
    | nil => cases e2
    | cons a post =>
      rw [List.map_cons] at e2
      cases e2
      refine Wp.mono (h1 pre a post sd S e h) (fun sd1 S1 h2 => Wp.mono h2 (fun fl S2 h3 => ?_) fun _ _ z => z) fun _ _ z => z
      have ea : xs = (pre ++ [a]) ++ post := by rw [e]; simp
      have el : enumL (pre.length + 1) (post.map en) = enumL (pre ++ [a]).length (post.map en) := by simp
      cases fl with
      | nx sd2 => exact ⟨_, _, ea, el, h3⟩
      | cnt sd2 => exact ⟨_, _, ea, el, h3⟩
      | brk sd2 => exact h3
      | ret d => exact h3
theorem w_rangeP (I : Nat → Sl → Sto → Prop) (lo : Int) (n : Nat) {chk : Sto → Bool} {ga : D → Sl → Sto → Res Sl} {fb : Sl → Sto → Res Fl} {Q : Fl → Sto → Prop} {X : Exc → Sto → Prop} {sd : Sl} {S : Sto}
    (hc : ∀ i sd S, i ≤ n → I i sd S → chk S = true) (hs : I 0 sd S) (h0 : ∀ sd S, I n sd S → Q (.nx sd) S)
    (h1 : ∀ i sd S, i < n → I i sd S → Wp (ga (.int (lo + (i : Nat))) sd S) (fun sd1 S1 => Wp (fb sd1 S1) (fun fl S2 => match fl with
      | .nx sd2 => I (i + 1) sd2 S2
      | .cnt sd2 => I (i + 1) sd2 S2
      | .brk sd2 => Q (.nx sd2) S2
      | .ret d => Q (.ret d) S2) X) X) : Wp (loopD chk ga fb (rangeL lo n) sd S) Q X := by
  unfold rangeL
  refine w_loopP (fun i : Nat => D.int (lo + (i : Nat))) (fun pre sd S => I pre.length sd S) (List.range n) ?_ hs ?_ ?_
  · intro pre post sd S e h
    exact hc pre.length sd S (by have := congrArg List.length e; simp at this; omega) h
  · intro sd S h
    rw [List.length_range] at h
    exact h0 sd S h
  · intro pre a post sd S e h
    have ha : a = pre.length := by
      have h1 : (List.range n)[pre.length]? = some a := by rw [e]; simp
      rw [List.getElem?_range (by have := congrArg List.length e; simp at this; omega)] at h1
      exact (Option.some.inj h1).symm
    have hn : pre.length < n := by have := congrArg List.length e; simp at this; omega
    subst ha
    have el : (pre ++ [pre.length]).length = pre.length + 1 := by simp
    refine Wp.mono (h1 pre.length sd S hn h) (fun sd1 S1 h2 => Wp.mono h2 (fun fl S2 h3 => ?_) fun _ _ z => z) fun _ _ z => z
    cases fl with
    | nx sd2 => show I _ sd2 S2; rw [el]; exact h3
    | cnt sd2 => show I _ sd2 S2; rw [el]; exact h3
    | brk sd2 => exact h3
    | ret d => exact h3
def SD : Nat → D → Prop
  | _, .str w => PyData.strOk w = true
  | _, .int _ => True
  | _, .non => True
  | n + 1, .tup ds => ds.length ≤ 1000000000 ∧ ∀ d ∈ ds, SD n d
  | n + 1, .frl ds => ds.length ≤ 1000000000 ∧ ∀ d ∈ ds, SD n d
  | _, _ => False
theorem sd_int {n : Nat} {i : Int} : SD n (.int i) := by cases n <;> trivial
theorem sd_non {n : Nat} : SD n .non := by cases n <;> trivial
theorem SD.up : ∀ {n : Nat} {d : D}, SD n d → SD (n + 1) d
  | _, .str w, h => by cases ‹Nat› <;> exact h
  | _, .int _, _ => sd_int
  | _, .non, _ => sd_non
  | n + 1, .tup ds, h => ⟨h.1, fun d hd => SD.up (h.2 d hd)⟩
  | n + 1, .frl ds, h => ⟨h.1, fun d hd => SD.up (h.2 d hd)⟩
  | 0, .tup _, h => h.elim
  | 0, .frl _, h => h.elim
  | 0, .bl _, h => h.elim
  | 0, .ref _, h => h.elim
  | 0, .exn _ _ _ _, h => h.elim
  | _ + 1, .bl _, h => h.elim
  | _ + 1, .ref _, h => h.elim
  | _ + 1, .exn _ _ _ _, h => h.elim
theorem SD.le {n m : Nat} {d : D} (t : SD n d) (h : n ≤ m) : SD m d := by
  induction h with
  | refl => exact t
  | step _ ih => exact ih.up
theorem rng_ok {n : Nat} (h : n ≤ 1000000000) : bnd 62 ((n : Nat) : Int) = true := bnd_of ⟨by omega, by omega⟩
theorem rng_okI {n : Int} (h0 : -1000000000 ≤ n) (h : n ≤ 1000000000) : bnd 62 n = true := bnd_of ⟨by omega, by omega⟩
theorem mul_okI {n : Int} (h0 : -1000000000 ≤ n) (h : n ≤ 1000000000) : bnd 63 n = true := bnd_of ⟨by omega, by omega⟩
theorem mul_r {a b : Int} (h : bnd 63 b = true) : (bnd 63 a || bnd 63 b) = true := by rw [h, Bool.or_true]
theorem mul_l {a b : Int} (h : bnd 63 a = true) : (bnd 63 a || bnd 63 b) = true := by rw [h, Bool.true_or]
theorem fd_ok {b : Int} (h0 : 0 < b) (h : b < 10 ^ 40) : fdOk b = true := by
  refine fdOk_of ⟨h0, ?_⟩
  have h1 : b.natAbs < 2 ^ 200 := by
    have : (10 : Int) ^ 40 < 2 ^ 200 := by decide +kernel
    omega
  have := (Nat.log2_lt (show b.natAbs ≠ 0 by omega)).mpr h1
  omega
theorem rng_map {n : Nat} : rangeL 0 ((n : Nat) : Int).toNat = (List.range n).map fun i => D.int (0 + (i : Nat)) := by simp [rangeL]
end DL

namespace DL
open PySem PySem.Spec PyProof.Rows L2
section
variable {α : Type} {fk fv fo fe ff : Sl → Sto → Res D} {g fp : Sl → Sto → Res (List (D × D))} {kvs : List (Str × D)} {sd : Sl} {S : Sto} {X : Exc → Sto → Prop}
theorem w_pNil {Q : List (D × D) → Sto → Prop} : Wp (pNil sd S) Q X = Q [] S := rfl
theorem w_pCons {Q : List (D × D) → Sto → Prop} : Wp (pCons fk fv g sd S) Q X = Wp ((fk sd S).bind fun k S1 => (fv sd S1).bind fun v S2 => (g sd S2).bind fun ds S3 => .ok ((k, v) :: ds) S3) Q X := rfl
variable {Q : D → Sto → Prop}
theorem w_dDispGet : Wp (dDispGet fp fe ff sd S) Q X = Wp ((fp sd S).bind fun ps S1 => match keysOk ps with
  | false => .stuck
  | true => (fe sd S1).bind fun y S2 => match (key0 y).isSome with
    | false => .stuck
    | true => (ff sd S2).bind fun z S3 => .ok ((dgl y ps none).getD z) S3) Q X := rfl
theorem w_dDisp : Wp (dDisp fp sd S) Q X = Wp ((fp sd S).bind fun ps S1 => match keysOk ps && decide (ps.length ≤ 15) with
  | false => .stuck
  | true => .ok (.ref S1.length) (S1 ++ [.dic 0 (mergeD [] ps)])) Q X := rfl
theorem w_dDisp0 : Wp (dDisp0 sd S) Q X = Q (.ref S.length) (S ++ [.dic 0 []]) := rfl
theorem w_dKget : Wp (dKget kvs fe ff sd S) Q X = Wp ((fe sd S).bind fun y S1 => match kdGet kvs y with
  | some r => (ff sd S1).bind fun x S2 => .ok (r.getD x) S2
  | none => .stuck) Q X := rfl
theorem w_dDget : Wp (dDget fo fe ff sd S) Q X = Wp ((fo sd S).bind fun x S1 => match dicD x (.int 0) S1 with
  | none => .stuck
  | some _ => (fe sd S1).bind fun y S2 => (ff sd S2).bind fun z S3 => match dicD x y S3 with
    | some r => .ok (r.getD z) S3
    | none => .stuck) Q X := rfl
theorem keysOk_nil : keysOk [] = true := rfl
theorem keysOk_s {x : Str} {d : D} {ps : List (D × D)} : keysOk ((.str x, d) :: ps) = keysOk ps := by simp [keysOk, key0]
theorem keysOk_i {x : Int} {d : D} {ps : List (D × D)} : keysOk ((.int x, d) :: ps) = keysOk ps := by simp [keysOk, key0]
theorem key0_s {x : Str} : (key0 (.str x)).isSome = true := rfl
theorem key0_i {x : Int} : (key0 (.int x)).isSome = true := rfl
theorem kdGet_s {x : Str} : kdGet kvs (.str x) = some (kvs.lookup x) := rfl
theorem kdGet_i {x : Int} : kdGet kvs (.int x) = some none := rfl
theorem dgl_nil {y : D} {o : Option D} : dgl y [] o = o := rfl
theorem dgl_cons {y k v : D} {r : List (D × D)} {o : Option D} : dgl y ((k, v) :: r) o = dgl y r (if k = y then some v else o) := rfl
end
theorem dic_at {S : Sto} {kvs : List (D × D)} {k : D} {l : Nat} (hl : S[l]? = some (.dic 0 kvs)) (h : (key0 k).isSome = true) : dicD (.ref l) k S = some (getK kvs k) := by
  unfold dicD
  simp only [hl, h]
theorem w_notInDic {S : Sto} {k d : D} {r : Option D} {Q : D → Sto → Prop} {X : Exc → Sto → Prop} (h : dicD d k S = some r) : Wp (notInDic k d S) Q X = Q (.bl (!r.isSome)) S := by
  simp only [notInDic, h]; rfl
theorem w_ixDic {S : Sto} {k d r : D} {Q : D → Sto → Prop} {X : Exc → Sto → Prop} (h : dicD d k S = some (some r)) : Wp (ixDic d k S) Q X = Q r S := by
  simp only [ixDic, h]; rfl
theorem cut_take {ds : List D} {k : Nat} : cutL ds none (some ((k : Nat) : Int)) = ds.take k := by
  unfold cutL
  have e : HT.sIx ds.length 0 none = 0 := rfl
  have e2 : HT.sIx ds.length ds.length (some ((k : Nat) : Int)) = min k ds.length := by
    show (if ((k : Nat) : Int) < 0 then (((k : Nat) : Int) + (ds.length : Int)).toNat else min ((k : Nat) : Int).toNat ds.length) = _
    rw [if_neg (by omega)]
    simp
  rw [e, e2, List.drop_zero, Nat.sub_zero]
  by_cases h : k ≤ ds.length
  · rw [Nat.min_eq_left h]
  · rw [Nat.min_eq_right (by omega), List.take_of_length_le (by omega), List.take_of_length_le (by omega)]
theorem cut_drop {ds : List D} {k : Nat} : cutL ds (some ((k : Nat) : Int)) none = ds.drop k := by
  unfold cutL
  have e : HT.sIx ds.length ds.length none = ds.length := rfl
  have e2 : HT.sIx ds.length 0 (some ((k : Nat) : Int)) = min k ds.length := by
    show (if ((k : Nat) : Int) < 0 then (((k : Nat) : Int) + (ds.length : Int)).toNat else min ((k : Nat) : Int).toNat ds.length) = _
    rw [if_neg (by omega)]
    simp
  rw [e, e2]
  by_cases h : k ≤ ds.length
  · rw [Nat.min_eq_left h, List.take_of_length_le (by simp)]
  · rw [Nat.min_eq_right (by omega), List.drop_eq_nil_of_le (by omega), List.drop_eq_nil_of_le (by omega)]; simp
theorem cut_init {ds : List D} : cutL ds none (some (-1)) = ds.dropLast := by
  unfold cutL
  have e : HT.sIx ds.length 0 none = 0 := rfl
  have e2 : HT.sIx ds.length ds.length (some (-1)) = ds.length - 1 := by
    show (if (-1 : Int) < 0 then ((-1 : Int) + (ds.length : Int)).toNat else min (-1 : Int).toNat ds.length) = _
    rw [if_pos (by decide)]
    omega
  rw [e, e2, List.drop_zero, Nat.sub_zero, List.dropLast_eq_take]
theorem cut_last {ds : List D} : cutL ds (some (-1)) none = ds.drop (ds.length - 1) := by
  unfold cutL
  have e : HT.sIx ds.length ds.length none = ds.length := rfl
  have e2 : HT.sIx ds.length 0 (some (-1)) = ds.length - 1 := by
    show (if (-1 : Int) < 0 then ((-1 : Int) + (ds.length : Int)).toNat else min (-1 : Int).toNat ds.length) = _
    rw [if_pos (by decide)]
    omega
  rw [e, e2, List.take_of_length_le (by simp)]
theorem w_sliceT {ds : List D} {lo hi : Option Int} {S : Sto} {Q : D → Sto → Prop} {X : Exc → Sto → Prop} : Wp (sliceD (.tup ds) lo hi S) Q X = Q (.tup (cutL ds lo hi)) S := rfl
theorem w_addT2 {a b : List D} {S : Sto} {Q : D → Sto → Prop} {X : Exc → Sto → Prop} : Wp (addD (.tup a) (.tup b) S) Q X = Wp (if a.length + b.length ≤ sizeLine then .ok (.tup (a ++ b)) S else .stuck) Q X := rfl
theorem cut_drop1 {ds : List D} : cutL ds (some 1) none = ds.drop 1 := cut_drop (k := 1)
theorem w_appL {l : Nat} {xs : List D} {y : D} {S : Sto} {Q : D → Sto → Prop} {X : Exc → Sto → Prop} (hl : S[l]? = some (.lst xs)) (hz : xs.length < sizeLine) : Wp (appendD (.ref l) [y] S) Q X = Q .non (S.set l (.lst (xs ++ [y]))) := by
  simp only [appendD, hl]
  rw [if_pos hz]; rfl
end DL

namespace DL
open PySem PySem.Spec PyProof.Rows L2
theorem fn_new {n : Nat} {b : Sl → Sto → Res Fl} {ds : List D} {S : Sto} {xs : List D} (hb : D.blws S.length xs = true) (h : Wp (b (startD n ds) S) (kFn fun d S' => ∃ l T, d = .ref l ∧ S' = S ++ T ∧ S'[l]? = some (.lst xs) ∧ S.length ≤ l) NX) : cutF (dFn n b) ds S = .ok (.ref S.length) (S ++ [.lst xs]) := by
  have h' : Wp (dFn n b ds S) (fun d S' => ∃ l T, d = .ref l ∧ S' = S ++ T ∧ S'[l]? = some (.lst xs) ∧ S.length ≤ l) NX := by rw [w_dFn]; exact h
  obtain ⟨d, S', e, l, T, rfl, rfl, hl, hle⟩ := Wp.ok h'
  unfold cutF
  rw [e]
  simp only [cutR]
  rw [if_pos (cutOk_app S _), if_neg (by show ¬ decide (l < S.length) = true; simp; omega), hl]
  simp only
  rw [if_pos ⟨hb, hle⟩, List.take_left]
theorem w_listF {x : D} {S : Sto} {xs : List D} {Q : D → Sto → Prop} {X : Exc → Sto → Prop} (h : listF [x] S = .ok (.frl xs) S) : Wp (listF [x] S) Q X = Q (.frl xs) S := by rw [h]; rfl
end DL

namespace DL
open PySem PySem.Spec PyProof.Rows L2
section
variable {α : Type} [DecidableEq α]
end
theorem dicN_at {S : Sto} {kvs : List (D × D)} {k : D} {l : Nat} (hl : S[l]? = some (.dic 2 kvs)) (h : nokD k = true) : dicN (.ref l) k S = some (getK kvs k) := by
  simp only [dicN, hl, h]
theorem w_notInN {S : Sto} {k d : D} {r : Option D} {Q : D → Sto → Prop} {X : Exc → Sto → Prop} (h : dicN d k S = some r) : Wp (notInDicN k d S) Q X = Q (.bl (!r.isSome)) S := by
  simp only [notInDicN, h]; rfl
theorem w_setN {l : Nat} {kvs : List (D × D)} {k v : D} {S : Sto} {Q : Unit → Sto → Prop} {X : Exc → Sto → Prop} (hl : S[l]? = some (.dic 2 kvs)) (hk : nokD k = true) (hz : kvs.length ≤ sizeLine) : Wp (setDicN (.ref l) k v S) Q X = Q () (S.set l (.dic 2 (putD kvs k v))) := by
  simp only [setDicN, hl, hk, decide_eq_true hz, Bool.and_self]
  rfl
theorem w_dDispN {fk fv : Sl → Sto → Res D} {sd : Sl} {S : Sto} {Q : D → Sto → Prop} {X : Exc → Sto → Prop} : Wp (dDispN fk fv sd S) Q X = Wp ((fk sd S).bind fun k S1 => (fv sd S1).bind fun v S2 => match nokD k with
  | true => .ok (.ref S2.length) (S2 ++ [.dic 2 [(k, v)]])
  | false => .stuck) Q X := rfl
section
variable {α : Type} [DecidableEq α] {f : α → D}
end
end DL

namespace DL
open PySem PySem.Spec PyProof.Rows L2
section
variable {S : Sto} {sd : Sl} {Q : D → Sto → Prop} {X : Exc → Sto → Prop}
end
end DL

namespace DL
open PySem PySem.Spec PyProof.Rows L2
def wq_a := And.intro @w_dVar (And.intro @w_dC (And.intro @w_dNil (And.intro @w_dCons (And.intro @w_dTup (And.intro @w_dLst (And.intro @w_d2 (And.intro @w_d2T (And.intro @w_d3 (And.intro @w_d3T (And.intro @w_tstB (And.intro @w_tAndD (And.intro @w_tOrD (And.intro @w_tNotD (And.intro @w_dAnd (And.intro @w_dOr (And.intro @w_dNot (And.intro @w_dIf (And.intro @w_dNeg (And.intro @w_sNext (And.intro @w_sSeq (And.intro @w_sIf (And.intro @w_sRet (And.intro @w_sExpr (And.intro @w_sAsg (And.intro @w_gVar (And.intro @w_sBrk (And.intro @w_gsNil (And.intro @w_gsCons (@w_gTupD)))))))))))))))))))))))))))))
def wq_b := And.intro @w_sPar (And.intro @w_iVal (And.intro @w_iEnumD (And.intro @w_iZipD (And.intro @w_iRngD1 (And.intro @w_iRngD2 (And.intro @w_tYesD (And.intro @w_gSubD (And.intro @w_oNone (And.intro @w_oSome (And.intro @w_dSlice (And.intro @w_dCall (And.intro @w_dFld (And.intro @w_sFldD (And.intro @w_gFldD (And.intro @w_dCallF (And.intro @w_dMeth (And.intro @w_dMake (And.intro @w_sRaise (And.intro @w_sRaiseT (And.intro @w_dExFc (And.intro @w_dBm (And.intro @w_dIsi (And.intro @w_dLstF (And.intro @w_dSliceF (And.intro @w_dKind (And.intro @kB_ap (And.intro @w_bind (And.intro @w_ok (@w_exc)))))))))))))))))))))))))))))
def wq_c := And.intro @w_stuck (And.intro @w_dFn (And.intro @kFn_nx (And.intro @kFn_ret (And.intro @w_sTry (And.intro @w_sFor (And.intro @w_addI (And.intro @w_addFI (And.intro @w_addFL2 (And.intro @w_addFT2 (And.intro @w_frzI (And.intro @w_frzS (And.intro @w_frzT (And.intro @w_frzF (And.intro @w_frzN (And.intro @w_frzB (And.intro @w_subI (And.intro @w_ltI (And.intro @w_leI (And.intro @w_gtI (And.intro @w_geI (And.intro @w_eqI (And.intro @w_neI (And.intro @w_eqS (And.intro @w_neS (And.intro @w_lenT (And.intro @w_lenF (And.intro @w_ixT2 (And.intro @w_ixF2 (@atI_pos)))))))))))))))))))))))))))))
def wq_d := And.intro @ixN_nat (And.intro @List.map_cons.{0,0} (And.intro @List.map_nil.{0,0} (And.intro @List.length_cons.{0} (And.intro @List.length_nil.{0} (And.intro @List.cons_append.{0} (And.intro @List.nil_append.{0} (And.intro @List.getElem?_cons_zero.{0} (And.intro @List.getElem?_cons_succ.{0} (And.intro @List.set_cons_zero.{0} (And.intro @List.set_cons_succ.{0} (And.intro @Bool.false_eq_true (And.intro @decide_true (And.intro @decide_false (And.intro @Bool.not_true (And.intro @Bool.not_false (And.intro @c_0 (And.intro @c_1 (And.intro @c_2 (And.intro @c_3 (And.intro @c_4 (And.intro @c_5 (And.intro @c_6 (And.intro @c_7 (And.intro @c_8 (And.intro @c_9 (And.intro @c_10 (And.intro @c_11 (And.intro @c_12 (@sz_0)))))))))))))))))))))))))))))
def wq_e := And.intro @sz_1 (And.intro @sz_2 (And.intro @sz_3 (And.intro @sz_4 (And.intro @sz_5 (And.intro @sz_6 (And.intro @sz_7 (And.intro @sz_8 (And.intro @sz_9 (And.intro @sz_10 (And.intro @sz_11 (And.intro @sz_12 (And.intro @sz_13 (And.intro @sz_14 (And.intro @sz_15 (And.intro @sz_16 (And.intro @Bool.true_eq_false (And.intro @it_tuplelist_int (And.intro @it_tuplelist_str (And.intro @it_tuplelist_tuple (And.intro @it_tuplelist_list (And.intro @it_tuplelist_bool (And.intro @it_tuplelist_NoneType (And.intro @it_list_int (And.intro @it_list_str (And.intro @it_list_tuple (And.intro @it_list_list (And.intro @it_list_bool (And.intro @it_list_NoneType (@it_tuple_int)))))))))))))))))))))))))))))
def wq_f := And.intro @it_tuple_str (And.intro @it_tuple_tuple (And.intro @it_tuple_list (And.intro @it_tuple_bool (And.intro @it_tuple_NoneType (And.intro @it_bool_int (And.intro @it_bool_str (And.intro @it_bool_tuple (And.intro @it_bool_list (And.intro @it_bool_bool (And.intro @it_bool_NoneType (And.intro @it_int_int (And.intro @it_int_str (And.intro @it_int_tuple (And.intro @it_int_list (And.intro @it_int_bool (And.intro @it_int_NoneType (And.intro @it_str_int (And.intro @it_str_str (And.intro @it_str_tuple (And.intro @it_str_list (And.intro @it_str_bool (And.intro @it_str_NoneType (And.intro @ty_int (And.intro @ty_str (And.intro @ty_tuple (And.intro @ty_list (And.intro @ty_bool (And.intro @ty_non (@w_eqB)))))))))))))))))))))))))))))
def wq_g := And.intro @w_neB (And.intro @w_isN (And.intro @w_isNotN (And.intro @nn_int (And.intro @nn_str (And.intro @nn_tuple (And.intro @nn_list (And.intro @nn_bool (And.intro @w_pNil (And.intro @w_pCons (And.intro @w_dDispGet (And.intro @w_dDisp (And.intro @w_dDisp0 (And.intro @w_dKget (And.intro @w_dDget (And.intro @keysOk_nil (And.intro @keysOk_s (And.intro @keysOk_i (And.intro @key0_s (And.intro @key0_i (And.intro @kdGet_s (And.intro @kdGet_i (And.intro @dgl_nil (And.intro @dgl_cons (And.intro @w_sliceT (And.intro @w_addT2 (And.intro @cut_drop1 (And.intro @cut_init (@cut_last))))))))))))))))))))))))))))
end DL

namespace DL
open PySem PySem.Spec PyProof.Rows L2 PySem.W
section
variable {cl : Cl} {X : Cx} {E : XK}
abbrev VP := V × PyData
def rSortV (K : PySem.W.Frag) : List V → Hp → VK → Prop := fun xs H Q => ∃ (a : Addr) (ps : List VP), xs = [.ref a] ∧ SqL K H a (ps.map (·.1)) ∧ (∀ p ∈ ps, Dp K H p.1 p.2 ∧ p.2.depth ≤ 60) ∧ AllAlike (ps.map (·.2)) ∧ Sortable (ps.map (·.2)) ∧
  ∀ q, H q = none → Q (.ref q) (upd H q (.lst ((ps.mergeSort (dataLe false (·.2))).map (·.1))))
theorem each_vals : ∀ {ps : List VP} {us : List Value}, Vals (ps.map (·.1)) us → EachIs (fun v p => RelV p.1 v) us ps
  | [], _, .nil => .nil
  | p :: ps, _, .cons r t => .cons r (each_vals t)
theorem vals_each : ∀ {ps : List VP} {us : List Value}, EachIs (fun v p => RelV p.1 v) us ps → Vals (ps.map (·.1)) us
  | [], _, .nil => .nil
  | p :: ps, _, .cons r t => .cons r (vals_each t)
theorem each_reads {pins : List (Addr × Obj)} {σ : L2.St} {H : Hp} {s : Shared} (I : Inv X pins σ H s) : ∀ {ps : List VP} {us : List Value}, (∀ p ∈ ps, Dp X.K H p.1 p.2) → Vals (ps.map (·.1)) us → EachIs (fun v p => ∃ as, Reads s.heap v p.2 as) us ps
  | [], _, _, .nil => .nil
  | p :: ps, _, h, .cons r t => .cons (Dp.reads I p.2 p.1 _ (h p List.mem_cons_self) r) (each_reads I (fun q hq => h q (List.mem_cons_of_mem _ hq)) t)
theorem cr_sortV (hu : X.A.units + 65 < cLine) : CallR X (.builtin "sorted") (rSortV X.K) := by
  intro pins s σ H xs us Q I r q
  obtain ⟨a, ps, ex, hs, hd, hal, hk, q⟩ := q
  subst ex
  obtain ⟨u, eu, rx⟩ := vals1 r
  subst eu
  cases rx
  obtain ⟨its, rv, ⟨o, n, ho, hcl, hdn, hdat⟩, hz⟩ := I.list hs
  rw [List.length_map] at hz
  refine PySem.W.sorted_data (vs := its) (bs := ps) (enc := fun p : VP => p.2) (R := fun v p => RelV p.1 v) ⟨o, ho, hcl, n, hdat⟩ (each_vals rv) (each_reads I (fun p hp => (hd p hp).1) rv) hal hk hz (fun p hp => by have := (hd p hp).2; omega) fun out ho2 he => ?_
  obtain ⟨e, hat⟩ := PyProof.Rows.sortedAll_at s.heap its (List.toArray out)
  refine ⟨.ref (s.heap.objs.size + 1), upd H (s.heap.objs.size + 1) (.lst ((ps.mergeSort (dataLe false (·.2))).map (·.1))), I.laid (t' := s.toks) (fun b u hb => PyProof.Rows.sortedAll_old hb) (Nat.le_succ _)
    (show ObjOk X.prog X.w _ _ _ (.lst ((ps.mergeSort (dataLe false (·.2))).map (·.1))) from ⟨by rw [List.length_map, List.length_mergeSort]; exact hz, out, e, vals_each he, hat⟩), rfl, q _ (I.hok.fresh (Nat.le_succ _))⟩
def srtOk (S : Sto) (ds : List D) : Prop := (∀ d ∈ ds, toP S 60 d = some (pd d) ∧ (pd d).depth ≤ 60) ∧ AllAlike (ds.map pd) ∧ Sortable (ds.map pd)
noncomputable def srtL (ds : List D) : List D := ds.mergeSort (dataLe false pd)
open Classical in
noncomputable def sortF : List D → Sto → Res D
  | [d], S => match lsD d S with
    | some ds => if srtOk S ds then .ok (.frl (srtL ds)) S else .stuck
    | _ => .stuck
  | _, _ => .stuck
open Classical in
abbrev DV := D × V
theorem rvs_dv {K : PySem.W.Frag} {m : List Addr} {H : Hp} : ∀ {ds : List D} {vs : List V}, RVs K m H ds vs → ∃ ts : List DV, ds = ts.map (·.1) ∧ vs = ts.map (·.2) ∧ ∀ t ∈ ts, RV K m H t.1 t.2
  | [], vs, h => by cases (show vs = [] from h); exact ⟨[], rfl, rfl, fun t ht => by cases ht⟩
  | d :: ds, vs, ⟨v, vs', e, r, t⟩ => by
    obtain ⟨ts, e1, e2, h⟩ := rvs_dv t
    subst e
    refine ⟨(d, v) :: ts, by rw [e1]; rfl, by rw [e2]; rfl, fun x hx => ?_⟩
    rcases List.mem_cons.mp hx with rfl | hx
    · exact r
    · exact h x hx
theorem dv_rvs {K : PySem.W.Frag} {m : List Addr} {H : Hp} : ∀ {ts : List DV}, (∀ t ∈ ts, RV K m H t.1 t.2) → RVs K m H (ts.map (·.1)) (ts.map (·.2))
  | [], _ => rfl
  | t :: ts, h => ⟨_, _, rfl, h t List.mem_cons_self, dv_rvs fun x hx => h x (List.mem_cons_of_mem _ hx)⟩
theorem sort_dv {ts : List DV} : srtL (ts.map (·.1)) = (ts.mergeSort (dataLe false fun t => pd t.1)).map (·.1) ∧
    (((ts.map fun t => ((t.2, pd t.1) : VP)).mergeSort (dataLe false (·.2))).map (·.1)) = (ts.mergeSort (dataLe false fun t => pd t.1)).map (·.2) := by
  constructor
  · unfold srtL
    exact (sort_maps (r := dataLe false fun t : DV => pd t.1) (s := dataLe false pd) (fun t : DV => t.1) (fun _ _ _ _ => rfl)).symm
  · rw [← sort_maps (r := dataLe false fun t : DV => pd t.1) (fun t : DV => ((t.2, pd t.1) : VP)) (fun _ _ _ _ => rfl), List.map_map]
    rfl
theorem srt_rv {m : List Addr} {S : Sto} {H : Hp} {K : PySem.W.Frag} {ds : List D} {vs : List V} (rs : RS cl K m S H) (hok : srtOk S ds) (r : RVs K m H ds vs) :
    ∃ ps : List VP, vs = ps.map (·.1) ∧ (∀ p ∈ ps, Dp K H p.1 p.2 ∧ p.2.depth ≤ 60) ∧ AllAlike (ps.map (·.2)) ∧ Sortable (ps.map (·.2)) ∧ RVs K m H (srtL ds) ((ps.mergeSort (dataLe false (·.2))).map (·.1)) := by
  obtain ⟨ts, rfl, rfl, ht⟩ := rvs_dv r
  obtain ⟨s1, s2⟩ := sort_dv (ts := ts)
  refine ⟨ts.map fun t => (t.2, pd t.1), by rw [List.map_map]; rfl, fun p hp => ?_, ?_, ?_, ?_⟩
  · obtain ⟨t, h, rfl⟩ := List.mem_map.mp hp
    obtain ⟨h1, h2⟩ := hok.1 t.1 (List.mem_map.mpr ⟨t, h, rfl⟩)
    exact ⟨toP_dp rs 60 t.1 _ t.2 h1 (ht t h), h2⟩
  · have := hok.2.1
    rw [List.map_map] at this ⊢
    exact this
  · have := hok.2.2
    rw [List.map_map] at this ⊢
    exact this
  · rw [s1, s2]
    exact dv_rvs fun t h => ht t (List.mem_mergeSort.mp h)
theorem cd_sortF (hu : X.A.units + 65 < cLine) : CallD cl X (.builtin "sorted") sortF := by
  refine ⟨_, callr_frz (cr_sortV hu), fun E m S H ds vs Q rs rv h => ?_⟩
  unfold sortF at h
  split at h
  · rename_i d
    obtain ⟨v, rfl, r⟩ := rvs1 rv
    split at h
    · rename_i xs e1
      split at h
      · rename_i hok
        obtain ⟨a, ws, rfl, hv, r1⟩ := ls_rv rs r e1
        obtain ⟨ps, rfl, k1, k2, k3, k4⟩ := srt_rv rs hok r1
        exact ⟨a, ps, rfl, hv, k1, k2, k3, fun q hq => newFrl rs k4 hq h⟩
      · exact h.elim
    · exact h.elim
  · exact h.elim
open Classical in
theorem Cok.hu70 {k : Nat} (c : Cok X E k) : X.A.units + 70 < cLine := by have := c.hr.un; omega
end
end DL

namespace DL
open PySem PySem.Spec PyProof.Rows L2
section
variable {cl : Cl} {X : Cx} {E : XK}
noncomputable def dLstR1 (fa : Sl → Sto → Res D) : Sl → Sto → Res D := fun sd S => (fa sd S).bind fun x S1 => match x with
  | .int b => if rgB 0 b = true then .ok (.ref S1.length) (S1 ++ [.lst (rangeL 0 (b - 0).toNat)]) else .stuck
  | _ => .stuck
theorem de_lstR1 {a : Expr} {fa : Sl → Sto → Res D} {p q pos rpos : Pos} (hc : X.calm = true) (hg : Gl X "list") (hm : X.mg "list" = none) (hg2 : Gl X "range") (hm2 : X.mg "range" = none) (ha : DE cl X E a fa)
    (na : starEach [a] X.env = (false, eval a X.env) :: starEach [] X.env := by rfl)
    (nn : starEach [Expr.Call (.Name "range" q) [a] [] rpos] X.env = (false, eval (Expr.Call (.Name "range" q) [a] [] rpos) X.env) :: starEach [] X.env := by rfl) :
    DE cl X E (.Call (.Name "list" p) [.Call (.Name "range" q) [a] [] rpos] [] pos) (dLstR1 fa) := by
  obtain ⟨t, pa, ha⟩ := ha
  refine ⟨_, pe_listRg hc hg hm (prg_1 hg2 hm2 pa na) nn, fun m S H sd σ Q rs rl h => ?_⟩
  refine ha m S H sd σ _ rs rl (Post.bind h fun x S1 m1 vx H1 x1 k1 rs1 rx h1 => ?_)
  split at h1
  · rename_i b
    cases (show vx = .int b from rx)
    split at h1
    · rename_i hok
      refine ⟨b, rfl, rgB_ok hok, fun q hq => ?_⟩
      obtain ⟨a1, b1⟩ := newLst rs1 rgV_rv hq
      exact h1 _ _ _ (Ext.snoc _ _) (Keep.new hq) a1 b1
    · exact h1.elim
  · exact h1.elim
theorem w_lstR1 {fa : Sl → Sto → Res D} {sd : Sl} {S S1 : Sto} {n : Nat} {Q : D → Sto → Prop} {X : Exc → Sto → Prop} (h : fa sd S = .ok (.int ((n : Nat) : Int)) S1) (hn : n ≤ 16777216) : Wp (dLstR1 fa sd S) Q X = Q (.ref S1.length) (S1 ++ [.lst (rangeL 0 n)]) := by
  unfold dLstR1
  rw [h]
  show Wp (if rgB 0 ((n : Nat) : Int) = true then _ else _) Q X = _
  rw [if_pos (rgB_of (RgOk.of_le (by decide) (by omega) (by decide) (by omega)))]
  show Q _ (S1 ++ [.lst (rangeL 0 (((n : Nat) : Int) - 0).toNat)]) = _
  rw [Int.sub_zero, Int.toNat_natCast]
end
end DL

namespace DL
open PySem PySem.Spec PyProof.Rows L2
section
variable {cl : Cl} {X : Cx} {E : XK}
end
end DL

namespace DL
open PySem PySem.Spec PyProof.Rows L2
structure LamD (N : List Str) (sc scope : Scope) : Prop where
  kd : scope.kind = .function
  nco : scope.isCoroutine = false
  nge : scope.isGenerator = false
  nc : ∀ y ∈ scope.names, y.2 ≠ .cell
  nl : ∀ y ∈ scope.names, y.2 = .local → y.1 ∉ N
  tk : ∀ y ∈ scope.names, y.2 = .free → sc.names.lookup y.1 = some .cell ∨ sc.names.lookup y.1 = some .free
section
variable {X : Cx} {pins : List (Addr × Obj)} {σ : L2.St} {H : Hp} {s : Shared}
theorem LamD.has {scope : Scope} (D : LamD X.N X.env.scope scope) (ok : X.Ok) : ∀ y ∈ scope.names, y.2 = .free → ∃ b, X.env.cells.lookup y.1 = some b :=
  fun y hy hf => (D.tk y hy hf).elim (fun z => ok.has _ (.inl z)) fun z => ok.has _ (.inr z)
structure LamO (X : Cx) (H1 : Hp) (s1 : Shared) (params : Arguments) (body : Expr) (scope : Scope) (f t b : Addr) (u doc pm ctv : Value) : Prop where
  fo : s1.heap.get? f = some (PySem.W.kdv_obj "<lambda>" (X.env.qual ++ "<lambda>") params (.expr body) scope (cloFrom X.env.cells scope.names []) (.ref t) doc pm b ctv)
  fn : H1 f = none
  ff : f ∉ frs X.stack
  to : s1.heap.get? t = some (PySem.W.kdv_tup [u])
  tn : H1 t = none
  tf : t ∉ frs X.stack
  co : H1 b = some (LamX.CodeO b (X.env.qual ++ "<lambda>"))
variable {HZ : Hp} {sE : Shared}
end
section
variable {cl : Cl} {X : Cx}
open Classical in
end
end DL

namespace DL
open PySem PySem.Spec PyProof.Rows L2
section
variable {cl : Cl} {X : Cx} {E : XK}
variable {o e : Expr} {es : List Expr} {to : TE} {t : TA} {name : Str} {apos cpos : Pos} {id : String} {r : V → List V → Hp → VK → Prop}
end
end DL

namespace DL
open PySem PySem.Spec PyProof.Rows L2
structure LamI where
  params : Arguments
  body : Expr
  scope : Scope
  qual : Str
  own : Option Str
def PinO (a : Addr) (o : Obj) : HO := .frz o (.ext fun h => h.get? a = some o)
def LamIs (I : LamI) (clo : List (Str × Addr)) (H : Hp) (o : Obj) : Prop :=
  ∃ (dV doc pm ctv : Value) (b : Addr), o = PySem.W.kdv_obj "<lambda>" I.qual I.params (.expr I.body) I.scope clo dV doc pm b ctv ∧ H b = some (LamX.CodeO b I.qual) ∧
    match I.own with
    | none => dV = .none
    | some _ => ∃ t u g, dV = .ref t ∧ H t = some (.frz (PySem.W.kdv_tup [u]) g)
theorem LamIs.keep {I : LamI} {clo : List (Str × Addr)} {H H' : Hp} {o : Obj} (k : Keep H H') (h : LamIs I clo H o) : LamIs I clo H' o := by
  obtain ⟨dV, doc, pm, ctv, b, e, hb, hd⟩ := h
  refine ⟨dV, doc, pm, ctv, b, e, k _ _ hb imm_code, ?_⟩
  split at hd
  · exact hd
  · obtain ⟨t, u, g, e1, e2⟩ := hd
    exact ⟨t, u, g, e1, k _ _ e2 trivial⟩
section
variable {X : Cx} {pins : List (Addr × Obj)} {σ : L2.St} {H : Hp} {s : Shared}
end
section
variable {cl : Cl} {X : Cx} {E : XK}
end
structure LamOk (N : List Str) (sc : Scope) (I : LamI) : Prop where
  D : LamD N sc I.scope
  loc : ∀ z, I.own = some z → I.scope.names.lookup z = some .local
  bd0 : I.own = none → ∀ (sb : Shared) (cs : List (Str × Addr)) (doc pm cv ctv : Value), BindsTo sb (PySem.W.kdv_fn "<lambda>" I.qual I.params (.expr I.body) I.scope cs .none doc pm cv ctv) ⟨[], []⟩ []
  bd1 : ∀ z, I.own = some z → ∀ (sb : Shared) (cs : List (Str × Addr)) (t : Addr) (doc pm cv ctv u : Value), sb.heap.get? t = some (PySem.W.kdv_tup [u]) → BindsTo sb (PySem.W.kdv_fn "<lambda>" I.qual I.params (.expr I.body) I.scope cs (.ref t) doc pm cv ctv) ⟨[], []⟩ [(z, u)]
section
variable {X : Cx} {pins : List (Addr × Obj)} {σ : L2.St} {H : Hp} {s : Shared}
end
section
variable {cl : Cl} {X : Cx} {E : XK}
structure LamSet (cl : Cl) (X : Cx) (k : Nat) (fs : Nat → Option (Sl → Sto → Res D)) : Prop where
  all : ∀ (i : Nat) (fb : Sl → Sto → Res D), fs i = some fb → ∃ I : LamI, (∀ H o, cl.lam i H o → LamIs I (cloFrom X.env.cells I.scope.names []) H o) ∧ LamOk X.N X.env.scope I ∧ I.qual = X.env.qual ++ "<lambda>" ∧
    ∀ (A : Around) (outer : List Env) (s : Shared) (H : Hp) (E : XK) (f c' : Addr), Cok (LamX.lamCx X A outer s H E I.scope f c') E k → DE cl (LamX.lamCx X A outer s H E I.scope f c') E I.body fb
end
end DL

namespace DL
open PySem PySem.Spec PyProof.Rows L2
abbrev Cl.wl (cl : Cl) (lm : Nat → Hp → Obj → Prop) : Cl := ⟨cl.f, cl.T, cl.hh, lm, cl.lmb⟩
section
variable {cl : Cl} {K : PySem.W.Frag} {m : List Addr} {H : Hp} {S : Sto} {lm : Nat → Hp → Obj → Prop}
theorem RO.lam (h : ∀ i H o, cl.lam i H o → lm i H o) {a : Addr} : ∀ {o : DO}, RO cl K m H o a → RO (cl.wl lm) K m H o a
  | .lst _, r => r
  | .dic 0 _, r => r
  | .dic 1 _, r => r
  | .dic 2 _, r => r
  | .dic 3 _, r => r
  | .dic 4 _, r => r
  | .dic 5 _, ⟨i, o, u, e0, e, r⟩ => ⟨i, o, u, e0, e, fun H' k => h _ _ _ (r H' k)⟩
  | .dic 6 _, r => r
  | .dic 7 _, r => r
  | .dic (_ + 8) _, r => r.elim
  | .ins _ _, r => r
  | .dead, r => r
theorem RS.lam (rs : RS cl K m S H) (h : ∀ i H o, cl.lam i H o → lm i H o) : RS (cl.wl lm) K m S H := ⟨rs.len, rs.nd, fun l o a h1 h2 => (rs.obj l o a h1 h2).lam h, rs.tb⟩
end
def lamT (tab : List LamI) (names : List (Str × NameKind)) (L : Nat) : Nat → Hp → Obj → Prop := fun i H o => ∃ I, tab[i]? = some I ∧ LamIs I (cloFrom (cellsFrom (L + 1) names []) I.scope.names []) H o
section
variable {cl : Cl} {X : Cx} {k : Nat}
end
end DL

namespace DL
open PySem PySem.Spec PyProof.Rows L2
section
variable {prog : Program} {w : World} {A : Around} {E : Value → Shared → Prop} {s : Shared} {K : PySem.W.Frag} {x C dx : Addr} {od : Option Obj} {z : Str} {t : Tok}
end
structure NoEq (K : PySem.W.Frag) (C : Addr) : Prop where
  mro : PySem.W.mroIn K C (.type "object") = some true
  eq : PySem.W.findIn K (.ref C) "__eq__" = some (some (.builtin "object.__eq__"))
section
variable {cl : Cl} {X : Cx}
end
end DL

namespace DL
open PySem PySem.Spec PyProof.Rows L2
section
variable {cl : Cl} {X : Cx}
end
end DL

namespace DL
open PySem PySem.Spec PyProof.Rows L2
structure NoTup (K : PySem.W.Frag) (C : Addr) : Prop where
  ha : PySem.W.findIn K (.ref C) "__class__" = some (some (.builtin "object.__class__"))
  hn : PySem.W.specialIn K (.builtin "object.__class__") "__get__" = some (some (.builtin "getset_descriptor.__get__"))
  htk : PySem.W.takesIn K (.builtin "object.__class__") = some true
  hm : PySem.W.mroIn K C (.type "object") = some true
  tu : PySem.W.kitOne K (.ref C) (.type "tuple") = some false
section
variable {cl : Cl} {X : Cx} {E : XK} {e : Expr} {f : Sl → Sto → Res D} {p p1 p2 p3 p4 pos : Pos}
end
end DL

namespace DL
open PySem PySem.Spec PyProof.Rows L2
section
variable {cl : Cl} {X : Cx} {E : XK}
end
end DL

namespace DL
open PySem PySem.Spec PyProof.Rows L2
section
variable {P : Program} {w : World} {A : Around} {E : Value → Shared → Prop} {s : Shared} {a : Addr} {K : Type} [DecidableEq K] {knd : KeyKind P w K}
def SetL (w : World) (knd : KeyKind P w K) (h : Heap) (a : Addr) (L : List K) : Prop :=
  ∃ o es ep t, h.get? a = some o ∧ o.ExactSet ∧ o.data = .set es ep t ∧ ElemsOf knd es.toList ∧ (∀ k, k ∈ L ↔ ∃ e ∈ es.toList, knd.is k e.2 = true) ∧ es.size = L.length ∧ es.size < scanBound ∧ t.fits es.size = true ∧
    Ris t.place.toList ∧ (w.params.followText "set-order" = true ∨ t.led = true)
theorem SetL.at {h h' : Heap} {L : List K} (R : SetL w knd h a L) (k : ∀ o, h.get? a = some o → h'.get? a = some o) : SetL w knd h' a L := by
  obtain ⟨o, es, ep, t, ho, r⟩ := R
  exact ⟨o, es, ep, t, k o ho, r⟩
theorem SetL.put {h : Heap} {o : Obj} {es es1 : Array (Int × Value)} {ep : Nat} {t t1 : SetTable} {L : List K} (ho : h.get? a = some o) (hex : o.ExactSet) (hd : o.data = .set es ep t) (he : ElemsOf knd es1.toList) (hm : ∀ k, k ∈ L ↔ ∃ e ∈ es1.toList, knd.is k e.2 = true)
    (hz : es1.size = L.length) (hb : es1.size < scanBound) (hf : t1.fits es1.size = true) (hr : Ris t1.place.toList) (hl : w.params.followText "set-order" = true ∨ t1.led = true) : SetL w knd (h.update a (Obj.putSet es1 t1)) a L :=
  ⟨_, es1, ep + 1, t1, store_at ho hd, hex, rfl, he, hm, hz, hb, hf, hr, hl⟩
set_option maxHeartbeats 8000000 in
end
end DL

namespace DL
open PySem PySem.Spec PyProof.Rows L2 PySem.W
section
variable {cl : Cl} {X : Cx} {E : XK}
end
end DL

namespace DL
open PySem PySem.Spec PyProof.Rows L2 PySem.W
section
variable {cl : Cl} {X : Cx} {E : XK}
end
end DL

namespace DL
open PySem PySem.Spec PyProof.Rows L2 PySem.W
section
variable {cl : Cl} {X : Cx} {E : XK}
end
end DL

namespace DL
open PySem PySem.Spec PyProof.Rows L2 PySem.W
section
variable {cl : Cl} {X : Cx} {E : XK} {pins : List (Addr × Obj)} {σ : L2.St} {H : Hp} {s : Shared}
def NAtF (X : Cx) (H : Hp) (a : Addr) (xs : List (NestedKey × Addr × Value)) : Prop :=
  ∃ es ep o, H a = some (.frz o (RawO a es ep)) ∧ es.toList = xs.map (entN X) ∧ (xs.map (·.1)).Nodup ∧ (a == sysModules) = false ∧ ∀ x ∈ xs, NKey X.K H x.1 (.ref x.2.1) ∧ x.1.depth ≤ 8
theorem NAtF.dict {a : Addr} {xs : List (NestedKey × Addr × Value)} (I : Inv X pins σ H s) (h : NAtF X H a xs) : s.heap.DictOfH (nestedKind X.prog X.w) a xs := by
  obtain ⟨es, ep, od, e, he, hn, _, hk⟩ := h
  obtain ⟨_, ⟨o, ho, hc, hd⟩, _, _⟩ := (show ObjOk X.prog X.w H s.heap a (.frz od (RawO a es ep)) from I.hok a _ e)
  exact ⟨o, es, ep, ho, hc, hd, he, fun x hx => ⟨NKey.is I _ (hk x hx).1 rfl, (hk x hx).2⟩, hn⟩
theorem NAtF.sys {a : Addr} {xs : List (NestedKey × Addr × Value)} (h : NAtF X H a xs) : (a == sysModules) = false := let ⟨_, _, _, _, _, _, hs, _⟩ := h; hs
end
end DL

namespace DL
open PySem PySem.Spec PyProof.Rows L2 PySem.W
end DL

namespace DL
open PySem PySem.Spec PyProof.Rows L2 PySem.W
section
variable {cl : Cl} {X : Cx} {E : XK}
end
end DL

namespace DL
open PySem PySem.Spec PyProof.Rows L2
def gg : Nat → Nat
  | 0 => 0
  | k + 1 => gg k * 5 + 1
theorem gg_mod (m : Nat) : ∀ k, lcgN m k = gg k % (m + 1)
  | 0 => by rw [gg, Nat.zero_mod]; rfl
  | k + 1 => by
    show (lcgN m k * 5 + 1) % (m + 1) = (gg k * 5 + 1) % (m + 1)
    rw [gg_mod m k, Nat.add_mod, Nat.mul_mod, Nat.mod_mod, ← Nat.mul_mod, ← Nat.add_mod]
theorem gg_pow : ∀ k, 4 * gg k + 1 = 5 ^ k
  | 0 => rfl
  | k + 1 => by
    have := gg_pow k
    rw [Nat.pow_succ, gg]
    omega
theorem gg_add (a b : Nat) : gg (a + b) = gg a + (4 * gg a + 1) * gg b := by
  have h1 := gg_pow (a + b)
  have h2 := gg_pow a
  have h3 := gg_pow b
  rw [Nat.pow_add, ← h2, ← h3] at h1
  have e : (4 * gg a + 1) * (4 * gg b + 1) = 4 * ((4 * gg a + 1) * gg b) + (4 * gg a + 1) := by rw [Nat.mul_add, Nat.mul_one, Nat.mul_left_comm]
  rw [e] at h1
  omega
theorem gg_two : ∀ e, ∃ q, gg (2 ^ e) = 2 ^ e * (2 * q + 1)
  | 0 => ⟨0, rfl⟩
  | e + 1 => by
    obtain ⟨q, h⟩ := gg_two e
    have h1 : gg (2 ^ (e + 1)) = gg (2 ^ e) * (4 * gg (2 ^ e) + 2) := by
      rw [Nat.pow_succ, Nat.mul_two, gg_add]
      generalize gg (2 ^ e) = x
      rw [Nat.mul_add, Nat.add_mul, Nat.mul_comm x (4 * x)]
      omega
    refine ⟨q + 2 ^ e * (2 * q + 1) * (2 * q + 1), ?_⟩
    rw [h1, h, Nat.pow_succ]
    generalize 2 ^ e = p
    grind
theorem gg_all : ∀ e j, j < 2 ^ e → ∃ b, b < 2 ^ e ∧ gg b % 2 ^ e = j
  | 0, j, h => ⟨0, Nat.one_pos, by
    have : j = 0 := by rw [Nat.pow_zero] at h; omega
    rw [this, Nat.pow_zero, Nat.mod_one]⟩
  | e + 1, j, h => by
    have hp : 0 < 2 ^ e := Nat.pow_pos (by decide)
    obtain ⟨b, hb, eb⟩ := gg_all e (j % 2 ^ e) (Nat.mod_lt _ hp)
    obtain ⟨q, hq⟩ := gg_two e
    have hs : (2 : Nat) ^ (e + 1) = 2 ^ e + 2 ^ e := by rw [Nat.pow_succ, Nat.mul_two]
    -- gg b and j are alike up to 2 ^ e
    have d1 := Nat.div_add_mod (gg b) (2 ^ e)
    have d2 := Nat.div_add_mod j (2 ^ e)
    rw [eb] at d1
    have hj : j / 2 ^ e < 2 := (Nat.div_lt_iff_lt_mul hp).mpr (by omega)
    have key : gg (2 ^ e + b) = gg b + 2 ^ e + 2 ^ (e + 1) * (q + 2 * (2 * q + 1) * gg b) := by
      rw [gg_add, hq, hs]
      generalize 2 ^ e = p
      generalize gg b = x
      grind
    have m1 : gg b % 2 ^ (e + 1) = (2 ^ e * (gg b / 2 ^ e % 2) + j % 2 ^ e) := by
      rw [Nat.pow_succ, Nat.mod_mul, eb, Nat.add_comm]
    have m2 : gg (2 ^ e + b) % 2 ^ (e + 1) = (2 ^ e * ((gg b / 2 ^ e + 1) % 2) + j % 2 ^ e) := by
      rw [key, Nat.add_mul_mod_self_left, Nat.pow_succ, Nat.mod_mul, Nat.add_mod_right, eb, Nat.add_div_right _ hp, Nat.add_comm]
    rcases (by omega : j / 2 ^ e % 2 = gg b / 2 ^ e % 2 ∨ j / 2 ^ e % 2 = (gg b / 2 ^ e + 1) % 2) with z | z
    · refine ⟨b, by omega, ?_⟩
      rw [m1, ← z, Nat.mod_eq_of_lt hj]
      exact d2
    · refine ⟨2 ^ e + b, by omega, ?_⟩
      rw [m2, ← z, Nat.mod_eq_of_lt hj]
      exact d2
def NMask (m : Nat) : Prop := ∃ e, m + 1 = 2 ^ e ∧ 3 ≤ e ∧ e ≤ 17
theorem n_all {m : Nat} (hm : NMask m) {j : Nat} (hj : j ≤ m) : ∃ b, b ≤ m ∧ lcgN m b = j := by
  obtain ⟨e, h, _, _⟩ := hm
  obtain ⟨b, h1, h2⟩ := gg_all e j (by omega)
  exact ⟨b, by omega, by rw [gg_mod, h]; exact h2⟩
theorem n_round {m : Nat} (hm : NMask m) : lcgN m (m + 1) = 0 := by
  obtain ⟨e, h, _, _⟩ := hm
  obtain ⟨q, hq⟩ := gg_two e
  rw [gg_mod, h, hq, Nat.mul_mod_right]
theorem n_mod {m : Nat} (hm : NMask m) : ∀ k, lcgN m (m + 1 + k) = lcgN m k
  | 0 => n_round hm
  | k + 1 => congrArg (fun x => (x * 5 + 1) % (m + 1)) (n_mod hm k)
theorem n_from {m : Nat} (hm : NMask m) {i j : Nat} (hi : i ≤ m) (hj : j ≤ m) : ∃ k, k ≤ m ∧ lcgI m i k = j := by
  obtain ⟨a, ha, rfl⟩ := n_all hm hi
  obtain ⟨b, hb, rfl⟩ := n_all hm hj
  by_cases c : a ≤ b
  · exact ⟨b - a, by omega, by rw [lcgN_add, show a + (b - a) = b by omega]⟩
  · exact ⟨m + 1 + b - a, by omega, by rw [lcgN_add, show a + (m + 1 + b - a) = m + 1 + b by omega, n_mod hm]⟩
theorem nodup_all : ∀ (n : Nat) (l : List Nat), l.length ≤ n → (∀ j, j < n → j ∈ l) → l.Nodup := fun n l hl h => by
  have p : l.length = n := by
    have := nat_nodup_len (List.range n) l List.nodup_range fun x hx => h x (List.mem_range.mp hx)
    rw [List.length_range] at this
    omega
  exact (perm_range n l p h).nodup_iff.mpr List.nodup_range
theorem n_inj {m : Nat} (hm : NMask m) {i : Nat} (hi : i ≤ m) : ((List.range (m + 1)).map (lcgI m i)).Nodup := by
  refine nodup_all (m + 1) _ (by rw [List.length_map, List.length_range]; exact Nat.le_refl _) fun j hj => ?_
  obtain ⟨k, hk, e⟩ := n_from hm hi (Nat.le_of_lt_succ hj)
  exact List.mem_map.mpr ⟨k, List.mem_range.mpr (by omega), e⟩
theorem n_free {m : Nat} (hm : NMask m) (h : Int) (l : List Nat) (hl : l.length ≤ m) : ∃ n, n ≤ 12 + l.length ∧ runI m (SetTable.bits h) n ∉ l := by
  rcases Classical.em (∃ n, n ≤ 12 + l.length ∧ runI m (SetTable.bits h) n ∉ l) with c | c
  · exact c
  · exfalso
    have nd : ((List.range (l.length + 1)).map (lcgI m (runI m (SetTable.bits h) 12))).Nodup := by
      have := n_inj hm (runI_le m (SetTable.bits h) 12)
      refine List.Nodup.sublist (List.Sublist.map _ ?_) this
      exact List.range_sublist.mpr (by omega)
    have := nat_nodup_len _ l nd fun x hx => by
      obtain ⟨k, hk, rfl⟩ := List.mem_map.mp hx
      have hk := List.mem_range.mp hk
      rcases Classical.em (lcgI m (runI m (SetTable.bits h) 12) k ∈ l) with d | d
      · exact d
      · exact absurd ⟨12 + k, by omega, by rw [runI_tail (bits_lt h)]; exact d⟩ c
    rw [List.length_map, List.length_range] at this
    omega
theorem n_first {m : Nat} (hm : NMask m) (h : Int) (l : List Nat) (hl : l.length ≤ m) : ∃ K, K ≤ 10 * (12 + l.length) ∧ way m h K ∉ l ∧ ∀ k, k < K → way m h k ∈ l := by
  obtain ⟨n, hn, e⟩ := n_free hm h l hl
  obtain ⟨k, hk, e2⟩ := run_nth m (SetTable.bits h) n
  have hw : way m h k ∉ l := by
    show (nth m (runAt m (SetTable.bits h % (m + 1)) (SetTable.bits h)) k).j ∉ l
    rw [e2]
    exact e
  obtain ⟨K, h1, h2, h3⟩ := st_least (p := fun k => way m h k ∉ l) k hw
  exact ⟨K, by omega, h2, fun k' hk' => Classical.not_not.mp (h3 k' hk')⟩
theorem n_way {m : Nat} {h : Int} {k : Nat} : way m h k ≤ m := by
  have r := runEnd_bd (m := m) (i := SetTable.bits h % (m + 1)) (Nat.le_of_lt_succ (Nat.mod_lt _ (Nat.succ_pos _)))
  have q := nth_in (m := m) k (runAt m (SetTable.bits h % (m + 1)) (SetTable.bits h)) (by unfold runAt; dsimp only; omega)
  unfold way
  omega
end DL

namespace DL
open PySem PySem.Spec PyProof.Rows L2
structure NTab (t : SetTable) (hs : List Int) : Prop where
  ris : Ris t.place.toList
  dm : t.dummies = #[]
  sz : t.place.toList.length = hs.length
  mok : NMask t.mask
  bd : ∀ x ∈ t.place.toList, x ≤ t.mask
  reach : ∀ (i : Nat) (h : Int) (j : Nat), hs[i]? = some h → t.place.toList[i]? = some j → ∃ k, way t.mask h k = j ∧ ∀ k', k' < k → way t.mask h k' ∈ t.place.toList
theorem NTab.first {t : SetTable} {hs : List Int} (T : NTab t hs) (hl : hs.length ≤ t.mask) (h : Int) : ∃ K, K ≤ 10 * (12 + hs.length) ∧ way t.mask h K ∉ t.place.toList ∧ ∀ k, k < K → way t.mask h k ∈ t.place.toList := by
  have := n_first T.mok h t.place.toList (by rw [T.sz]; exact hl)
  rwa [T.sz] at this
theorem NTab.put {t : SetTable} {hs : List Int} (T : NTab t hs) {h : Int} {K p : Nat} (hp : SetTable.below t.place (way t.mask h K) = p) (hK : way t.mask h K ∉ t.place.toList) (hb : ∀ k, k < K → way t.mask h k ∈ t.place.toList) :
    p ≤ hs.length ∧ NTab (t.put (way t.mask h K)).1 (hs.take p ++ h :: hs.drop p) := by
  subst hp
  have hjm : way t.mask h K ≤ t.mask := n_way
  obtain ⟨j, hj⟩ : ∃ j, j = way t.mask h K := ⟨_, rfl⟩
  rw [← hj] at hK hjm ⊢
  have c1 := (below_cut T.ris j).1
  have hpl : SetTable.below t.place j ≤ t.place.toList.length := by rw [Array.length_toList]; exact c1
  have hph : SetTable.below t.place j ≤ hs.length := by rw [← T.sz]; exact hpl
  have hnp : t.place[SetTable.below t.place j]? ≠ some j := fun e => hK (List.mem_of_getElem? (by rw [Array.getElem?_toList]; exact e))
  have hpp := put_place t j
  have up : ∀ {x : Nat}, x ∈ t.place.toList → x ∈ (t.put j).1.place.toList := fun {x} hx => by rw [hpp]; exact mem_ins.2 (.inr hx)
  refine ⟨hph, ris_insert T.ris hnp, put_dm T.dm j, ?_, T.mok, fun x hx => ?_, fun i h' j' h1 h2 => ?_⟩
  · rw [hpp, len_ins _ hpl, len_ins _ hph, T.sz]
  · rw [hpp] at hx
    rcases mem_ins.1 hx with rfl | z
    · exact hjm
    · exact T.bd x z
  · rw [tins_get hs hph] at h1
    rw [hpp, tins_get _ hpl] at h2
    show ∃ k, way t.mask h' k = j' ∧ ∀ k', k' < k → way t.mask h' k' ∈ (t.put j).1.place.toList
    have old : ∀ i', hs[i']? = some h' → t.place.toList[i']? = some j' → ∃ k, way t.mask h' k = j' ∧ ∀ k', k' < k → way t.mask h' k' ∈ (t.put j).1.place.toList := fun i' a b => by
      obtain ⟨k, e, z⟩ := T.reach i' h' j' a b
      exact ⟨k, e, fun k' hk' => up (z k' hk')⟩
    split at h1
    · rename_i c
      rw [if_pos c] at h2
      exact old i h1 h2
    · rename_i c
      rw [if_neg c] at h2
      split at h1
      · rename_i d
        rw [if_pos d] at h2
        injection h1 with h1
        injection h2 with h2
        subst h1; subst h2
        exact ⟨K, hj.symm, fun k' hk' => up (hb k' hk')⟩
      · rename_i d
        rw [if_neg d] at h2
        exact old (i - 1) h1 h2
theorem n_find {m : Nat} (hm : NMask m) (owner : Array (Option Nat)) (h : Int) {j : Nat} (hj : j ≤ m) (hf : oAt owner j = none) :
    ∃ K, SetTable.layClean.free m owner (SetTable.turns m) (SetTable.bits h % (m + 1)) (SetTable.bits h) = some (way m h K) ∧ oAt owner (way m h K) = none ∧ ∀ k, k < K → oAt owner (way m h k) ≠ none := by
  obtain ⟨k0, hk0, e0⟩ := n_from hm (runI_le m (SetTable.bits h) 12) hj
  have e : runI m (SetTable.bits h) (12 + k0) = j := by rw [runI_tail (bits_lt h)]; exact e0
  generalize hN : 12 + k0 = N at e
  have hw : way m h (L2.off m (SetTable.bits h % (m + 1)) (SetTable.bits h) N) = j := by
    unfold way
    rw [nth_off, itL_run]
    exact e
  obtain ⟨K, k1, k2, k3⟩ := st_least (p := fun k => oAt owner (way m h k) = none) (L2.off m (SetTable.bits h % (m + 1)) (SetTable.bits h) N) (by rw [hw]; exact hf)
  refine ⟨K, free_spec m owner (SetTable.turns m) N _ _ K (by unfold SetTable.turns; omega) k1 (fun k hk => ?_) ?_, k2, k3⟩
  · have q := k3 k hk
    cases z : oAt owner (nth m (runAt m (SetTable.bits h % (m + 1)) (SetTable.bits h)) k).j with
    | none => exact absurd z q
    | some _ => rfl
  · exact Option.isNone_iff_eq_none.mpr k2
theorem NOwn.step {m : Nat} (hm : NMask m) {done : List Int} {owner : Array (Option Nat)} (W : L2.Own m done owner) (hl : done.length ≤ m) (h : Int) :
    ∃ j, SetTable.layClean.free m owner (SetTable.turns m) (SetTable.bits h % (m + 1)) (SetTable.bits h) = some j ∧ L2.Own m (done ++ [h]) (owner.setIfInBounds j (some done.length)) := by
  obtain ⟨ps, hps, hin⟩ := W.ps
  obtain ⟨j0, h0, hn0⟩ := st_missing ps (m + 1) (by omega)
  have hj0 : oAt owner j0 = none := Classical.byContradiction fun z => hn0 (hin j0 (Nat.le_of_lt_succ h0) z)
  obtain ⟨K, e1, e2, e3⟩ := n_find hm owner h (Nat.le_of_lt_succ h0) hj0
  have hjm : way m h K ≤ m := n_way
  generalize hJ : way m h K = J at e1 e2 hjm
  have hjs : J < owner.size := by rw [W.sz]; exact Nat.lt_succ_of_le hjm
  have hself := oAt_set_self (some done.length) hjs
  have mono : ∀ {i : Nat}, oAt owner i ≠ none → oAt (owner.setIfInBounds J (some done.length)) i ≠ none := fun {i} hi => by
    by_cases c : i = J
    · rw [c, hself]
      nofun
    · rw [oAt_set_ne _ c]
      exact hi
  refine ⟨J, e1, by rw [Array.size_setIfInBounds]; exact W.sz, fun j k hj e => ?_, fun k hk => ?_, J :: ps, by simp [hps], fun j hj e => ?_⟩
  · by_cases c : j = J
    · subst c
      rw [hself] at e
      obtain rfl : done.length = k := Option.some.inj e
      exact ⟨h, K, by simp, hJ, fun k' hk' => mono (e3 k' hk')⟩
    · rw [oAt_set_ne _ c] at e
      obtain ⟨h', K', a1, a2, a3⟩ := W.at_ j k hj e
      exact ⟨h', K', by rw [List.getElem?_append_left (List.getElem?_eq_some_iff.mp a1).1]; exact a1, a2, fun k' hk' => mono (a3 k' hk')⟩
  · rw [List.length_append, List.length_singleton] at hk
    by_cases c : k < done.length
    · obtain ⟨j, hj, e⟩ := W.all k c
      refine ⟨j, hj, ?_⟩
      rw [oAt_set_ne _ (fun z => by rw [z, e2] at e; cases e)]
      exact e
    · obtain rfl : k = done.length := by omega
      exact ⟨J, hjm, hself⟩
  · by_cases c : j = J
    · rw [c]
      exact List.mem_cons_self
    · rw [oAt_set_ne _ c] at e
      exact List.mem_cons_of_mem _ (hin j hj e)
end DL

namespace DL
open PySem PySem.Spec PyProof.Rows L2
def NIs (h : Heap) (k : NestedKey) (a : Addr) : Prop := NestedIs h k (.ref a) ∧ k.depth ≤ 8
section
variable {P : Program} {w : World} {A : Around} {E : Value → Shared → Prop} {s : Shared}
mutual
theorem ofA_key : ∀ (k : NestedKey) (v : Value) (n : Nat) (A : Around) (Q : Bool → Shared → Prop), NestedIs s.heap k v → k.depth ≤ n → Q false s → wpAny (model P w) A (ofAClassStatement n v) Q E s
  | .none, _, n, A, Q, x, _, h => by cases x; cases n <;> exact wpAny_pure h
  | .num i, _, n, A, Q, x, _, h => by cases x <;> cases n <;> exact wpAny_pure h
  | .text y, _, n, A, Q, x, _, h => by cases x; cases n <;> exact wpAny_pure h
  | .tup ks, _, 0, A, Q, x, hn, h => by simp [NestedKey.depth] at hn
  | .tup ks, _, n + 1, A, Q, x, hn, h => by
    cases x with
    | @tup a o vs m _ ho hc hd hk =>
      simp only [NestedKey.depth] at hn
      unfold ofAClassStatement
      refine wpAny_bind (wpAny_typeOf (T := "tuple") ⟨o, ho, hc⟩ ?_)
      dsimp only
      have e : (("tuple" : String) == "tuple") = true := by decide
      simp only [e, if_true, Bool.not_true, Bool.false_eq_true, if_false]
      refine wpAny_bind (wpAny_pure ?_)
      simp only [Bool.not_true, Bool.false_eq_true, if_false]
      show wpAny _ _ (seqItems? (.ref a) >>= _) _ _ s
      refine wpAny_bind (wpAny_seqItems ho hd ?_)
      dsimp only
      refine wpAny_bind ?_
      show wpAny _ _ (forIn vs _ _) _ _ s
      rw [← Array.forIn_toList]
      refine wpAny_forIn_list _ (fun rest r s' => r.1 = none ∧ s' = s ∧ ∀ v ∈ rest, ∀ (A : Around) (Q : Bool → Shared → Prop), Q false s → wpAny (model P w) A (ofAClassStatement n v) Q E s) _ ?_ ?_ _ _ ⟨rfl, rfl, fun v hv A Q hq => ofA_keys ks vs.toList n A Q v hv hk (by omega) hq⟩
      · rintro v rest r s' ⟨hr, rfl, hall⟩
        refine wpAny_bind (hall v List.mem_cons_self _ _ ?_)
        simp only [Bool.false_eq_true, if_false]
        exact wpAny_pure ⟨rfl, rfl, fun u hu => hall u (List.mem_cons_of_mem _ hu)⟩
      · rintro ⟨r1, r2⟩ s' ⟨hr, rfl, _⟩
        simp only at hr
        subst hr
        exact wpAny_pure h
theorem ofA_keys : ∀ (ks : List NestedKey) (vs : List Value) (n : Nat) (A : Around) (Q : Bool → Shared → Prop), ∀ v ∈ vs, NestedAll s.heap ks vs → NestedKey.depthAll ks ≤ n → Q false s → wpAny (model P w) A (ofAClassStatement n v) Q E s
  | [], _, n, A, Q, v, hv, x, _, _ => by cases x; cases hv
  | k :: ks, _, n, A, Q, v, hv, x, hn, h => by
    cases x with
    | cons x1 x2 =>
      simp only [NestedKey.depthAll] at hn
      rcases List.mem_cons.mp hv with e | hv
      · rw [e]; exact ofA_key k _ n A Q x1 (by omega) h
      · exact ofA_keys ks _ n A Q v hv x2 (by omega) h
end
mutual
theorem hashBy_key : ∀ (k : NestedKey) (v : Value) (n : Nat) (A : Around) (Q : Bool → Shared → Prop), NestedIs s.heap k v → k.depth ≤ n → (∀ b, Q b s) → wpAny (model P w) A (hashByValue n v) Q E s
  | .none, _, n, A, Q, x, _, h => by cases x; cases n <;> exact wpAny_pure (h _)
  | .num i, _, n, A, Q, x, _, h => by cases x <;> cases n <;> exact wpAny_pure (h _)
  | .text y, _, n, A, Q, x, _, h => by cases x; cases n <;> exact wpAny_pure (h _)
  | .tup ks, _, 0, A, Q, x, hn, h => by simp [NestedKey.depth] at hn
  | .tup ks, _, n + 1, A, Q, x, hn, h => by
    cases x with
    | @tup a o vs m _ ho hc hd hk =>
      simp only [NestedKey.depth] at hn
      unfold hashByValue
      refine wpAny_bind (wpAny_specialOf (T := "tuple") ⟨o, ho, hc⟩ F.slot_tuple_hash.lookup ?_)
      show wpAny _ _ (seqItems? (.ref a) >>= _) _ _ s
      refine wpAny_bind (wpAny_seqItems ho hd ?_)
      refine wpAny_bind ?_
      show wpAny _ _ (forIn vs _ _) _ _ s
      rw [← Array.forIn_toList]
      refine wpAny_forIn_list _ (fun rest r s' => s' = s ∧ ∀ v ∈ rest, ∀ (A : Around) (Q : Bool → Shared → Prop), (∀ b, Q b s) → wpAny (model P w) A (hashByValue n v) Q E s) _ ?_ ?_ _ _ ⟨rfl, fun v hv A Q hq => hashBy_keys ks vs.toList n A Q v hv hk (by omega) hq⟩
      · rintro v rest r s' ⟨rfl, hall⟩
        refine wpAny_bind (hall v List.mem_cons_self _ _ fun b => ?_)
        cases b
        · exact wpAny_pure (wpAny_pure (h _))
        · exact wpAny_pure ⟨rfl, fun u hu => hall u (List.mem_cons_of_mem _ hu)⟩
      · rintro ⟨r1, r2⟩ s' ⟨rfl, _⟩
        cases r1 <;> exact wpAny_pure (h _)
theorem hashBy_keys : ∀ (ks : List NestedKey) (vs : List Value) (n : Nat) (A : Around) (Q : Bool → Shared → Prop), ∀ v ∈ vs, NestedAll s.heap ks vs → NestedKey.depthAll ks ≤ n → (∀ b, Q b s) → wpAny (model P w) A (hashByValue n v) Q E s
  | [], _, n, A, Q, v, hv, x, _, _ => by cases x; cases hv
  | k :: ks, _, n, A, Q, v, hv, x, hn, h => by
    cases x with
    | cons x1 x2 =>
      simp only [NestedKey.depthAll] at hn
      rcases List.mem_cons.mp hv with e | hv
      · rw [e]; exact hashBy_key k _ n A Q x1 (by omega) h
      · exact hashBy_keys ks _ n A Q v hv x2 (by omega) h
end
abbrev AK := Addr × NestedKey
def nrow (w : World) (p : AK) : Int × Value := (p.2.hash w, Value.ref p.1)
abbrev nhash (w : World) (p : AK) : Int := p.2.hash w
structure NSet (w : World) (h : Heap) (a : Addr) (L : List AK) (es : Array (Int × Value)) (ep : Nat) (t : SetTable) : Prop where
  ob : ∃ o, h.get? a = some o ∧ o.ExactSet ∧ o.data = .set es ep t
  rows : es.toList = L.map (nrow w)
  tab : NTab t (L.map (nhash w))
  nd : (L.map (·.2)).Nodup
  tup : ∀ p ∈ L, NIs h p.2 p.1
  led : w.params.followText "set-order" = true ∨ t.led = true
  room : L.length * 5 < t.mask * 3
variable {a : Addr} {L : List AK} {es : Array (Int × Value)} {ep : Nat} {t : SetTable}
theorem NSet.size (R : NSet w s.heap a L es ep t) : es.size = L.length := by
  rw [← Array.length_toList, R.rows, List.length_map]
theorem NSet.psz (R : NSet w s.heap a L es ep t) : t.place.size = L.length := by
  have := R.tab.sz
  rwa [List.length_map, Array.length_toList] at this
theorem NSet.fits (R : NSet w s.heap a L es ep t) : t.fits es.size = true := by
  have h1 := R.psz
  have h2 := R.size
  have h3 := R.room
  unfold SetTable.fits SetTable.fill
  rw [R.tab.dm, Bool.and_eq_true, beq_iff_eq, decide_eq_true_eq]
  show t.place.size = es.size ∧ t.place.size + 0 ≤ t.mask
  omega
end
end DL

namespace DL
open PySem PySem.Spec PyProof.Rows L2
structure NGot (ks : List AK) (i : Nat) (L : List AK) : Prop where
  sub : ∀ p ∈ L, p ∈ ks.take i
  all : ∀ p ∈ ks.take i, p.2 ∈ L.map (·.2)
  len : L.length ≤ i
theorem NGot.more {ks L L' : List AK} {i : Nat} {x : AK} (g : NGot ks i L) (h : ks[i]? = some x) (pm : L'.Perm (x :: L)) : NGot ks (i + 1) L' := by
  have e := take_next h
  refine ⟨fun p hp => ?_, fun p hp => ?_, by rw [pm.length_eq, List.length_cons]; exact Nat.succ_le_succ g.len⟩
  · rw [e]
    rcases List.mem_cons.mp (pm.mem_iff.mp hp) with rfl | z
    · exact List.mem_append_right _ (List.mem_singleton.mpr rfl)
    · exact List.mem_append_left _ (g.sub p z)
  · rw [(pm.map (·.2)).mem_iff, List.map_cons]
    rw [e] at hp
    rcases List.mem_append.mp hp with z | z
    · exact List.mem_cons_of_mem _ (g.all p z)
    · rw [List.mem_singleton.mp z]; exact List.mem_cons_self
section
variable {P : Program} {w : World} {A : Around} {E : Value → Shared → Prop} {s : Shared}
theorem NIs.keep {h h' : Heap} {k : NestedKey} {b : Addr} (x : NIs h k b) (hk : ∀ c o, h.get? c = some o → h'.get? c = some o) : NIs h' k b :=
  ⟨NestedIs.at (fun c o _ _ hc _ => hk c o hc) k _ x.1, x.2⟩
theorem NSet.keep {h h' : Heap} {a : Addr} {L : List AK} {es : Array (Int × Value)} {ep : Nat} {t : SetTable} (R : NSet w h a L es ep t) (ha : ∀ o, h.get? a = some o → h'.get? a = some o) (ht : ∀ p ∈ L, NIs h' p.2 p.1) : NSet w h' a L es ep t := by
  obtain ⟨o, ho, r⟩ := R.ob
  exact ⟨⟨o, ha o ho, r⟩, R.rows, R.tab, R.nd, ht, R.led, R.room⟩
set_option maxHeartbeats 8000000 in
set_option maxHeartbeats 8000000 in
end
end DL

namespace DL
open PySem PySem.Spec PyProof.Rows L2 PySem.W
section
variable {cl : Cl} {X : Cx} {E : XK}
abbrev Tn := AK × D
structure TnOk (K : PySem.W.Frag) (m : List Addr) (H : Hp) (x : Tn) : Prop where
  rv : RV K m H x.2 (.ref x.1.1)
  nk : nkey x.2 = some x.1.2
  dp : x.1.2.depth ≤ 8
open Classical in
end
end DL

namespace DL
open PySem PySem.Spec PyProof.Rows L2
section
variable {cl : Cl} {X : Cx} {E : XK}
end
end DL

namespace DL
open PySem PySem.Spec PyProof.Rows L2
section
variable {cl : Cl} {X : Cx} {E : XK}
end
end DL

namespace DL
open PySem PySem.Spec PyProof.Rows L2
def dDgetN (fo fe ff : Sl → Sto → Res D) : Sl → Sto → Res D := fun sd S => (fo sd S).bind fun x S1 => match x with
  | .ref l => match S1[l]? with
    | some (.dic 2 _) => (fe sd S1).bind fun y S2 => (ff sd S2).bind fun z S3 => match S3[l]? with
      | some (.dic 2 kvs) => match nokD y with
        | true => match getK kvs y with
          | some r => .ok r S3
          | none => .ok z S3
        | false => .stuck
      | _ => .stuck
    | _ => .stuck
  | _ => .stuck
section
variable {cl : Cl} {X : Cx} {E : XK}
def tGetN (X : Cx) (td ty tx : TE) : TE := fun σ H Q => td σ H fun x H1 => ∃ a, x = .ref a ∧ (∃ xs, NAt X H1 a xs) ∧ ty σ H1 fun y H2 => tx σ H2 fun z H3 => ∃ b xs q, y = .ref b ∧ NAt X H3 a xs ∧ NKey X.K H3 q (.ref b) ∧ q.depth ≤ 8 ∧
  (∀ p, atKey xs q = some p → ∃ v, RelV v p.2 ∧ Q v H3) ∧ (atKey xs q = none → Q z H3)
theorem pe_getN {o e f : Expr} {td ty tx : TE} {apos cpos : Pos} (hu : X.A.units + 65 < cLine) (ho : PE X o td) (he : PE X e ty) (hf : PE X f tx) (m : M2 X o "get" apos e f cpos) : PE X (.Call (.Attribute o "get" apos) [e, f] [] cpos) (tGetN X td ty tx) := by
  refine ⟨fun pins s σ H Q I h => ?_⟩
  refine wpAny_Call_method m.base m.few m.line PySem.F.plainAttrs_dict PySem.F.slot_dict_get PySem.F.type_dict_get (thn (ho.run pins s σ H _ I h) fun u s1 ⟨x, H1, I1, rx, a, ex, ⟨xs0, n0⟩, q1⟩ => ?_)
  subst ex
  obtain rfl : u = Value.ref a := rx
  have dd0 := n0.dict I1
  have dd1 := dd0
  obtain ⟨ob, _, _, hob, hex, _⟩ := dd1
  refine ⟨dd0.typeIs, fun b eb => ?_, ?_⟩
  · cases eb
    exact ⟨ob, hob, hex.2.1⟩
  rw [m.trees]
  refine Calls.callWith_builtin rfl (Calls.evalArgs_plain (Calls.spliced_cons (thn (he.run pins s1 σ H1 _ I1 q1) fun iv s2 ⟨y, H2, I2, ry, q2⟩ =>
    Calls.spliced_cons (thn (hf.run pins s2 σ H2 _ I2 q2) fun fv s3 ⟨z, H3, I3, rz, b, xs, q, ey, hn, hk, hd, q3, q4⟩ => Calls.spliced_nil ?_))))
  subst ey
  obtain rfl : iv = Value.ref b := ry
  refine call_meetsIn PySem.F.slot_dict_get (hn.dict I3).typeIs PySem.F.entry_dict_get (PySem.F.args_dict_get_3 _ _ _) (meetsH_dict_get_default _ a b hn.sys fv) ⟨nroom hu, q, xs, ⟨NKey.is I3 _ hk rfl, hd⟩, hn.dict I3, ?_⟩
  cases hg : atKey xs q with
  | some p =>
    obtain ⟨v, rv, qq⟩ := q3 p hg
    exact ⟨v, H3, I3.tok _, rv, qq⟩
  | none => exact ⟨z, H3, I3.tok _, rz, q4 hg⟩
theorem de_getN {o e f : Expr} {fo fe ff : Sl → Sto → Res D} {apos cpos : Pos} (hu : X.A.units + 65 < cLine) (hc : HashOk cl X) (ho : DE cl X E o fo) (he : DE cl X E e fe) (hf : DE cl X E f ff) (m : M2 X o "get" apos e f cpos := by exact ⟨rfl, rfl, rfl, rfl⟩) : DE cl X E (.Call (.Attribute o "get" apos) [e, f] [] cpos) (dDgetN fo fe ff) := by
  obtain ⟨t, p, ho⟩ := ho
  obtain ⟨u, q, he⟩ := he
  obtain ⟨r, q2, hf⟩ := hf
  refine ⟨_, pe_getN hu p q q2 m, fun m S H sd σ Q rs rl h => ?_⟩
  refine ho m S H sd σ _ rs rl (Post.bind h fun x S1 m1 vx H1 x1 k1 rs1 rx h1 => ?_)
  split at h1
  · rename_i l
    split at h1
    · rename_i kv0 e0
      obtain ⟨a, xs0, rfl, ha, n0, _⟩ := nat_of hc rs1 rx e0
      refine ⟨a, rfl, ⟨xs0, n0⟩, he m1 S1 H1 sd σ _ rs1 (rl.mono x1 k1) (Post.bind h1 fun y S2 m2 vy H2 x2 k2 rs2 ry h2 => ?_)⟩
      refine hf m2 S2 H2 sd σ _ rs2 ((rl.mono x1 k1).mono x2 k2) (Post.bind h2 fun z S3 m3 vz H3 x3 k3 rs3 rz h3 => ?_)
      split at h3
      · rename_i kvs e3
        obtain ⟨a2, xs, ea, ham, hn, r1⟩ := nat_of hc rs3 (RV.mono (x2.trans x3) (k2.trans k3) _ rx) e3
        cases ea
        split at h3
        · rename_i hk
          obtain ⟨ds, qk, ek, hq, hd⟩ := nokD_key hk
          have ry3 := RV.mono x3 k3 y ry
          have ry' := ry3
          rw [ek] at ry'
          obtain ⟨b, vs, rfl, _⟩ := ry'
          have hg := RD2.get hq r1
          refine ⟨b, xs, qk, rfl, hn, nkey_rv _ hq ry3, hd, fun pp hp => ?_, fun hnone => ?_⟩
          · split at h3
            · rename_i r e4
              rw [e4] at hg
              obtain ⟨p', v, e5, rv, rl'⟩ := hg
              rw [hp] at e5; cases e5
              exact ⟨v, rl', h3.here rs3 rv⟩
            · rename_i e4
              rw [e4] at hg
              rw [show atKey xs qk = none from hg] at hp
              cases hp
          · split at h3
            · rename_i r e4
              rw [e4] at hg
              obtain ⟨p', v, e5, rv, rl'⟩ := hg
              rw [hnone] at e5; cases e5
            · exact h3.here rs3 rz
        · exact h3.elim
      · exact h3.elim
    · exact h1.elim
  · exact h1.elim
end
end DL

namespace DL
open PySem PySem.Spec PyProof.Rows L2 PySem.W
section
variable {cl : Cl} {X : Cx} {E : XK}
theorem pairs_keys {P : Program} {w : World} : ∀ {gs : List (Key × V)} {vs : List (Key × Value)} {es : List DictEntry}, KV gs vs → Pairs (mixKind P w) es vs → Vals (gs.map fun g => kV g.1) (es.map (·.key))
  | [], _, _, .nil, .nil => .nil
  | g :: gs, _, _, .cons r t, .cons hk hv tp => .cons (by
      have hk' : keyIs _ _ = true := hk
      rw [← r.1] at hk'
      rcases keyIs_shape hk' with ⟨i, t, e1, e2⟩ | ⟨x, t, e1, e2⟩
      · show L2.RelV (kV g.1) _
        rw [e1]
        exact ⟨t, e2⟩
      · show L2.RelV (kV g.1) _
        rw [e1]
        exact ⟨t, e2⟩) (pairs_keys t tp)
def rSortK (K : PySem.W.Frag) : List V → Hp → VK → Prop := fun xs H Q => ∃ (a : Addr) (gs : List (Key × V)) (ps : List VP), xs = [.ref a] ∧ H a = some (.dK gs) ∧ ps.map (·.1) = (gs.map fun g => kV g.1) ∧ ps.length ≤ sizeLine ∧
  (∀ p ∈ ps, Dp K H p.1 p.2 ∧ p.2.depth ≤ 60) ∧ AllAlike (ps.map (·.2)) ∧ Sortable (ps.map (·.2)) ∧
  ∀ q, H q = none → Q (.ref q) (upd H q (.lst ((ps.mergeSort (dataLe false (·.2))).map (·.1))))
theorem cr_sortK (hu : X.A.units + 70 < cLine) (hc : X.calm = true) : CallR X (.builtin "sorted") (rSortK X.K) := by
  intro pins s σ H xs us Q I r q
  obtain ⟨a, gs, ps, ex, hH, hps, hz, hd, hal, hk, q⟩ := q
  subst ex
  obtain ⟨u, eu, rx⟩ := vals1 r
  subst eu
  cases rx
  obtain ⟨_, lo, vs, hkv, o, es, ep, ho, hex, hdat, _, hpr, _⟩ := dk_of I.hok hH
  have hks := pairs_keys hkv hpr
  have hlen : ps.length = es.size := by
    have e1 := hks.length
    have e2 := congrArg List.length hps
    simp only [List.length_map, Array.length_toList] at e1 e2
    omega
  refine Calls.call_function_entry PyProof.Rows.kind_sorted PyProof.Rows.plain_sorted PyProof.Rows.entry_sorted (PyProof.Rows.args_sorted1 _) ?_
  unfold Builtin.«sorted»
  refine wpAny_bind (m := checkCount "sorted" 1 1 _) (wpAny_pure ?_)
  refine wpAny_bind (PySem.W.kdu_collect (A := X.A.in1) (KdlSrc.rawDict (es := es) (ep := ep) lo) (I.ok.hd hc) ⟨o, ho, hex, hdat⟩ (by omega) fun h' tk acc hkp hacc => ?_)
  have eacc : acc.toList = es.toList.map (·.key) := by
    refine List.ext_getElem? fun j => ?_
    have hsz2 : acc.size = es.size := hacc.1
    rw [List.getElem?_map, Array.getElem?_toList, Array.getElem?_toList]
    by_cases hj : j < acc.size
    · have e1 : acc[j]? = some acc[j] := Array.getElem?_eq_getElem hj
      obtain ⟨hi, e2⟩ := hacc.2 j acc[j] e1
      rw [e1, e2, Array.getElem?_eq_getElem hi]
      rfl
    · rw [Array.getElem?_eq_none (by omega), Array.getElem?_eq_none (by omega)]
      rfl
  have rv : Vals (ps.map (·.1)) acc.toList := by rw [hps, eacc]; exact hks
  have I1 : Inv X pins σ H { s with heap := h', toks := tk } := I.kept hkp
  have hal2 : acc.toList.length = ps.length := by have := rv.length; rw [List.length_map] at this; exact this.symm
  refine wpAny_bind (wpAny_newList ?_ (by rw [hal2]; exact hz))
  have hoL : (h'.push (seqObj "list" acc.toList.toArray 0)).get? h'.objs.size = some (seqObj "list" acc.toList.toArray 0) := Heap.get?_push_size _ rfl
  show wpAny _ _ _ _ _ { s with heap := h'.push (seqObj "list" acc.toList.toArray 0), toks := tk }
  have er := each_reads I1 (fun p hp => (hd p hp).1) rv
  have er' : EachIs (fun v (p : VP) => ∃ as, Reads (sortingHeap (h'.push (seqObj "list" acc.toList.toArray 0)) h'.objs.size acc.toList) v p.2 as) acc.toList ps :=
    er.mono fun _ _ ⟨as, r⟩ => ⟨as, PyProof.Rows.Reads.keeps (fun b o hb => sortingHeap_old (Nat.ne_of_lt (Heap.lt_size hb)) (Heap.get?_push_of_some _ hb)) r⟩
  have SA := SortsAt.data (prog := X.prog) (w := X.w) (A := X.A.in1.in1) (s := { s with heap := sortingHeap (h'.push (seqObj "list" acc.toList.toArray 0)) h'.objs.size acc.toList, toks := tk }) (each_map (R := fun v d => ∃ as, Reads (sortingHeap (h'.push (seqObj "list" acc.toList.toArray 0)) h'.objs.size acc.toList) v d as) (fun p : VP => p.2) er') hal hk
    (fun d hdm => by
      obtain ⟨p, hp, rfl⟩ := List.mem_map.mp hdm
      have := (hd p hp).2
      show X.A.units + 1 + 1 + p.2.depth < cLine
      omega)
  have hout := sortVals_data (R := fun v (p : VP) => RelV p.1 v) false (each_vals rv) er' hal
  obtain ⟨e', he'⟩ := PyProof.Rows.sortedHeap_at (vs := acc.toList) (out := (sortVals (dataKind (sortingHeap (h'.push (seqObj "list" acc.toList.toArray 0)) h'.objs.size acc.toList) (ps.map (·.2))) false acc.toList acc.toList).toArray) hoL
  refine wpAny_bind (wpAny_holding (wpAny_call_entry PyProof.Rows.slot_list_sort ⟨_, hoL, rfl⟩ PyProof.Rows.entry_list_sort
    (list_sort_vals (A := X.A.in1.in1) (s := { s with heap := h'.push (seqObj "list" acc.toList.toArray 0), toks := tk }) hoL SA (by rw [hal2]; exact hz) ⟨_, rfl, ?_⟩) (PyProof.Rows.args_list_sort _)))
  refine wpAny_pure ⟨_, rfl, .ref h'.objs.size, upd H h'.objs.size (.lst ((ps.mergeSort (dataLe false (·.2))).map (·.1))), I1.laid (t' := tk) (fun b u e => ?_) (Nat.le_refl _)
    (show ObjOk X.prog X.w _ _ _ (.lst ((ps.mergeSort (dataLe false (·.2))).map (·.1))) from ⟨by rw [List.length_map, List.length_mergeSort]; exact hz, _, e', vals_each hout, he'⟩), rfl, q _ (I1.hok.fresh (Nat.le_refl _))⟩
  have hb : b < h'.objs.size := Heap.lt_size e
  rw [PyProof.Rows.sortedHeap_old (Nat.ne_of_lt hb) (by rw [size_push']; exact Nat.lt_succ_of_lt hb)]
  exact Heap.get?_push_of_some _ e
open Classical in
noncomputable def sortKF : List D → Sto → Res D
  | [.ref l], S => match S[l]? with
    | some (.dic 0 kvs) => if srtOk S (kvs.map (·.1)) ∧ kvs.length ≤ sizeLine then .ok (.frl (srtL (kvs.map (·.1)))) S else .stuck
    | _ => .stuck
  | _, _ => .stuck
theorem rd0_keys {K : PySem.W.Frag} {m : List Addr} {H : Hp} : ∀ {ps : List (D × D)} {gs : List (Key × V)}, RD0 K m H ps gs → RVs K m H (ps.map (·.1)) (gs.map fun g => kV g.1)
  | [], gs, h => by cases (show gs = [] from h); rfl
  | p :: ps, gs, h => by
    obtain ⟨k, v, gs', e, hk, rv, t⟩ := h
    subst e
    refine ⟨_, _, rfl, ?_, rd0_keys t⟩
    show RV K m H p.1 (kV k)
    generalize p.1 = d at hk
    cases d <;> simp only [key0] at hk <;> cases hk <;> rfl
theorem cd_sortKF (hu : X.A.units + 70 < cLine) (hc : X.calm = true) : CallD cl X (.builtin "sorted") sortKF := by
  refine ⟨_, callr_frz (cr_sortK hu hc), fun E m S H ds vs Q rs rv h => ?_⟩
  unfold sortKF at h
  split at h
  · rename_i l
    obtain ⟨v, rfl, r⟩ := rvs1 rv
    split at h
    · rename_i kvs e1
      split at h
      · rename_i hok
        obtain ⟨a, h1, gs, hH, r2⟩ := rs.adr e1
        obtain ⟨a', h2, rfl⟩ := r
        rw [h1] at h2; cases h2
        have rk := rd0_keys r2
        obtain ⟨ps, e3, k1, k2, k3, k4⟩ := srt_rv rs hok.1 rk
        have hl : ps.length = kvs.length := by
          have := congrArg List.length e3
          rw [List.length_map, List.length_map, RD0.len r2] at this
          exact this.symm
        exact ⟨a, gs, ps, rfl, hH, e3.symm, by rw [hl]; exact hok.2, k1, k2, k3, fun q hq => newFrl rs k4 hq h⟩
      · exact h.elim
    · exact h.elim
  · exact h.elim
end
end DL

namespace DL
open PySem PySem.Spec PyProof.Rows L2
def PinsAt (C : List Addr) (H : Hp) : Prop := ∀ c ∈ C, ∃ (o : Obj) (w : Option Value), H c = some (PinO c o) ∧ o.data = .cell w
def dropC (C : List Addr) (H : Hp) : Hp := fun a => if a ∈ C then none else H a
section
variable {C : List Addr} {H H0 : Hp} {a : Addr} {u : HO}
theorem dropC_out (h : a ∉ C) : dropC C H a = H a := if_neg h
theorem PinsAt.no (p : PinsAt C H) (e : H a = some u) (n : ∀ o φ, u ≠ .frz o (.ext φ)) : a ∉ C := fun z => by
  obtain ⟨o, w, e1, _⟩ := p a z
  rw [e] at e1
  cases e1
  exact n _ _ rfl
theorem PinsAt.noF {o : Obj} {v : HO} (p : PinsAt C H) (e : H a = some (.frz o v)) (n : ∀ w, o.data ≠ .cell w) : a ∉ C := fun z => by
  obtain ⟨o', w, e1, e2⟩ := p a z
  rw [e] at e1
  cases e1
  exact n _ e2
theorem drop_at (p : PinsAt C H) (e : H a = some u) (n : ∀ o φ, u ≠ .frz o (.ext φ)) : dropC C H a = some u := by
  rw [dropC_out (p.no e n)]; exact e
theorem drop_fn {o : Obj} {v : HO} (p : PinsAt C H) (e : H a = some (.frz o v)) (n : ∀ w, o.data ≠ .cell w) : dropC C H a = some (.frz o v) := by
  rw [dropC_out (p.noF e n)]; exact e
theorem code_nx {c : Addr} {q : Str} : ∀ (o : Obj) (φ : Heap → Prop), LamX.CodeO c q ≠ .frz o (.ext φ) := fun _ _ z => by
  unfold LamX.CodeO at z; cases z
end
section
variable {cl : Cl} {K : PySem.W.Frag} {m : List Addr} {H : Hp} {C : List Addr} {S : Sto}
theorem sqT_drop {a : Addr} {xs : List V} (p : PinsAt C H) (h : SqT K H a xs) : SqT K (dropC C H) a xs := by
  rcases h with (h | ⟨o, h⟩) | h
  · exact .inl (.inl (drop_at p h fun _ _ z => by cases z))
  · exact .inl (.inr ⟨o, drop_at p h fun _ _ z => by cases z⟩)
  · exact .inr h
theorem Fz.drop {a : Addr} {xs : List V} (p : PinsAt C H) (h : Fz K H a xs) : Fz K (dropC C H) a xs := by
  rcases h with ⟨o, h⟩ | h
  · exact .inl ⟨o, drop_at p h fun _ _ z => by cases z⟩
  · exact .inr h
mutual
theorem RV.drp (p : PinsAt C H) : ∀ (d : D) {v : V}, RV K m H d v → RV K m (dropC C H) d v
  | .non, _, h => h
  | .bl _, _, h => h
  | .int _, _, h => h
  | .str _, _, h => h
  | .tup ds, _, ⟨a, vs, e, s, r⟩ => ⟨a, vs, e, sqT_drop p s, RVs.drp p ds r⟩
  | .frl ds, _, ⟨a, vs, e, s, r⟩ => ⟨a, vs, e, s.drop p, RVs.drp p ds r⟩
  | .ref l, _, h => h
  | .exn a dd ns ds, _, ⟨e, vs, r, h⟩ => ⟨e, vs, RVs.drp p ds r, fun n => drop_at p (h n) fun _ _ z => by cases z⟩
theorem RVs.drp (p : PinsAt C H) : ∀ (ds : List D) {vs : List V}, RVs K m H ds vs → RVs K m (dropC C H) ds vs
  | [], _, h => h
  | d :: ds, _, ⟨v, vs', e, r, t⟩ => ⟨v, vs', e, RV.drp p d r, RVs.drp p ds t⟩
end
theorem RF.drop (p : PinsAt C H) : ∀ {fs : List (Str × D)} {gs : List (Str × V)}, RF K m H fs gs → RF K m (dropC C H) fs gs
  | [], _, h => h
  | _ :: _, _, ⟨v, gs', e, r, t⟩ => ⟨v, gs', e, RV.drp p _ r, RF.drop p t⟩
theorem RD0.drop (p : PinsAt C H) : ∀ {fs : List (D × D)} {gs : List (Key × V)}, RD0 K m H fs gs → RD0 K m (dropC C H) fs gs
  | [], _, h => h
  | _ :: _, _, ⟨q, v, gs', e, hk, r, t⟩ => ⟨q, v, gs', e, hk, RV.drp p _ r, RD0.drop p t⟩
theorem RD1.drop (p : PinsAt C H) : ∀ {fs : List (D × D)} {gs : List (List Key × V)}, RD1 K m H fs gs → RD1 K m (dropC C H) fs gs
  | [], _, h => h
  | _ :: _, _, ⟨q, v, gs', e, hk, r, t⟩ => ⟨q, v, gs', e, hk, RV.drp p _ r, RD1.drop p t⟩
theorem RD2.drop (p : PinsAt C H) : ∀ {fs : List (D × D)} {xs : List (NestedKey × Addr × Value)}, RD2 K m H fs xs → RD2 K m (dropC C H) fs xs
  | [], _, h => h
  | _ :: _, _, ⟨q, b, v, u, xs', e, hk, hd, r1, r2, r3, t⟩ => ⟨q, b, v, u, xs', e, hk, hd, RV.drp p _ r1, RV.drp p _ r2, r3, RD2.drop p t⟩
abbrev Cl.at_ (cl : Cl) (H : Hp) : Cl := ⟨cl.f, cl.T, cl.hh, fun i _ o => ∀ H', Keep H H' → cl.lam i H' o, fun i vs _ o => ∀ H', Keep H H' → cl.lmb i vs H' o⟩
structure NoC (cl : Cl) : Prop where
  lam : ∀ i H o, cl.lam i H o → ∀ w, o.data ≠ .cell w
  lmb : ∀ i vs H o, cl.lmb i vs H o → ∀ w, o.data ≠ .cell w
theorem RO.drop {P : Program} {w : World} {h : Heap} (p : PinsAt C H) (nc : NoC cl) (hok : HOk P w H h) {a : Addr} : ∀ {o : DO}, RO cl K m H o a → RO (cl.at_ H) K m (dropC C H) o a
  | .lst ds, ⟨vs, e, r⟩ => ⟨vs, drop_at p e (fun _ _ z => by cases z), RVs.drp p _ r⟩
  | .dic 0 kvs, ⟨gs, e, r⟩ => ⟨gs, drop_at p e (fun _ _ z => by cases z), r.drop p⟩
  | .dic 1 kvs, ⟨gs, e, r⟩ => ⟨gs, drop_at p e (fun _ _ z => by cases z), r.drop p⟩
  | .dic 2 kvs, ⟨xs, es, ep, e, e1, e2, e3, r⟩ => ⟨xs, es, ep, drop_at p e (fun _ _ z => by unfold RawO at z; cases z), e1, e2, e3, r.drop p⟩
  | .dic 3 kvs, ⟨gs, o, e, r⟩ => ⟨gs, o, drop_at p e (fun _ _ z => by cases z), r.drop p⟩
  | .dic 4 kvs, ⟨ds, o, vs, e0, e, e1, e2, r⟩ => ⟨ds, o, vs, e0, drop_at p e (fun _ _ z => by cases z), e1, e2, RVs.drp p _ r⟩
  | .dic 5 kvs, ⟨i, o, u, e0, e, r⟩ => ⟨i, o, u, e0, drop_fn p e (nc.lam _ _ _ (r H (Keep.refl H))), fun H' _ => r⟩
  | .dic 6 kvs, ⟨xs, es, ep, o, e, e1, e2, e3, r⟩ => ⟨xs, es, ep, o, drop_fn p e (fun w z => by
      obtain ⟨g1, ⟨o2, g2, _, g3⟩, _⟩ := hok a _ e
      rw [g1] at g2
      cases g2
      rw [g3] at z
      cases z), e1, e2, e3, r.drop p⟩
  | .dic 7 kvs, ⟨i, ds, vs, o, u, e0, e, r, q⟩ => ⟨i, ds, vs, o, u, e0, drop_fn p e (nc.lmb _ _ _ _ (q H (Keep.refl H))), RVs.drp p _ r, fun H' _ => q⟩
  | .dic (_ + 8) kvs, h => h.elim
  | .ins c fs, ⟨dx, gs, e, r⟩ => ⟨dx, gs, drop_at p e (fun _ _ z => by cases z), r.drop p⟩
  | .dead, ⟨o, u, e⟩ => ⟨o, u, drop_at p e (fun _ _ z => by cases z)⟩
theorem RS.drop {P : Program} {w : World} {h : Heap} (p : PinsAt C H) (nc : NoC cl) (hok : HOk P w H h) (rs : RS cl K m S H) : RS (cl.at_ H) K m S (dropC C H) :=
  ⟨rs.len, rs.nd, fun l o a h1 h2 => (rs.obj l o a h1 h2).drop p nc hok, fun q hq => by
    obtain ⟨ps, h1, h2, h3⟩ := rs.tb q hq
    refine ⟨ps, drop_at p h1 (fun _ _ z => by cases z), h2, fun pos cv hc => ?_⟩
    obtain ⟨c, e1, e2⟩ := h3 pos cv hc
    exact ⟨c, e1, drop_at p e2 code_nx⟩⟩
theorem RX.keep {H2 : Hp} {x : Exc} {dd : Option Addr} (k : Keep H H2) (h : RX K m H x dd) : RX K m H2 x dd := by
  unfold RX at h ⊢
  split at h
  · exact h
  · obtain ⟨d, gs, e, e1, r⟩ := h
    exact ⟨d, gs, e, k _ _ e1 trivial, r.mono (Ext.refl m) k⟩
end
end DL

namespace DL
open PySem PySem.Spec PyProof.Rows L2
section
variable {P : Program} {w : World} {C : List Addr} {H H2 : Hp} {h h2 : Heap} {fs : List Addr}
theorem PinsAt.get (p : PinsAt C H) (ok : HOk P w H h) {c : Addr} (hc : c ∈ C) : ∃ (o : Obj) (v : Option Value), H c = some (PinO c o) ∧ h.get? c = some o ∧ o.data = .cell v := by
  obtain ⟨o, v, e, d⟩ := p c hc
  exact ⟨o, v, e, (ok c _ e).1, d⟩
end
structure CloV (scope : Scope) (caps : List Str) (vs : List V) (H : Hp) (clo : List (Str × Addr)) : Prop where
  pin : PinsAt (clo.map Prod.snd) H
  val : ∀ (j : Nat) (x : Str) (v : V) (c : Addr), caps[j]? = some x → vs[j]? = some v → clo.lookup x = some c → ∃ (o : Obj) (u : Value), H c = some (PinO c o) ∧ o.data = .cell (some u) ∧ RelV v u
  inj : ∀ x y c, clo.lookup x = some c → clo.lookup y = some c → x = y
  has : ∀ y ∈ scope.names, y.2 = .free → ∃ c, clo.lookup y.1 = some c
  len : vs.length = caps.length
theorem CloV.keep {scope : Scope} {caps : List Str} {vs : List V} {H H' : Hp} {clo : List (Str × Addr)} (k : Keep H H') (V : CloV scope caps vs H clo) : CloV scope caps vs H' clo :=
  ⟨fun c hc => let ⟨o, w, e, d⟩ := V.pin c hc; ⟨o, w, k _ _ e trivial, d⟩, fun j x v c h1 h2 h3 => let ⟨o, u, e, d, r⟩ := V.val j x v c h1 h2 h3; ⟨o, u, k _ _ e trivial, d, r⟩, V.inj, V.has, V.len⟩
def LamB (tab : List LamI) (caps : List Str) : Nat → List V → Hp → Obj → Prop := fun i vs H o => ∃ I clo, tab[i]? = some I ∧ LamIs I clo H o ∧ CloV I.scope caps vs H clo
abbrev lbEnv (q : Str) (clo : List (Str × Addr)) (scope : Scope) (L f c' : Addr) : Env := PySem.W.envX q scope L f (.ref c') clo
def lbCx (X : Cx) (N : List Str) (q : Str) (clo : List (Str × Addr)) (A : Around) (outer : List Env) (s : Shared) (H : Hp) (E : XK) (scope : Scope) (f c' : Addr) : Cx where
  prog := X.prog
  w := X.w
  K := X.K
  mg := X.mg
  base := X.base
  A := A.deeper (lbEnv q clo scope s.heap.objs.size f c')
  N := N
  s_0 := s
  H_0 := H
  env := lbEnv q clo scope s.heap.objs.size f c'
  outer := outer
  stack := lbEnv q clo scope s.heap.objs.size f c' :: outer
  ex := []
  fn := fun _ => false
  calm := true
  pn := []
  xe := fun e s' => wpAny (model X.prog X.w) (A.deeper (lbEnv q clo scope s.heap.objs.size f c')) (leaving (lbEnv q clo scope s.heap.objs.size f c') e) (fun _ s'' => L2.CX X.prog X.w outer H s E e s'') (fun e' s'' => L2.CX X.prog X.w outer H s E e' s'') s'
section
variable {X : Cx}
variable {pins : List (Addr × Obj)} {σ : L2.St} {H : Hp} {s : Shared}
end
end DL

namespace DL
open PySem PySem.Spec PyProof.Rows L2
section
variable {cl : Cl} {X : Cx} {E : XK}
structure LamSetB (cl : Cl) (X : Cx) (N : List Str) (sc : Scope) (k : Nat) (fs : Nat → Option (Sl → Sto → Res D)) : Prop where
  nc : NoC cl
  all : ∀ (i : Nat) (fb : Sl → Sto → Res D), fs i = some fb → ∃ I : LamI, (∀ vs H o, cl.lmb i vs H o → ∃ clo, LamIs I clo H o ∧ CloV I.scope N vs H clo) ∧ LamOk N sc I ∧
    ∀ (H0 : Hp) (clo : List (Str × Addr)) (A : Around) (outer : List Env) (s : Shared) (H : Hp) (E : XK) (f c' : Addr), Cok (lbCx X N I.qual clo A outer s H E I.scope f c') E k → DE (cl.at_ H0) (lbCx X N I.qual clo A outer s H E I.scope f c') E I.body fb
end
structure PSsB (X : Cx) (sts : List Stmt) (t : (V → L2.St → Hp → Prop) → L2.St → Hp → Prop) : Prop where
  run : ∀ (pins : List (Addr × Obj)) (s : Shared) (σ : L2.St) (H : Hp) (R : V → L2.St → Hp → Prop), Inv X pins σ H s → t R σ H →
    wpAny (model X.prog X.w) X.A (execs sts X.env) (fun fl s' => ∃ u, fl = .ret u ∧ ∃ v σ' H', Inv X pins σ' H' s' ∧ RelV v u ∧ R v σ' H') X.xe s
section
variable {X : Cx} {E : XK} {cl : Cl}
end
end DL

namespace DL
open PySem PySem.Spec PyProof.Rows L2
def convB (cs : List D) : DO → DO
  | .dic 5 [(.int i, .non)] => if 1000 ≤ i then .dic 7 [(.int (i - 1000), .tup cs)] else .dic 5 [(.int i, .non)]
  | o => o
open Classical in
def lamM (cl : Cl) (tab : List LamI) (names : List (Str × NameKind)) (L : Nat) : Nat → Hp → Obj → Prop := fun i H o => (i < 1000 ∧ cl.lam i H o) ∨ (1000 ≤ i ∧ lamT tab names L (i - 1000) H o)
section
variable {X : Cx} {pins : List (Addr × Obj)} {σ : L2.St} {H : Hp} {s : Shared}
end
section
variable {cl : Cl} {K : PySem.W.Frag} {m : List Addr} {H Hp2 : Hp} {tab : List LamI} {names : List (Str × NameKind)} {L : Nat} {cs : List D} {vs : List V}
theorem RO.conv (k : Keep H Hp2) (rv : RVs K m Hp2 cs vs) (hB : ∀ i H' o, Keep Hp2 H' → lamT tab names L i H' o → cl.lmb i vs H' o) {a : Addr} (ha : Hp2 a = H a) {o : DO} (ro : RO (cl.wl (lamM cl tab names L)) K m H o a) : RO cl K m Hp2 (convB cs o) a := by
  have r2 := RO.mono (Ext.refl m) k ha ro
  by_cases h : ∃ i, o = .dic 5 [(.int i, .non)]
  · obtain ⟨i, rfl⟩ := h
    obtain ⟨i', ob, u, e0, e, q⟩ := r2
    have : i = i' := by simpa using e0
    subst this
    have e2 : convB cs (.dic 5 [(.int i, .non)]) = if 1000 ≤ i then .dic 7 [(.int (i - 1000), .tup cs)] else .dic 5 [(.int i, .non)] := rfl
    rw [e2]
    by_cases hi : 1000 ≤ i
    · rw [if_pos hi]
      refine ⟨_, cs, vs, ob, u, rfl, e, rv, fun H' k' => ?_⟩
      rcases q H' k' with ⟨z, _⟩ | ⟨_, z⟩
      · omega
      · rw [show (i - 1000).toNat = i.toNat - 1000 from by omega]
        exact hB _ _ _ k' z
    · rw [if_neg hi]
      refine ⟨i, ob, u, rfl, e, fun H' k' => ?_⟩
      rcases q H' k' with ⟨_, z⟩ | ⟨z, _⟩
      · exact z
      · omega
  · have e1 : convB cs o = o := by
      unfold convB
      split
      · exact absurd ⟨_, rfl⟩ h
      · rfl
    rw [e1]
    cases o with
    | dic kd kvs =>
      match kd, r2 with
      | 0, r => exact r
      | 1, r => exact r
      | 2, r => exact r
      | 3, r => exact r
      | 4, r => exact r
      | 5, ⟨i, ob, u, e0, _, _⟩ => exact absurd ⟨i, by rw [e0]⟩ h
      | 6, r => exact r
      | 7, r => exact r
      | _ + 8, r => exact r.elim
    | lst _ => exact r2
    | ins _ _ => exact r2
    | dead => exact r2
end
end DL
namespace DL
open PySem PySem.Spec PyProof.Rows L2
abbrev LamK1 := Nat → Hp → Obj → Prop
abbrev LamK2 := Nat → List V → Hp → Obj → Prop
structure LmOk (lm : LamK1) (lb : LamK2) (tab : List LamI) (caps : List Str) : Prop where
  lo : ∀ i H o, lm i H o → i < 1000
  hi : ∀ i vs H o, LamB tab caps i vs H o → lb i vs H o
section
variable {cl : Cl} {X : Cx} {N : List Str} {sc : Scope} {k : Nat}
end
end DL

namespace DL
open PySem PySem.Spec PyProof.Rows L2
section
variable {X : Cx}
end
end DL
namespace DL
open PySem PySem.Spec PyProof.Rows L2
section
variable {cl : Cl} {X : Cx} {E : XK}
end
end DL

namespace DL
open PySem PySem.Spec PyProof.Rows L2
section
variable {X : Cx} {pins : List (Addr × Obj)} {σ : L2.St} {H : Hp} {s : Shared} {HZ : Hp} {sE : Shared}
end
mutual
def D.pur : D → Bool
  | .tup ds => D.purs ds
  | .frl ds => D.purs ds
  | .ref _ => false
  | .exn _ _ _ _ => false
  | .non => true
  | .bl _ => true
  | .int _ => true
  | .str _ => true
def D.purs : List D → Bool
  | [] => true
  | d :: ds => D.pur d && D.purs ds
end
section
variable {K : PySem.W.Frag} {m m' : List Addr} {H H' : Hp}
mutual
theorem RV.pur (ht : ∀ b xs, H b = some (.tup xs) → H' b = some (.tup xs)) (hf : ∀ b o u, H b = some (.frz o u) → H' b = some (.frz o u)) : ∀ (d : D) {v : V}, d.pur = true → RV K m H d v → RV K m' H' d v
  | .non, _, _, h => h
  | .bl _, _, _, h => h
  | .int _, _, _, h => h
  | .str _, _, _, h => h
  | .tup ds, _, p, ⟨a, vs, e, s, r⟩ => ⟨a, vs, e, (by
      rcases s with (z | ⟨o, z⟩) | z
      · exact .inl (.inl (ht _ _ z))
      · exact .inl (.inr ⟨o, hf _ _ _ z⟩)
      · exact .inr z), RVs.pur ht hf ds p r⟩
  | .frl ds, _, p, ⟨a, vs, e, s, r⟩ => ⟨a, vs, e, (by
      rcases s with ⟨o, z⟩ | z
      · exact .inl ⟨o, hf _ _ _ z⟩
      · exact .inr z), RVs.pur ht hf ds p r⟩
  | .ref _, _, p, _ => by cases p
  | .exn _ _ _ _, _, p, _ => by cases p
theorem RVs.pur (ht : ∀ b xs, H b = some (.tup xs) → H' b = some (.tup xs)) (hf : ∀ b o u, H b = some (.frz o u) → H' b = some (.frz o u)) : ∀ (ds : List D) {vs : List V}, D.purs ds = true → RVs K m H ds vs → RVs K m' H' ds vs
  | [], _, _, h => h
  | d :: ds, _, p, ⟨v, vs', e, r, t⟩ => by
    have p' : (D.pur d && D.purs ds) = true := p
    rw [Bool.and_eq_true] at p'
    exact ⟨v, vs', e, RV.pur ht hf d p'.1 r, RVs.pur ht hf ds p'.2 t⟩
end
end
end DL

namespace DL
open PySem PySem.Spec PyProof.Rows L2
section
variable {cl : Cl} {X : Cx} {E : XK} {sB : Shared} {HB : Hp} {scB : Scope} {ceB : Env} {fpB : List Addr} {pins0 : List (Addr × Obj)} {σ0 : L2.St} {m0 : List Addr} {sd0 : Sl} {x a : Str} {g : Addr} {k : Nat} {pg : Arguments} {bg : List Stmt} {sg sc : Scope} {N Ng : List Str} {Fx : Exc → Sto → Res D} {pins : List (Addr × Obj)} {σ : L2.St} {R : VK} {H1 : Hp} {s1 : Shared}
  {f : Addr} {o : Obj} {w : HO} {i : Nat} {fb : Sl → Sto → Res D} {m : List Addr} {S : Sto} {dV kV doc pm cdv ct oc : Value} {an od : Option Addr} {osl : Array (Option Value)}
end
end DL

namespace DL
open PySem PySem.Spec PyProof.Rows L2
section
variable {X : Cx}
end
end DL
namespace DL
open PySem PySem.Spec PyProof.Rows L2
section
variable {cl : Cl} {X : Cx} {E : XK}
end
end DL

namespace DL
open PySem PySem.Spec PyProof.Rows L2
def LamN (N : List Str) (scope : Scope) (ks : List Nat) : Prop := ∀ (i : Nat) (y : Str), N[i]? = some y → scope.names.lookup y = some .local → i ∈ ks
section
variable {cl : Cl} {X : Cx} {E : XK}
end
section
variable {cl : Cl} {X : Cx} {k : Nat} {ks : List Nat}
def LamPZ (cl : Cl) (X : Cx) (k : Nat) (ks : List Nat) (i : Nat) (fb : Sl → Sto → Res D) : Prop := ∃ I : LamI, (∀ H o, cl.lam i H o → LamIs I (cloFrom X.env.cells I.scope.names []) H o) ∧ LamOk [] X.env.scope I ∧ LamN X.N I.scope ks ∧ I.qual = X.env.qual ++ "<lambda>" ∧
    ∀ (A : Around) (outer : List Env) (s : Shared) (H : Hp) (E : XK) (f c' : Addr), Cok (LamX.lamCx X A outer s H E I.scope f c') E k → DE cl (LamX.lamCx X A outer s H E I.scope f c') E I.body fb
structure LamSetZ (cl : Cl) (X : Cx) (k : Nat) (ks : List Nat) (fs : Nat → Option (Sl → Sto → Res D)) : Prop where
  all : ∀ (i : Nat) (fb : Sl → Sto → Res D), fs i = some fb → LamPZ cl X k ks i fb
end
section
variable {X : Cx} {pins : List (Addr × Obj)} {σ : L2.St} {H : Hp} {s : Shared} {HZ : Hp} {sE : Shared}
end
end DL

namespace DL
open PySem PySem.Spec PyProof.Rows L2
section
variable {X : Cx} {k : Nat} {f : Addr} {fd : FuncData} {ps : List Str} {sp : Sp} {x : Str} {p pos : Pos} {e : Expr} {es : List Expr} {t : TA} {W : WX}
end
end DL

namespace DL
open PySem PySem.Spec PyProof.Rows L2
def sl2 (z : Str) (lo : Option Int) : Str := ⟨((Builtin.Str.strSliceIndices lo none 2 z.length).filterMap (z.cps[·]?)).toArray⟩
section
variable {cl : Cl} {X : Cx} {E : XK} {e : Expr} {lo : Option Expr} {te : TE} {tl : TO} {k : Nat} {p1 p2 pos : Pos} {fa : Sl → Sto → Res D} {fl : Sl → Sto → Res (Option Int)}
end
end DL

namespace DL
open PySem PySem.Spec PyProof.Rows L2
def downL (i : Int) (n : Nat) : List D := (List.range n).map fun k => D.int (i + ((k : Nat) : Int) * (-1))
theorem downL_len (i : Int) (n : Nat) : (downL i n).length = n := by simp [downL]
section
variable {cl : Cl} {X : Cx} {E : XK} {tg e e2 e3 : Expr} {fa fb fc : Sl → Sto → Res D} {pos p : Pos}
theorem ir_down {K : PySem.W.Frag} {m : List Addr} {H : Hp} (lo : Int) (n : Nat) : IR cl K m H ⟨downL lo n, yes⟩ (Itc lo (-1) n) := by
  intro i m' S' H' x kp rs' hc'
  refine ⟨fun e => by show n ≤ i; rw [e]; exact Nat.le_of_eq (downL_len lo n).symm, fun d hd => ?_⟩
  have hd1 : (downL lo n)[i]? = some d := hd
  have hi : i < n := by have := (List.getElem?_eq_some_iff.mp hd1).1; rw [downL_len] at this; exact this
  refine ⟨hi, fun y H2 ⟨e1, e2⟩ => ?_⟩
  subst e1 e2
  refine ⟨Keep.refl _, rs', ?_⟩
  unfold downL at hd1
  rw [List.getElem?_map, List.getElem?_range hi] at hd1
  cases hd1
  exact rfl
noncomputable def iRngD3 (f g h : Sl → Sto → Res D) : Sl → Sto → Res ItD := fun sd S => (f sd S).bind fun d S1 => (g sd S1).bind fun e S2 => (h sd S2).bind fun c S3 => match d, e, c with
  | .int i, .int j, .int c => if bnd 62 i = true ∧ bnd 62 j = true ∧ c = -1 then .ok ⟨downL i (i - j).toNat, yes⟩ S3 else .stuck
  | _, _, _ => .stuck
theorem di_range3 (hg : Gl X "range") (hm : X.mg "range" = none) (he : DE cl X E e fa) (he2 : DE cl X E e2 fb) (he3 : DE cl X E e3 fc) (hs : starEach [e, e2, e3] X.env = (false, eval e X.env) :: starEach [e2, e3] X.env := by rfl) (hs2 : starEach [e2, e3] X.env = [(false, eval e2 X.env), (false, eval e3 X.env)] := by rfl) (hs3 : starEach [e3] X.env = [(false, eval e3 X.env)] := by rfl) (hpl : (backTo pos (starEach [e2, e3] X.env)).any (·.1) = false := by rfl) :
    DI cl X E tg (.Call (.Name "range" p) [e, e2, e3] [] pos) (iRngD3 fa fb fc) := by
  obtain ⟨t, q, he⟩ := he
  obtain ⟨t2, q2, he2⟩ := he2
  obtain ⟨t3, q3, he3⟩ := he3
  refine ⟨_, pi_range3 hg hm (pa_cons q (pa_cons q2 (pa_cons q3 pa_nil hs3) (by rw [hs2, hs3])) hs) hs hpl, fun m S H sd σ R rs rl h => ?_⟩
  refine he m S H sd σ _ rs rl (Post.bind h fun d S1 m1 v H1 x1 k1 rs1 rv h1 => ?_)
  refine he2 m1 S1 H1 sd σ _ rs1 (rl.mono x1 k1) (Post.bind h1 fun d2 S2 m2 v2 H2 x2 k2 rs2 rv2 h2 => ?_)
  refine he3 m2 S2 H2 sd σ _ rs2 ((rl.mono x1 k1).mono x2 k2) (Post.bind h2 fun d3 S3 m3 v3 H3 x3 k3 rs3 rv3 h3 => ?_)
  split at h3
  · rename_i i j c
    cases rv; cases rv2; cases rv3
    split at h3
    · rename_i hz
      obtain ⟨h1, h2, rfl⟩ := hz
      exact ⟨i, j, -1, (i - j).toNat, rfl, RgC.neg (bnd_ok h1).1 (bnd_ok h1).2 (bnd_ok h2).1 (bnd_ok h2).2, h3.here rs3 (ir_down i (i - j).toNat)⟩
    · exact h3.elim
  · exact h3.elim
def iRevD (f : Sl → Sto → Res D) : Sl → Sto → Res ItD := fun sd S => (f sd S).bind fun d S1 => match d with
  | .frl ds => .ok ⟨ds.reverse, yes⟩ S1
  | _ => .stuck
theorem di_rev (hg : Gl X "reversed") (hm : X.mg "reversed" = none) (he : DE cl X E e fa) (hs : starEach [e] X.env = (false, eval e X.env) :: starEach [] X.env := by rfl) : DI cl X E tg (.Call (.Name "reversed" p) [e] [] pos) (iRevD fa) := by
  obtain ⟨t, q, he⟩ := he
  refine ⟨_, RT.pi_revA hg hm q hs, fun m S H sd σ R rs rl h => ?_⟩
  refine he m S H sd σ _ rs rl (Post.bind h fun d S1 m1 v H1 x1 k1 rs1 rv h1 => ?_)
  cases d with
  | frl ds =>
    obtain ⟨a, vs, rfl, hv, r1⟩ := ls_rv rs1 rv rfl
    refine ⟨a, vs, rfl, .inl ⟨hv, h1.here rs1 ?_⟩⟩
    intro i m' S' H' x' k' rs' _
    obtain ⟨a', vs', ea, hv', r'⟩ := ls_rv rs' (RV.mono x' k' (.frl ds) rv) rfl
    cases ea
    have l1 := r1.length
    have l2 := r'.length
    refine ⟨fun e => by
      show vs.length ≤ i
      rw [e]
      show vs.length ≤ ds.reverse.length
      rw [List.length_reverse]
      omega, fun d hd => ?_⟩
    have hd1 : ds.reverse[i]? = some d := hd
    have hi : i < ds.length := by have := (List.getElem?_eq_some_iff.mp hd1).1; rw [List.length_reverse] at this; exact this
    rw [List.getElem?_reverse hi] at hd1
    obtain ⟨u, hu, ru⟩ := r'.get hd1
    rw [show ds.length = vs.length by omega] at hu
    refine ⟨⟨by omega, vs', u, hv', hu⟩, fun y H2 ⟨e1, e2⟩ => ?_⟩
    subst e1
    refine ⟨Keep.refl _, rs', ?_⟩
    have := e2 vs' hv'
    rw [hu] at this
    cases this
    exact ru
  | _ => exact h1.elim
end
end DL

namespace Lw
open PySem PySem.Spec PyProof.Rows L2 DL
def fuelW : Nat := 1000000000000000
def top (i : Nat) : Stmt := PySem.Challenge.pw_tablebeat_k30_rows_that_find_all.main.body.getD i (.Pass ⟨0, 0, 0, 0⟩)
abbrev st__law_start : Stmt := top 34
abbrev st__law_drawn : Stmt := top 35
abbrev st__law_deed : Stmt := top 38
abbrev st__law_plain : Stmt := top 37
abbrev st__law_beats : Stmt := top 39
abbrev st__law_at : Stmt := top 41
abbrev st__law_between : Stmt := top 42
abbrev st__law_changed : Stmt := top 45
abbrev st__law_wrong : Stmt := top 47
abbrev st__law_passed : Stmt := top 44
abbrev st__law_deeds : Stmt := top 46
abbrev st__law_finds : Stmt := top 48
abbrev st__law_beat : Stmt := top 40
abbrev st_is_word : Stmt := top 9
abbrev st_is_row : Stmt := top 14
abbrev st_need_plain : Stmt := top 15
abbrev st_need_few : Stmt := top 16
abbrev st_need_tests : Stmt := top 24
abbrev st_met_from : Stmt := top 19
abbrev st_all_beats : Stmt := top 10
abbrev st_road_to : Stmt := top 28
abbrev st_row_between : Stmt := top 20
abbrev st_changed : Stmt := top 25
abbrev st_finding : Stmt := top 29
abbrev st_all_wrong : Stmt := top 27
abbrev st_number_of : Stmt := top 11
abbrev st_is_gone : Stmt := top 26
abbrev st_deeds_of : Stmt := top 17
abbrev st_is_found : Stmt := top 30
abbrev st_lean : Stmt := top 32
abbrev st__law_same : Stmt := top 36
abbrev st__law_lean : Stmt := top 49
abbrev st_checks : Stmt := top 31
abbrev st_law : Stmt := top 50
abbrev st_x_BadPlain : Stmt := inClass (top 2) 0
abbrev st_x_BadRows : Stmt := inClass (top 4) 0
def cn : Nat → Str
  | 0 => "BeatError"
  | 4 => "BadPlain"
  | 5 => "TooLarge"
  | 15 => "BadRows"
  | _ => ""
def tq : List (He.Defn × Str) := []
def tf : List He.Defn := tq.map Prod.fst
abbrev cl (K : PySem.W.Frag) (w : World) : Cl := ⟨fun c => He.ga K (cn c), tabsQ K tq, fun k => k.hash w, fun _ _ _ => False, fun _ _ _ _ => False⟩
structure Tx (K : PySem.W.Frag) (mg : Str → Option Value) (w : World) : Prop where
  g__law_start : mg "_law_start" = some (.ref (He.ga K "_law_start"))
  g__law_drawn : mg "_law_drawn" = some (.ref (He.ga K "_law_drawn"))
  g__law_deed : mg "_law_deed" = some (.ref (He.ga K "_law_deed"))
  g__law_plain : mg "_law_plain" = some (.ref (He.ga K "_law_plain"))
  g__law_beats : mg "_law_beats" = some (.ref (He.ga K "_law_beats"))
  g__law_at : mg "_law_at" = some (.ref (He.ga K "_law_at"))
  g__law_between : mg "_law_between" = some (.ref (He.ga K "_law_between"))
  g__law_changed : mg "_law_changed" = some (.ref (He.ga K "_law_changed"))
  g__law_wrong : mg "_law_wrong" = some (.ref (He.ga K "_law_wrong"))
  g__law_passed : mg "_law_passed" = some (.ref (He.ga K "_law_passed"))
  g__law_deeds : mg "_law_deeds" = some (.ref (He.ga K "_law_deeds"))
  g__law_finds : mg "_law_finds" = some (.ref (He.ga K "_law_finds"))
  g__law_beat : mg "_law_beat" = some (.ref (He.ga K "_law_beat"))
  g_is_word : mg "is_word" = some (.ref (He.ga K "is_word"))
  g_is_row : mg "is_row" = some (.ref (He.ga K "is_row"))
  g_need_plain : mg "need_plain" = some (.ref (He.ga K "need_plain"))
  g_need_few : mg "need_few" = some (.ref (He.ga K "need_few"))
  g_need_tests : mg "need_tests" = some (.ref (He.ga K "need_tests"))
  g_met_from : mg "met_from" = some (.ref (He.ga K "met_from"))
  g_all_beats : mg "all_beats" = some (.ref (He.ga K "all_beats"))
  g_road_to : mg "road_to" = some (.ref (He.ga K "road_to"))
  g_row_between : mg "row_between" = some (.ref (He.ga K "row_between"))
  g_changed : mg "changed" = some (.ref (He.ga K "changed"))
  g_finding : mg "finding" = some (.ref (He.ga K "finding"))
  g_all_wrong : mg "all_wrong" = some (.ref (He.ga K "all_wrong"))
  g_number_of : mg "number_of" = some (.ref (He.ga K "number_of"))
  g_is_gone : mg "is_gone" = some (.ref (He.ga K "is_gone"))
  g_deeds_of : mg "deeds_of" = some (.ref (He.ga K "deeds_of"))
  g_is_found : mg "is_found" = some (.ref (He.ga K "is_found"))
  g_lean : mg "lean" = some (.ref (He.ga K "lean"))
  g__law_same : mg "_law_same" = some (.ref (He.ga K "_law_same"))
  g__law_lean : mg "_law_lean" = some (.ref (He.ga K "_law_lean"))
  g_checks : mg "checks" = some (.ref (He.ga K "checks"))
  g_law : mg "law" = some (.ref (He.ga K "law"))
  g_BeatError : mg "BeatError" = some (.ref (He.ga K "BeatError"))
  g_BadPlain : mg "BadPlain" = some (.ref (He.ga K "BadPlain"))
  g_TooLarge : mg "TooLarge" = some (.ref (He.ga K "TooLarge"))
  g_BadRows : mg "BadRows" = some (.ref (He.ga K "BadRows"))
  z_len : mg "len" = none
  z_range : mg "range" = none
  z_min : mg "min" = none
  z_tuple : mg "tuple" = none
  z_sorted : mg "sorted" = none
  z_list : mg "list" = none
  z_enumerate : mg "enumerate" = none
  z_zip : mg "zip" = none
  z_int : mg "int" = none
  z_isinstance : mg "isinstance" = none
  z_str : mg "str" = none
  z_bool : mg "bool" = none
  z_reversed : mg "reversed" = none
  k_MOST_INS : Con0 K mg "MOST_INS" (.int 4)
  k_MOST_OUTS : Con0 K mg "MOST_OUTS" (.int 3)
  k_COUNTS : Con0 K mg "COUNTS" (.tup [(.int 1), (.int 2), (.int 4), (.int 8), (.int 16)])
  k_MOST_PLAIN : Con0 K mg "MOST_PLAIN" (.int 200)
  k_SMALL : Con0 K mg "SMALL" (.int 6)
  k_MOST_TESTS : Con0 K mg "MOST_TESTS" (.int 200)
  xb : ExB K (cl K w 0)
  xo_BadPlain : OexC K (cl K w 4)
  xi_BadPlain : (∀ f ∈ (["number"] : List Str), PySem.W.findIn K (.ref (cl K w 4)) f = some none) ∧ PySem.W.findIn K (.ref (cl K w 4)) "__init__" = some (some (.ref (He.ma K (cl K w 4) "__init__"))) ∧ PySem.W.typeIn K (.ref (He.ma K (cl K w 4) "__init__")) = some (.type "function")
  xt_TooLarge : ExT K (cl K w 5)
  xo_BadRows : OexC K (cl K w 15)
  xi_BadRows : (∀ f ∈ (["number"] : List Str), PySem.W.findIn K (.ref (cl K w 15)) f = some none) ∧ PySem.W.findIn K (.ref (cl K w 15)) "__init__" = some (some (.ref (He.ma K (cl K w 15) "__init__"))) ∧ PySem.W.typeIn K (.ref (He.ma K (cl K w 15) "__init__")) = some (.type "function")
  f__law_start : ∃ fd, FunD K "_law_start" "_law_start" (defArgs st__law_start) (defBody st__law_start) (defScope st__law_start) [] [] (He.fAd K ("_law_start", none)) fd
  f__law_drawn : ∃ fd, FunD K "_law_drawn" "_law_drawn" (defArgs st__law_drawn) (defBody st__law_drawn) (defScope st__law_drawn) [] [] (He.fAd K ("_law_drawn", none)) fd
  f__law_deed : ∃ fd, FunD K "_law_deed" "_law_deed" (defArgs st__law_deed) (defBody st__law_deed) (defScope st__law_deed) [] [] (He.fAd K ("_law_deed", none)) fd
  f__law_plain : ∃ fd, FunD K "_law_plain" "_law_plain" (defArgs st__law_plain) (defBody st__law_plain) (defScope st__law_plain) [] [] (He.fAd K ("_law_plain", none)) fd
  f__law_beats : ∃ fd, FunD K "_law_beats" "_law_beats" (defArgs st__law_beats) (defBody st__law_beats) (defScope st__law_beats) [] [] (He.fAd K ("_law_beats", none)) fd
  f__law_at : ∃ fd, FunD K "_law_at" "_law_at" (defArgs st__law_at) (defBody st__law_at) (defScope st__law_at) [] [] (He.fAd K ("_law_at", none)) fd
  f__law_between : ∃ fd, FunD K "_law_between" "_law_between" (defArgs st__law_between) (defBody st__law_between) (defScope st__law_between) [] [] (He.fAd K ("_law_between", none)) fd
  f__law_changed : ∃ fd, FunD K "_law_changed" "_law_changed" (defArgs st__law_changed) (defBody st__law_changed) (defScope st__law_changed) [] [] (He.fAd K ("_law_changed", none)) fd
  f__law_wrong : ∃ fd, FunD K "_law_wrong" "_law_wrong" (defArgs st__law_wrong) (defBody st__law_wrong) (defScope st__law_wrong) [] [] (He.fAd K ("_law_wrong", none)) fd
  f__law_passed : ∃ fd, FunD K "_law_passed" "_law_passed" (defArgs st__law_passed) (defBody st__law_passed) (defScope st__law_passed) [] [] (He.fAd K ("_law_passed", none)) fd
  f__law_deeds : ∃ fd, FunD K "_law_deeds" "_law_deeds" (defArgs st__law_deeds) (defBody st__law_deeds) (defScope st__law_deeds) [] [] (He.fAd K ("_law_deeds", none)) fd
  f__law_finds : ∃ fd, FunD K "_law_finds" "_law_finds" (defArgs st__law_finds) (defBody st__law_finds) (defScope st__law_finds) [] [] (He.fAd K ("_law_finds", none)) fd
  f__law_beat : ∃ fd, FunD K "_law_beat" "_law_beat" (defArgs st__law_beat) (defBody st__law_beat) (defScope st__law_beat) [] [] (He.fAd K ("_law_beat", none)) fd
  f_is_word : ∃ fd, FunD K "is_word" "is_word" (defArgs st_is_word) (defBody st_is_word) (defScope st_is_word) [] [] (He.fAd K ("is_word", none)) fd
  f_is_row : ∃ fd, FunD K "is_row" "is_row" (defArgs st_is_row) (defBody st_is_row) (defScope st_is_row) [] [] (He.fAd K ("is_row", none)) fd
  f_need_plain : ∃ fd, FunD K "need_plain" "need_plain" (defArgs st_need_plain) (defBody st_need_plain) (defScope st_need_plain) [] [] (He.fAd K ("need_plain", none)) fd
  f_need_few : ∃ fd, FunD K "need_few" "need_few" (defArgs st_need_few) (defBody st_need_few) (defScope st_need_few) [] [] (He.fAd K ("need_few", none)) fd
  f_need_tests : ∃ fd, FunD K "need_tests" "need_tests" (defArgs st_need_tests) (defBody st_need_tests) (defScope st_need_tests) [] [] (He.fAd K ("need_tests", none)) fd
  f_met_from : ∃ fd, FunD K "met_from" "met_from" (defArgs st_met_from) (defBody st_met_from) (defScope st_met_from) [] [] (He.fAd K ("met_from", none)) fd
  f_all_beats : ∃ fd, FunD K "all_beats" "all_beats" (defArgs st_all_beats) (defBody st_all_beats) (defScope st_all_beats) [] [] (He.fAd K ("all_beats", none)) fd
  f_road_to : ∃ fd, FunD K "road_to" "road_to" (defArgs st_road_to) (defBody st_road_to) (defScope st_road_to) [] [] (He.fAd K ("road_to", none)) fd
  f_row_between : ∃ fd, FunD K "row_between" "row_between" (defArgs st_row_between) (defBody st_row_between) (defScope st_row_between) [] [] (He.fAd K ("row_between", none)) fd
  f_changed : ∃ fd, FunD K "changed" "changed" (defArgs st_changed) (defBody st_changed) (defScope st_changed) [] [] (He.fAd K ("changed", none)) fd
  f_finding : ∃ fd, FunD K "finding" "finding" (defArgs st_finding) (defBody st_finding) (defScope st_finding) [] [] (He.fAd K ("finding", none)) fd
  f_all_wrong : ∃ fd, FunD K "all_wrong" "all_wrong" (defArgs st_all_wrong) (defBody st_all_wrong) (defScope st_all_wrong) [] [] (He.fAd K ("all_wrong", none)) fd
  f_number_of : ∃ fd, FunD K "number_of" "number_of" (defArgs st_number_of) (defBody st_number_of) (defScope st_number_of) [] [] (He.fAd K ("number_of", none)) fd
  f_is_gone : ∃ fd, FunD K "is_gone" "is_gone" (defArgs st_is_gone) (defBody st_is_gone) (defScope st_is_gone) [] [] (He.fAd K ("is_gone", none)) fd
  f_deeds_of : ∃ fd, FunD K "deeds_of" "deeds_of" (defArgs st_deeds_of) (defBody st_deeds_of) (defScope st_deeds_of) [] [] (He.fAd K ("deeds_of", none)) fd
  f_is_found : ∃ fd, FunD K "is_found" "is_found" (defArgs st_is_found) (defBody st_is_found) (defScope st_is_found) [] [] (He.fAd K ("is_found", none)) fd
  f_lean : ∃ fd, FunD K "lean" "lean" (defArgs st_lean) (defBody st_lean) (defScope st_lean) [] [] (He.fAd K ("lean", none)) fd
  f__law_same : ∃ fd, FunD K "_law_same" "_law_same" (defArgs st__law_same) (defBody st__law_same) (defScope st__law_same) [] [] (He.fAd K ("_law_same", none)) fd
  f__law_lean : ∃ fd, FunD K "_law_lean" "_law_lean" (defArgs st__law_lean) (defBody st__law_lean) (defScope st__law_lean) [] [] (He.fAd K ("_law_lean", none)) fd
  f_checks : ∃ fd, FunD K "checks" "checks" (defArgs st_checks) (defBody st_checks) (defScope st_checks) [] [] (He.fAd K ("checks", none)) fd
  f_law : ∃ fd, FunD K "law" "law" (defArgs st_law) (defBody st_law) (defScope st_law) [] [] (He.fAd K ("law", none)) fd
  f_x_BadPlain : ∃ fd, FunD K "__init__" "BadPlain.__init__" (defArgs st_x_BadPlain) (defBody st_x_BadPlain) (defScope st_x_BadPlain) [] [] (He.fAd K ("BadPlain", some "__init__")) fd
  f_x_BadRows : ∃ fd, FunD K "__init__" "BadRows.__init__" (defArgs st_x_BadRows) (defBody st_x_BadRows) (defScope st_x_BadRows) [] [] (He.fAd K ("BadRows", some "__init__")) fd
theorem sc__law_start : FnScope ["_law_script", "_law_mixed", "_law_cell"] ["_law_script"] (defScope st__law_start) := ⟨rfl, rfl, rfl, by decide +kernel, rfl, by decide +kernel, by decide +kernel⟩
theorem sc__law_drawn : FnScope ["_law_state", "_law_many", "_law_found", "_law_cell"] ["_law_state", "_law_many"] (defScope st__law_drawn) := ⟨rfl, rfl, rfl, by decide +kernel, rfl, by decide +kernel, by decide +kernel⟩
theorem sc__law_deed : FnScope ["_law_state", "_law_outs", "_law_k"] ["_law_state", "_law_outs"] (defScope st__law_deed) := ⟨rfl, rfl, rfl, by decide +kernel, rfl, by decide +kernel, by decide +kernel⟩
theorem sc__law_plain : FnScope ["_law_state", "_law_most", "_law_wires", "_law_ins", "_law_outs", "_law_many", "_law_few", "_law_near", "_law_rows", "_law_room", "_law_row", "_law_k", "_law_some", "_law_behind"] ["_law_state", "_law_most", "_law_wires"] (defScope st__law_plain) := ⟨rfl, rfl, rfl, by decide +kernel, rfl, by decide +kernel, by decide +kernel⟩
theorem sc__law_beats : FnScope ["_law_ins", "_law_rest", "_law_beat_here"] ["_law_ins"] (defScope st__law_beats) := ⟨rfl, rfl, rfl, by decide +kernel, rfl, by decide +kernel, by decide +kernel⟩
theorem sc__law_at : FnScope ["_law_plain_here", "_law_room", "_law_beat_here"] ["_law_plain_here", "_law_room", "_law_beat_here"] (defScope st__law_at) := ⟨rfl, rfl, rfl, by decide +kernel, rfl, by decide +kernel, by decide +kernel⟩
theorem sc__law_between : FnScope ["_law_plain_here", "_law_other", "_law_one", "_law_two", "_law_beats_here", "_law_level", "_law_met_here", "_law_later", "_law_row", "_law_here", "_law_there", "_law_beat_here", "_law_mine", "_law_theirs"] ["_law_plain_here", "_law_other", "_law_one", "_law_two"] (defScope st__law_between) := ⟨rfl, rfl, rfl, by decide +kernel, rfl, by decide +kernel, by decide +kernel⟩
theorem sc__law_changed : FnScope ["_law_plain_here", "_law_room", "_law_beat_here", "_law_other", "_law_k", "_law_row"] ["_law_plain_here", "_law_room", "_law_beat_here", "_law_other"] (defScope st__law_changed) := ⟨rfl, rfl, rfl, by decide +kernel, rfl, by decide +kernel, by decide +kernel⟩
theorem sc__law_wrong : FnScope ["_law_plain_here", "_law_found", "_law_beats_here", "_law_roads", "_law_waiting", "_law_turn", "_law_room", "_law_beat_here", "_law_other", "_law_behind", "_law_row"] ["_law_plain_here"] (defScope st__law_wrong) := ⟨rfl, rfl, rfl, by decide +kernel, rfl, by decide +kernel, by decide +kernel⟩
theorem sc__law_passed : FnScope ["_law_plain_here", "_law_some", "_law_found", "_law_row", "_law_room", "_law_beat_here"] ["_law_plain_here", "_law_some"] (defScope st__law_passed) := ⟨rfl, rfl, rfl, by decide +kernel, rfl, by decide +kernel, by decide +kernel⟩
theorem sc__law_deeds : FnScope ["_law_plain_here", "_law_row", "_law_room", "_law_found", "_law_beat_here", "_law_deed_here"] ["_law_plain_here", "_law_row"] (defScope st__law_deeds) := ⟨rfl, rfl, rfl, by decide +kernel, rfl, by decide +kernel, by decide +kernel⟩
theorem sc__law_finds : FnScope ["_law_plain_here", "_law_some", "_law_wrong_here", "_law_bad", "_law_room", "_law_beat_here", "_law_other", "_law_row"] ["_law_plain_here", "_law_some", "_law_wrong_here"] (defScope st__law_finds) := ⟨rfl, rfl, rfl, by decide +kernel, rfl, by decide +kernel, by decide +kernel⟩
theorem sc__law_beat : FnScope ["_law_state", "_law_ins", "_law_k"] ["_law_state", "_law_ins"] (defScope st__law_beat) := ⟨rfl, rfl, rfl, by decide +kernel, rfl, by decide +kernel, by decide +kernel⟩
theorem sc_is_word : FnScope ["word", "many", "signs", "sign"] ["word", "many", "signs"] (defScope st_is_word) := ⟨rfl, rfl, rfl, by decide +kernel, rfl, by decide +kernel, by decide +kernel⟩
theorem sc_is_row : FnScope ["ins", "outs", "many", "row", "one"] ["ins", "outs", "many", "row"] (defScope st_is_row) := ⟨rfl, rfl, rfl, by decide +kernel, rfl, by decide +kernel, by decide +kernel⟩
theorem sc_need_plain : FnScope ["plain", "ins", "outs", "rows", "number", "row"] ["plain"] (defScope st_need_plain) := ⟨rfl, rfl, rfl, by decide +kernel, rfl, by decide +kernel, by decide +kernel⟩
theorem sc_need_few : FnScope ["plain", "most"] ["plain", "most"] (defScope st_need_few) := ⟨rfl, rfl, rfl, by decide +kernel, rfl, by decide +kernel, by decide +kernel⟩
theorem sc_need_tests : FnScope ["plain", "tests", "number", "row", "beat"] ["plain", "tests"] (defScope st_need_tests) := ⟨rfl, rfl, rfl, by decide +kernel, rfl, by decide +kernel, by decide +kernel⟩
theorem sc_met_from : FnScope ["rows", "first", "found", "known", "at", "deed", "room"] ["rows", "first"] (defScope st_met_from) := ⟨rfl, rfl, rfl, by decide +kernel, rfl, by decide +kernel, by decide +kernel⟩
theorem sc_all_beats : FnScope ["ins", "found", "wire", "longer", "beat"] ["ins"] (defScope st_all_beats) := ⟨rfl, rfl, rfl, by decide +kernel, rfl, by decide +kernel, by decide +kernel⟩
theorem sc_road_to : FnScope ["plain", "room", "beats", "known", "level", "later", "here", "beat", "deed", "behind"] ["plain", "room"] (defScope st_road_to) := ⟨rfl, rfl, rfl, by decide +kernel, rfl, by decide +kernel, by decide +kernel⟩
theorem sc_row_between : FnScope ["ins", "one_rows", "other_rows", "one", "other", "beats", "level", "known", "later", "row", "here", "there", "number", "beat", "pair", "mine", "theirs"] ["ins", "one_rows", "other_rows", "one", "other"] (defScope st_row_between) := ⟨rfl, rfl, rfl, by decide +kernel, rfl, by decide +kernel, by decide +kernel⟩
theorem sc_changed : FnScope ["plain", "room", "number", "other", "rows", "row"] ["plain", "room", "number", "other"] (defScope st_changed) := ⟨rfl, rfl, rfl, by decide +kernel, rfl, by decide +kernel, by decide +kernel⟩
theorem sc_finding : FnScope ["plain", "wrong", "room", "number", "other"] ["plain", "wrong"] (defScope st_finding) := ⟨rfl, rfl, rfl, by decide +kernel, rfl, by decide +kernel, by decide +kernel⟩
theorem sc_all_wrong : FnScope ["plain", "found", "room", "number", "other"] ["plain"] (defScope st_all_wrong) := ⟨rfl, rfl, rfl, by decide +kernel, rfl, by decide +kernel, by decide +kernel⟩
theorem sc_number_of : FnScope ["beat", "found", "sign"] ["beat"] (defScope st_number_of) := ⟨rfl, rfl, rfl, by decide +kernel, rfl, by decide +kernel, by decide +kernel⟩
theorem sc_is_gone : FnScope ["plain", "tests", "room", "number", "row", "here", "beat"] ["plain", "tests", "room", "number"] (defScope st_is_gone) := ⟨rfl, rfl, rfl, by decide +kernel, rfl, by decide +kernel, by decide +kernel⟩
theorem sc_deeds_of : FnScope ["plain", "beats", "room", "found", "beat", "deed"] ["plain", "beats"] (defScope st_deeds_of) := ⟨rfl, rfl, rfl, by decide +kernel, rfl, by decide +kernel, by decide +kernel⟩
theorem sc_is_found : FnScope ["plain", "tests", "wrong", "bad", "room", "number", "other", "row"] ["plain", "tests", "wrong"] (defScope st_is_found) := ⟨rfl, rfl, rfl, by decide +kernel, rfl, by decide +kernel, by decide +kernel⟩
theorem sc_lean : FnScope ["plain", "tests", "every", "found", "number", "less", "wrong", "row"] ["plain", "tests"] (defScope st_lean) := ⟨rfl, rfl, rfl, by decide +kernel, rfl, by decide +kernel, by decide +kernel⟩
theorem sc__law_same : FnScope ["_law_found", "_law_due", "_law_k"] ["_law_found", "_law_due"] (defScope st__law_same) := ⟨rfl, rfl, rfl, by decide +kernel, rfl, by decide +kernel, by decide +kernel⟩
theorem sc__law_lean : FnScope ["_law_plain_here", "_law_rows", "_law_every", "_law_some", "_law_found", "_law_k", "_law_less", "_law_wrong_here"] ["_law_plain_here", "_law_rows", "_law_every"] (defScope st__law_lean) := ⟨rfl, rfl, rfl, by decide +kernel, rfl, by decide +kernel, by decide +kernel⟩
theorem sc_checks : FnScope ["plain", "found", "wrong"] ["plain"] (defScope st_checks) := ⟨rfl, rfl, rfl, by decide +kernel, rfl, by decide +kernel, by decide +kernel⟩
theorem sc_law : FnScope ["_law_script", "_law_state", "_law_turn", "_law_plain_here", "_law_pairs", "_law_due", "_law_every", "_law_rows", "_law_k", "_law_some", "_law_again", "_law_wrong_here", "_law_row", "_law_handed", "_law_found", "_law_far"] ["_law_script"] (defScope st_law) := ⟨rfl, rfl, rfl, by decide +kernel, rfl, by decide +kernel, by decide +kernel⟩
section
variable {P : Program} {w : World} {K : PySem.W.Frag} {mg : Str → Option Value} {base : Heap}
theorem sc_x_BadPlain : FnScope ["self", "number"] ["self", "number"] (defScope st_x_BadPlain) := ⟨rfl, rfl, rfl, by decide +kernel, rfl, by decide +kernel, by decide +kernel⟩
theorem x_BadPlain (T : Tx K mg w) : ExC P w (cl K w) K mg base 4 1 ["number"] := by
  obtain ⟨fd, Fu⟩ := T.f_x_BadPlain
  refine ⟨T.xo_BadPlain, T.xi_BadPlain.1, _, fd, ["self", "number"], spEx1 K (cl K w 4) "number", T.xi_BadPlain.2.1, T.xi_BadPlain.2.2, Fu.bindsN (fun _ _ _ _ _ _ us hl => match us, hl with | [_, _], _ => rfl), ?_, rfl⟩
  refine Fu.ok sc_x_BadPlain (fun vs H Q E h => ?_) (fun cdv A outer s H vs Q E hr h => ?_)
  · obtain ⟨a, y, rfl, _⟩ := h; rfl
  · obtain ⟨a, y, rfl, oex, n1, ha, k⟩ := h
    refine ⟨_, pss_cons (ps_expr (pe_beinit (by rfl) T.g_BeatError T.xb.hs1 T.xb.hrd T.xb.vV (pa_cons (pv 0) (pa_cons pe_str pa_nil)))) (pss_one (ps_ost (pv 0) (pv 1))), ?_⟩
    refine ⟨_, rfl, a, cl K w 4, [.str "it can't be"], rfl, (by show 1 ≤ 1000; decide), oex, ha, ?_⟩
    exact ⟨_, rfl, _, rfl, a, cl K w 4, rfl, oex, n1, .inl ⟨ha, fun dx hdx hne => k dx hdx hne⟩⟩
theorem sc_x_BadRows : FnScope ["self", "number"] ["self", "number"] (defScope st_x_BadRows) := ⟨rfl, rfl, rfl, by decide +kernel, rfl, by decide +kernel, by decide +kernel⟩
theorem x_BadRows (T : Tx K mg w) : ExC P w (cl K w) K mg base 15 1 ["number"] := by
  obtain ⟨fd, Fu⟩ := T.f_x_BadRows
  refine ⟨T.xo_BadRows, T.xi_BadRows.1, _, fd, ["self", "number"], spEx1 K (cl K w 15) "number", T.xi_BadRows.2.1, T.xi_BadRows.2.2, Fu.bindsN (fun _ _ _ _ _ _ us hl => match us, hl with | [_, _], _ => rfl), ?_, rfl⟩
  refine Fu.ok sc_x_BadRows (fun vs H Q E h => ?_) (fun cdv A outer s H vs Q E hr h => ?_)
  · obtain ⟨a, y, rfl, _⟩ := h; rfl
  · obtain ⟨a, y, rfl, oex, n1, ha, k⟩ := h
    refine ⟨_, pss_cons (ps_expr (pe_beinit (by rfl) T.g_BeatError T.xb.hs1 T.xb.hrd T.xb.vV (pa_cons (pv 0) (pa_cons pe_str pa_nil)))) (pss_one (ps_ost (pv 0) (pv 1))), ?_⟩
    refine ⟨_, rfl, a, cl K w 15, [.str "it can't be"], rfl, (by show 1 ≤ 1000; decide), oex, ha, ?_⟩
    exact ⟨_, rfl, _, rfl, a, cl K w 15, rfl, oex, n1, .inl ⟨ha, fun dx hdx hne => k dx hdx hne⟩⟩
noncomputable def br__law_start : Sl → Sto → Res Fl :=
  (sSeq (sAsg (dC (.int 1)) (gVar 1))
  (sSeq (sFor (iVal (dVar 0)) (gVar 2) (sAsg (d2 modD (d2 addD (d2 addD (d2 mulD (dVar 1) (dC (.int 48271))) (dVar 2)) (dC (.int 7))) (dC (.int 2147483647))) (gVar 1)))
  (sRet (dLst (dCons (dVar 0) (dCons (dC (.int 0)) (dCons (dVar 1) (dCons (dC (.int 0)) dNil))))))))
noncomputable def Fr__law_start : List D → Sto → Res D := cutF (dFn 3 br__law_start)
theorem dr__law_start (T : Tx K mg w) : FnD P w (cl K w) K mg base 1 (He.ga K "_law_start") 1 Fr__law_start := by
  obtain ⟨fd, Fu⟩ := T.f__law_start
  exact (fnD_of Fu sc__law_start (fun _ _ _ _ _ _ us hl => match us, hl with | [_], _ => rfl) (fun cdv A outer s H E co =>
      (z8 (zg (i := 1) co.nd rfl (Or.inl rfl) z9)
      (z8 (zo co.po co.calm (di_val (z3 0)) (ze (i := 2) co.nd rfl (Or.inl rfl)) (za (zg (i := 1) co.nd rfl (Or.inl rfl) (zl op_modD (zl op_addD (zl op_addD (zl op_mulD (z3 1) z9) (z3 2)) z9) z9))))
      (za (zi (de_lst (z4 (z3 0) (z4 z9 (z4 (z3 1) (z4 z9 z7))))))))))).cut
noncomputable def b__law_drawn : Sl → Sto → Res Fl :=
  (sSeq (sIf (d2T gtD (d2 ixD (dVar 0) (dC (.int 3))) (dC (.int 0))) (sSeq (sAsg (d2 modD (d2 ixD (dVar 0) (dC (.int 3))) (dVar 1)) (gVar 2))
  (sSeq (sAsg (d2 fdivD (d2 ixD (dVar 0) (dC (.int 3))) (dVar 1)) (gSubD setD (dVar 0) (dC (.int 3))))
  (sRet (dVar 2)))) sNext)
  (sSeq (sAsg (d2 addD (d2 ixD (dVar 0) (dC (.int 1))) (dC (.int 1))) (gSubD setD (dVar 0) (dC (.int 1))))
  (sSeq (sIf (d2T leD (d2 ixD (dVar 0) (dC (.int 1))) (dCall lenD (dCons (d2 ixD (dVar 0) (dC (.int 0))) dNil))) (sSeq (sAsg (d2 ixD (d2 ixD (dVar 0) (dC (.int 0))) (d2 subD (d2 ixD (dVar 0) (dC (.int 1))) (dC (.int 1)))) (gVar 3))
  (sSeq (sAsg (dIf (d2T geD (dVar 3) (d2 powD (dC (.int 10)) (dC (.int 18)))) (d2 fdivD (dVar 3) (dVar 1)) (dC (.int 0))) (gSubD setD (dVar 0) (dC (.int 3))))
  (sRet (d2 modD (dVar 3) (dVar 1))))) sNext)
  (sSeq (sAsg (d2 modD (d2 addD (d2 mulD (d2 ixD (dVar 0) (dC (.int 2))) (dC (.int 48271))) (dC (.int 11))) (dC (.int 2147483647))) (gSubD setD (dVar 0) (dC (.int 2))))
  (sRet (d2 modD (d2 fdivD (d2 ixD (dVar 0) (dC (.int 2))) (dC (.int 7))) (dVar 1)))))))
noncomputable def F__law_drawn : List D → Sto → Res D := cutF (dFn 4 b__law_drawn)
theorem d__law_drawn (T : Tx K mg w) : FnD P w (cl K w) K mg base 1 (He.ga K "_law_drawn") 2 F__law_drawn := by
  obtain ⟨fd, Fu⟩ := T.f__law_drawn
  exact (fnD_of Fu sc__law_drawn (fun _ _ _ _ _ _ us hl => match us, hl with | [_, _], _ => rfl) (fun cdv A outer s H E co =>
      (z8 (ds_if (zp op_gtD (zf (z3 0) z9) z9 (nomark _)) (z8 (zg (i := 2) co.nd rfl (Or.inl rfl) (zl op_modD (zf (z3 0) z9) (z3 1)))
      (z8 (ds_asg (zl op_fdivD (zf (z3 0) z9) (z3 1)) (dg_sub (z3 0) z9 set_lstD))
      (za (zi (z3 2))))) dss_nil)
      (z8 (ds_asg (zl op_addD (zf (z3 0) z9) z9) (dg_sub (z3 0) z9 set_lstD))
      (z8 (ds_if (zp op_leD (zf (z3 0) z9) (de_callB cd_len (by rfl) T.z_len (by decide +kernel) (z4 (zf (z3 0) z9) z7)) (nomark _)) (z8 (zg (i := 3) co.nd rfl (Or.inl rfl) (zf (zf (z3 0) z9) (zl op_subD (zf (z3 0) z9) z9)))
      (z8 (ds_asg (de_if (zp op_geD (z3 3) (zl op_powD z9 z9) (nomark _)) (zl op_fdivD (z3 3) (z3 1)) z9) (dg_sub (z3 0) z9 set_lstD))
      (za (zi (zl op_modD (z3 3) (z3 1)))))) dss_nil)
      (z8 (ds_asg (zl op_modD (zl op_addD (zl op_mulD (zf (z3 0) z9) z9) z9) z9) (dg_sub (z3 0) z9 set_lstD))
      (za (zi (zl op_modD (zl op_fdivD (zf (z3 0) z9) z9) (z3 1)))))))))).cut
noncomputable def b__law_deed : Sl → Sto → Res Fl :=
  (sRet (dBm "str" joinD (dC (.str "")) (dCons (dFrz (dComp [2] (iRngD1 (dVar 1)) (gVar 2) tYesD (d2 ixD (dC (.str "01")) (dCallF 2 F__law_drawn (dCons (dVar 0) (dCons (dC (.int 2)) dNil)))))) dNil)))
noncomputable def F__law_deed : List D → Sto → Res D := cutF (dFn 3 b__law_deed)
theorem d__law_deed (T : Tx K mg w) : FnD P w (cl K w) K mg base 2 (He.ga K "_law_deed") 2 F__law_deed := by
  obtain ⟨fd, Fu⟩ := T.f__law_deed
  exact (fnD_of Fu sc__law_deed (fun _ _ _ _ _ _ us hl => match us, hl with | [_, _], _ => rfl) (fun cdv A outer s H E co =>
      (za (zi (de_bm PySem.F.plainAttrs_str PySem.F.slot_str_join PySem.F.type_str_join md_join de_str (z4 (de_frz (de_comp (own := [("_law_k", 2)]) co.calm co.nd (di_range1 (by rfl) T.z_range (z3 1)) (blkOk_by (by kernel_rfl)) (fun _ _ _ _ _ => (dgw_name (i := 2) (by decide) (co.blk _ _ _ _ _).nd rfl (Or.inl rfl))) (fun _ _ _ _ _ => dts_nil) (fun _ _ _ _ _ => (zf de_str (zc (d__law_drawn T) ((co.blk _ _ _ _ _).hr.mono (by first | decide | omega)) (co.blk _ _ _ _ _).px (by rfl) T.g__law_drawn (z4 (z3 0) (z4 z9 z7))))))) z7)))))).cut
noncomputable def b__law_plain : Sl → Sto → Res Fl :=
  (sSeq (sAsg (d2 addD (dC (.int 1)) (dCallF 2 F__law_drawn (dCons (dVar 0) (dCons (dVar 2) dNil)))) (gVar 3))
  (sSeq (sAsg (d2 addD (dC (.int 1)) (dCallF 2 F__law_drawn (dCons (dVar 0) (dCons (dC (.int 3)) dNil)))) (gVar 4))
  (sSeq (sAsg (d2 addD (dC (.int 1)) (dCallF 2 F__law_drawn (dCons (dVar 0) (dCons (dVar 1) dNil)))) (gVar 5))
  (sSeq (sAsg (dFrz (dComp [11] (iRngD1 (d2 addD (dC (.int 1)) (dCallF 2 F__law_drawn (dCons (dVar 0) (dCons (dC (.int 3)) dNil))))) (gVar 11) tYesD (dCallF 2 F__law_deed (dCons (dVar 0) (dCons (dVar 4) dNil))))) (gVar 6))
  (sSeq (sAsg (dCallF 2 F__law_drawn (dCons (dVar 0) (dCons (dC (.int 3)) dNil))) (gVar 7))
  (sSeq (sAsg (dLst dNil) (gVar 8))
  (sSeq (sFor (iRngD1 (dVar 5)) (gVar 9) (sSeq (sAsg (dLst dNil) (gVar 10))
  (sSeq (sFor (iRngD1 (d2 ixD (dLstF (dCons (dC (.int 1)) (dCons (dC (.int 2)) (dCons (dC (.int 4)) (dCons (dC (.int 8)) (dCons (dC (.int 16)) dNil)))))) (dVar 3))) (gVar 11) (sSeq (sAsg (dLstF (dCons (dCallF 2 F__law_drawn (dCons (dVar 0) (dCons (dVar 5) dNil))) (dCons (d2 modD (d2 addD (dVar 9) (dCallF 2 F__law_drawn (dCons (dVar 0) (dCons (dC (.int 3)) dNil)))) (dVar 5)) (dCons (dVar 9) dNil)))) (gVar 12))
  (sSeq (sAsg (d2 ixD (dVar 12) (dCall min2D (dCons (dVar 7) (dCons (dCallF 2 F__law_drawn (dCons (dVar 0) (dCons (dC (.int 3)) dNil))) dNil)))) (gVar 13))
  (sExpr (dBm "list" appendD (dVar 10) (dCons (dTup (dCons (d2 ixD (dVar 6) (dCallF 2 F__law_drawn (dCons (dVar 0) (dCons (dCall lenD (dCons (dVar 6) dNil)) dNil)))) (dCons (dVar 13) dNil))) dNil))))))
  (sExpr (dBm "list" appendD (dVar 8) (dCons (dCall tupleD (dCons (dVar 10) dNil)) dNil))))))
  (sRet (dTup (dCons (dVar 3) (dCons (dVar 4) (dCons (dCall tupleD (dCons (dVar 8) dNil)) dNil))))))))))))
noncomputable def F__law_plain : List D → Sto → Res D := cutF (dFn 14 b__law_plain)
theorem d__law_plain (T : Tx K mg w) : FnD P w (cl K w) K mg base 3 (He.ga K "_law_plain") 3 F__law_plain := by
  obtain ⟨fd, Fu⟩ := T.f__law_plain
  exact (fnD_of Fu sc__law_plain (fun _ _ _ _ _ _ us hl => match us, hl with | [_, _, _], _ => rfl) (fun cdv A outer s H E co =>
      (z8 (zg (i := 3) co.nd rfl (Or.inl rfl) (zl op_addD z9 (zc (d__law_drawn T) (co.hr.mono (by first | decide | omega)) co.px (by rfl) T.g__law_drawn (z4 (z3 0) (z4 (z3 2) z7)))))
      (z8 (zg (i := 4) co.nd rfl (Or.inr rfl) (zl op_addD z9 (zc (d__law_drawn T) (co.hr.mono (by first | decide | omega)) co.px (by rfl) T.g__law_drawn (z4 (z3 0) (z4 z9 z7)))))
      (z8 (zg (i := 5) co.nd rfl (Or.inl rfl) (zl op_addD z9 (zc (d__law_drawn T) (co.hr.mono (by first | decide | omega)) co.px (by rfl) T.g__law_drawn (z4 (z3 0) (z4 (z3 1) z7)))))
      (z8 (ds_compF (i := 6) (own := [("_law_k", 11)]) co.calm co.nd rfl rfl (sw_true rfl rfl rfl (by decide +kernel)) (di_range1 (by rfl) T.z_range (zl op_addD z9 (zc (d__law_drawn T) (co.hr.mono (by first | decide | omega)) co.px (by rfl) T.g__law_drawn (z4 (z3 0) (z4 z9 z7))))) (blkOk_by (by kernel_rfl)) (fun _ _ _ _ _ => (dgw_name (i := 11) (by decide) (co.blk _ _ _ _ _).nd rfl (Or.inl rfl))) (fun _ _ _ _ _ => dts_nil) (fun _ _ _ _ _ => (zc (d__law_deed T) ((co.blk _ _ _ _ _).hr.mono (by first | decide | omega)) (co.blk _ _ _ _ _).px (by rfl) T.g__law_deed (z4 (z3 0) (z4 (z3 4) z7)))))
      (z8 (zg (i := 7) co.nd rfl (Or.inl rfl) (zc (d__law_drawn T) (co.hr.mono (by first | decide | omega)) co.px (by rfl) T.g__law_drawn (z4 (z3 0) (z4 z9 z7))))
      (z8 (zg (i := 8) co.nd rfl (Or.inl rfl) (de_lst z7))
      (z8 (zo co.po co.calm (di_range1 (by rfl) T.z_range (z3 5)) (ze (i := 9) co.nd rfl (Or.inl rfl)) (z8 (zg (i := 10) co.nd rfl (Or.inl rfl) (de_lst z7))
      (z8 (zo co.po co.calm (di_range1 (by rfl) T.z_range (zf (zj (z4 z9 (z4 z9 (z4 z9 (z4 z9 (z4 z9 z7)))))) (z3 3))) (ze (i := 11) co.nd rfl (Or.inl rfl)) (z8 (zg (i := 12) co.nd rfl (Or.inl rfl) (zj (z4 (zc (d__law_drawn T) (co.hr.mono (by first | decide | omega)) co.px (by rfl) T.g__law_drawn (z4 (z3 0) (z4 (z3 5) z7))) (z4 (zl op_modD (zl op_addD (z3 9) (zc (d__law_drawn T) (co.hr.mono (by first | decide | omega)) co.px (by rfl) T.g__law_drawn (z4 (z3 0) (z4 z9 z7)))) (z3 5)) (z4 (z3 9) z7)))))
      (z8 (zg (i := 13) co.nd rfl (Or.inl rfl) (zf (z3 12) (de_callB (cd_min2 co.calm) (by rfl) T.z_min (by decide +kernel) (z4 (z3 7) (z4 (zc (d__law_drawn T) (co.hr.mono (by first | decide | omega)) co.px (by rfl) T.g__law_drawn (z4 (z3 0) (z4 z9 z7))) z7)))))
      (za (ds_expr (de_bm PySem.F.plainAttrs_list PySem.F.slot_list_append PySem.F.type_list_append md_append (z3 10) (z4 (de_tup (z4 (zf (z3 6) (zc (d__law_drawn T) (co.hr.mono (by first | decide | omega)) co.px (by rfl) T.g__law_drawn (z4 (z3 0) (z4 (de_callB cd_len (by rfl) T.z_len (by decide +kernel) (z4 (z3 6) z7)) z7)))) (z4 (z3 13) z7))) z7)))))))
      (za (ds_expr (de_bm PySem.F.plainAttrs_list PySem.F.slot_list_append PySem.F.type_list_append md_append (z3 8) (z4 (de_callTy cd_tuple (by rfl) T.z_tuple (by decide +kernel) (z4 (z3 10) z7)) z7)))))))
      (za (zi (de_tup (z4 (z3 3) (z4 (z3 4) (z4 (de_callTy cd_tuple (by rfl) T.z_tuple (by decide +kernel) (z4 (z3 8) z7)) z7))))))))))))))).cut
noncomputable def b__law_beats (Frec : List D → Sto → Res D) : Sl → Sto → Res Fl :=
  (sSeq (sIf (d2T eqD (dVar 0) (dC (.int 0))) (sRet (dLstF (dCons (dC (.str "")) dNil))) sNext)
  (sSeq (sAsg (dCallF 1 Frec (dCons (d2 subD (dVar 0) (dC (.int 1))) dNil)) (gVar 1))
  (sRet (d2 addF (dFrz (dComp [2] (iVal (dVar 1)) (gVar 2) tYesD (d2 addD (dC (.str "0")) (dVar 2)))) (dFrz (dComp [2] (iVal (dVar 1)) (gVar 2) tYesD (d2 addD (dC (.str "1")) (dVar 2))))))))
noncomputable def F__law_beats : Nat → List D → Sto → Res D
  | 0 => fun _ _ => .stuck
  | n + 1 => cutF (dFn 3 (b__law_beats (F__law_beats n)))
theorem d__law_beats (T : Tx K mg w) : ∀ n : Nat, FnD P w (cl K w) K mg base (1 + n) (He.ga K "_law_beats") 1 (F__law_beats n)
  | 0 => by
    obtain ⟨fd, Fu⟩ := T.f__law_beats
    exact fnD_stuck Fu (ps := ["_law_ins"]) (fun _ _ _ _ _ _ us hl => match us, hl with | [_], _ => rfl)
  | n + 1 => by
    have hrec := d__law_beats T n
    obtain ⟨fd, Fu⟩ := T.f__law_beats
    exact (fnD_of (k := 1 + n) Fu sc__law_beats (fun _ _ _ _ _ _ us hl => match us, hl with | [_], _ => rfl) (fun cdv A outer s H E co =>
      (z8 (ds_if (zp (op_eqDD co.hu) (z3 0) z9 (nomark _)) (za (zi (zj (z4 de_str z7)))) dss_nil)
      (z8 (zg (i := 1) co.nd rfl (Or.inl rfl) (zc hrec (co.hr.mono (by omega)) co.px (by rfl) T.g__law_beats (z4 (zl op_subD (z3 0) z9) z7)))
      (za (zi (zl op_addF (de_frz (de_comp (own := [("_law_beat_here", 2)]) co.calm co.nd (di_val (z3 1)) (blkOk_by (by kernel_rfl)) (fun _ _ _ _ _ => (dgw_name (i := 2) (by decide) (co.blk _ _ _ _ _).nd rfl (Or.inl rfl))) (fun _ _ _ _ _ => dts_nil) (fun _ _ _ _ _ => (zl op_addD de_str (z3 2))))) (de_frz (de_comp (own := [("_law_beat_here", 2)]) co.calm co.nd (di_val (z3 1)) (blkOk_by (by kernel_rfl)) (fun _ _ _ _ _ => (dgw_name (i := 2) (by decide) (co.blk _ _ _ _ _).nd rfl (Or.inl rfl))) (fun _ _ _ _ _ => dts_nil) (fun _ _ _ _ _ => (zl op_addD de_str (z3 2)))))))))))).cut
noncomputable def b__law_at : Sl → Sto → Res Fl :=
  (sRet (d2 ixD (d2 ixD (d2 ixD (dVar 0) (dC (.int 2))) (dVar 1)) (dBm "list" indexD (dCallF 1 (F__law_beats 40) (dCons (d2 ixD (dVar 0) (dC (.int 0))) dNil)) (dCons (dVar 2) dNil))))
noncomputable def F__law_at : List D → Sto → Res D := cutF (dFn 3 b__law_at)
theorem d__law_at (T : Tx K mg w) : FnD P w (cl K w) K mg base 42 (He.ga K "_law_at") 3 F__law_at := by
  obtain ⟨fd, Fu⟩ := T.f__law_at
  exact (fnD_of Fu sc__law_at (fun _ _ _ _ _ _ us hl => match us, hl with | [_, _, _], _ => rfl) (fun cdv A outer s H E co =>
      (za (zi (zf (zf (zf (z3 0) z9) (z3 1)) (de_bm PySem.F.plainAttrs_list PySem.F.slot_list_index PySem.F.type_list_index (md_index co.hu5) (zc (d__law_beats T 40) (co.hr.mono (by first | decide | omega)) co.px (by rfl) T.g__law_beats (z4 (zf (z3 0) z9) z7)) (z4 (z3 2) z7))))))).cut
noncomputable def b__law_between : Sl → Sto → Res Fl :=
  (sSeq (sAsg (dCallF 1 (F__law_beats 40) (dCons (d2 ixD (dVar 0) (dC (.int 0))) dNil)) (gVar 4))
  (sSeq (sAsg (dLstF (dCons (dTup (dCons (dLstF dNil) (dCons (dVar 2) (dCons (dVar 3) dNil)))) dNil)) (gVar 5))
  (sSeq (sAsg (dDispN (dTup (dCons (dVar 2) (dCons (dVar 3) dNil))) (dC (.bl true))) (gVar 6))
  (sSeq (whileD (d2T neD (dVar 5) (dLstF dNil)) (sSeq (sAsg (dLst dNil) (gVar 7))
  (sSeq (sFor (iVal (dVar 5)) (gTupD 3 (gsCons (gVar 8) (gsCons (gVar 9) (gsCons (gVar 10) gsNil)))) (sFor (iVal (dVar 4)) (gVar 11) (sSeq (sPar 12 13 (dCons (dCallF 3 F__law_at (dCons (dVar 0) (dCons (dVar 9) (dCons (dVar 11) dNil)))) (dCons (dCallF 3 F__law_at (dCons (dVar 1) (dCons (dVar 10) (dCons (dVar 11) dNil)))) dNil)))
  (sSeq (sIf (d2T neD (d2 ixD (dVar 12) (dC (.int 0))) (d2 ixD (dVar 13) (dC (.int 0)))) (sRet (d2 addF (dVar 8) (dLstF (dCons (dVar 11) dNil)))) sNext)
  (sIf (d2T notInDicN (dTup (dCons (d2 ixD (dVar 12) (dC (.int 1))) (dCons (d2 ixD (dVar 13) (dC (.int 1))) dNil))) (dVar 6)) (sSeq (sAsg (dC (.bl true)) (gSubD setDicN (dVar 6) (dTup (dCons (d2 ixD (dVar 12) (dC (.int 1))) (dCons (d2 ixD (dVar 13) (dC (.int 1))) dNil)))))
  (sExpr (dBm "list" appendD (dVar 7) (dCons (dTup (dCons (d2 addF (dVar 8) (dLstF (dCons (dVar 11) dNil))) (dCons (d2 ixD (dVar 12) (dC (.int 1))) (dCons (d2 ixD (dVar 13) (dC (.int 1))) dNil)))) dNil)))) sNext)))))
  (sAsg (dFrz (dVar 7)) (gVar 5)))) fuelW)
  (sRet (dC .non))))))
noncomputable def F__law_between : List D → Sto → Res D := cutF (dFn 14 b__law_between)
theorem d__law_between (T : Tx K mg w) : FnD P w (cl K w) K mg base 43 (He.ga K "_law_between") 4 F__law_between := by
  obtain ⟨fd, Fu⟩ := T.f__law_between
  exact (fnD_of Fu sc__law_between (fun _ _ _ _ _ _ us hl => match us, hl with | [_, _, _, _], _ => rfl) (fun cdv A outer s H E co =>
      (z8 (zg (i := 4) co.nd rfl (Or.inl rfl) (zc (d__law_beats T 40) (co.hr.mono (by first | decide | omega)) co.px (by rfl) T.g__law_beats (z4 (zf (z3 0) z9) z7)))
      (z8 (zg (i := 5) co.nd rfl (Or.inl rfl) (zj (z4 (de_tup (z4 (zj z7) (z4 (z3 2) (z4 (z3 3) z7)))) z7)))
      (z8 (zg (i := 6) co.nd rfl (Or.inl rfl) (de_dispN co.hu5 rfl (de_tup (z4 (z3 2) (z4 (z3 3) z7))) de_bl))
      (z8 (ds_while fuelW co.po (zp (op_neDD co.hu) (z3 5) (zj z7) (nomark _)) (z8 (zg (i := 7) co.nd rfl (Or.inl rfl) (de_lst z7))
      (z8 (zo co.po co.calm (di_val (z3 5)) (dg_tup co.calm (zh (ze (i := 8) co.nd rfl (Or.inl rfl)) (zh (ze (i := 9) co.nd rfl (Or.inl rfl)) (zh (ze (i := 10) co.nd rfl (Or.inl rfl)) dgs_nil)))) (za (zo co.po co.calm (di_val (z3 4)) (ze (i := 11) co.nd rfl (Or.inl rfl)) (z8 (ds_par (i := 12) (j := 13) co.calm co.nd rfl rfl (by decide) rfl rfl (z4 (zc (d__law_at T) (co.hr.mono (by first | decide | omega)) co.px (by rfl) T.g__law_at (z4 (z3 0) (z4 (z3 9) (z4 (z3 11) z7)))) (z4 (zc (d__law_at T) (co.hr.mono (by first | decide | omega)) co.px (by rfl) T.g__law_at (z4 (z3 1) (z4 (z3 10) (z4 (z3 11) z7)))) z7)))
      (z8 (ds_if (zp (op_neDD co.hu) (zf (z3 12) z9) (zf (z3 13) z9) (nomark _)) (za (zi (zl op_addF (z3 8) (zj (z4 (z3 11) z7))))) dss_nil)
      (za (ds_if (zp (op_notInDicN co.hu5 rfl) (de_tup (z4 (zf (z3 12) z9) (z4 (zf (z3 13) z9) z7))) (z3 6)) (z8 (ds_asg de_bl (dg_sub (z3 6) (de_tup (z4 (zf (z3 12) z9) (z4 (zf (z3 13) z9) z7))) (set_dicN co.hu5 rfl)))
      (za (ds_expr (de_bm PySem.F.plainAttrs_list PySem.F.slot_list_append PySem.F.type_list_append md_append (z3 7) (z4 (de_tup (z4 (zl op_addF (z3 8) (zj (z4 (z3 11) z7))) (z4 (zf (z3 12) z9) (z4 (zf (z3 13) z9) z7)))) z7))))) dss_nil)))))))
      (za (zg (i := 5) co.nd rfl (Or.inl rfl) (de_frz (z3 7)))))))
      (za (zi de_non)))))))).cut
noncomputable def b__law_changed : Sl → Sto → Res Fl :=
  (sSeq (sAsg (dBm "list" indexD (dCallF 1 (F__law_beats 40) (dCons (d2 ixD (dVar 0) (dC (.int 0))) dNil)) (dCons (dVar 2) dNil)) (gVar 4))
  (sSeq (sAsg (d2 ixD (d2 ixD (dVar 0) (dC (.int 2))) (dVar 1)) (gVar 5))
  (sSeq (sAsg (d2 addD (d2 addD (dSliceF (dVar 5) oNone (oSome (dVar 4))) (dTup (dCons (dTup (dCons (d2 ixD (d2 ixD (dVar 5) (dVar 4)) (dC (.int 0))) (dCons (dVar 3) dNil))) dNil))) (dSliceF (dVar 5) (oSome (d2 addD (dVar 4) (dC (.int 1)))) oNone)) (gVar 5))
  (sRet (d2 addD (dSlice (dVar 0) oNone (oSome (dC (.int 2)))) (dTup (dCons (d2 addD (d2 addD (dSliceF (d2 ixD (dVar 0) (dC (.int 2))) oNone (oSome (dVar 1))) (dTup (dCons (dVar 5) dNil))) (dSliceF (d2 ixD (dVar 0) (dC (.int 2))) (oSome (d2 addD (dVar 1) (dC (.int 1)))) oNone)) dNil)))))))
noncomputable def F__law_changed : List D → Sto → Res D := cutF (dFn 6 b__law_changed)
theorem d__law_changed (T : Tx K mg w) : FnD P w (cl K w) K mg base 42 (He.ga K "_law_changed") 4 F__law_changed := by
  obtain ⟨fd, Fu⟩ := T.f__law_changed
  exact (fnD_of Fu sc__law_changed (fun _ _ _ _ _ _ us hl => match us, hl with | [_, _, _, _], _ => rfl) (fun cdv A outer s H E co =>
      (z8 (zg (i := 4) co.nd rfl (Or.inl rfl) (de_bm PySem.F.plainAttrs_list PySem.F.slot_list_index PySem.F.type_list_index (md_index co.hu5) (zc (d__law_beats T 40) (co.hr.mono (by first | decide | omega)) co.px (by rfl) T.g__law_beats (z4 (zf (z3 0) z9) z7)) (z4 (z3 2) z7)))
      (z8 (zg (i := 5) co.nd rfl (Or.inl rfl) (zf (zf (z3 0) z9) (z3 1)))
      (z8 (zg (i := 5) co.nd rfl (Or.inl rfl) (zl op_addD (zl op_addD (de_sliceF (z3 5) dpo_none (dpo_some (z3 4))) (de_tup (z4 (de_tup (z4 (zf (zf (z3 5) (z3 4)) z9) (z4 (z3 3) z7))) z7))) (de_sliceF (z3 5) (dpo_some (zl op_addD (z3 4) z9)) dpo_none)))
      (za (zi (zl op_addD (de_slice (z3 0) dpo_none (dpo_some z9)) (de_tup (z4 (zl op_addD (zl op_addD (de_sliceF (zf (z3 0) z9) dpo_none (dpo_some (z3 1))) (de_tup (z4 (z3 5) z7))) (de_sliceF (zf (z3 0) z9) (dpo_some (zl op_addD (z3 1) z9)) dpo_none)) z7)))))))))).cut
noncomputable def b__law_wrong : Sl → Sto → Res Fl :=
  (sSeq (sAsg (dLst dNil) (gVar 1))
  (sSeq (sAsg (dCallF 1 (F__law_beats 40) (dCons (d2 ixD (dVar 0) (dC (.int 0))) dNil)) (gVar 2))
  (sSeq (sAsg (dDisp (pCons (dC (.int 0)) (dLstF dNil) pNil)) (gVar 3))
  (sSeq (sAsg (dLst (dCons (dC (.int 0)) dNil)) (gVar 4))
  (sSeq (sFor (iRngD1 (dCall lenD (dCons (d2 ixD (dVar 0) (dC (.int 2))) dNil))) (gVar 5) (sFor (iVal (dSliceF (dVar 4) (oSome (dVar 5)) (oSome (d2 addD (dVar 5) (dC (.int 1)))))) (gVar 6) (sFor (iVal (dVar 2)) (gVar 7) (sSeq (sAsg (d2 ixD (dCallF 3 F__law_at (dCons (dVar 0) (dCons (dVar 6) (dCons (dVar 7) dNil)))) (dC (.int 1))) (gVar 9))
  (sIf (d2T notInDic (dVar 9) (dVar 3)) (sSeq (sAsg (d2 addF (d2 ixDic (dVar 3) (dVar 6)) (dLstF (dCons (dVar 7) dNil))) (gSubD setDic (dVar 3) (dVar 9)))
  (sExpr (dBm "list" appendD (dVar 4) (dCons (dVar 9) dNil)))) sNext)))))
  (sSeq (sFor (iVal (dCall sortKF (dCons (dVar 3) dNil))) (gVar 6) (sFor (iVal (dVar 2)) (gVar 7) (sSeq (sExpr (dBm "list" appendD (dVar 1) (dCons (dTup (dCons (dTup (dCons (dVar 6) (dCons (dVar 7) (dCons (dC .non) dNil)))) (dCons (d2 addF (d2 ixDic (dVar 3) (dVar 6)) (dLstF (dCons (dVar 7) dNil))) dNil))) dNil)))
  (sFor (iRngD1 (dCall lenD (dCons (d2 ixD (dVar 0) (dC (.int 2))) dNil))) (gVar 8) (sIf (d2T neD (dVar 8) (d2 ixD (dCallF 3 F__law_at (dCons (dVar 0) (dCons (dVar 6) (dCons (dVar 7) dNil)))) (dC (.int 1)))) (sSeq (sAsg (dCallF 4 F__law_between (dCons (dVar 0) (dCons (dCallF 4 F__law_changed (dCons (dVar 0) (dCons (dVar 6) (dCons (dVar 7) (dCons (dVar 8) dNil))))) (dCons (dC (.int 0)) (dCons (dC (.int 0)) dNil))))) (gVar 10))
  (sIf (d2T isNotD (dVar 10) (dC .non)) (sExpr (dBm "list" appendD (dVar 1) (dCons (dTup (dCons (dTup (dCons (dVar 6) (dCons (dVar 7) (dCons (dVar 8) dNil)))) (dCons (dVar 10) dNil))) dNil))) sNext)) sNext)))))
  (sRet (dFrz (dVar 1)))))))))
noncomputable def F__law_wrong : List D → Sto → Res D := cutF (dFn 11 b__law_wrong)
theorem d__law_wrong (T : Tx K mg w) : FnD P w (cl K w) K mg base 44 (He.ga K "_law_wrong") 1 F__law_wrong := by
  obtain ⟨fd, Fu⟩ := T.f__law_wrong
  exact (fnD_of Fu sc__law_wrong (fun _ _ _ _ _ _ us hl => match us, hl with | [_], _ => rfl) (fun cdv A outer s H E co =>
      (z8 (zg (i := 1) co.nd rfl (Or.inl rfl) (de_lst z7))
      (z8 (zg (i := 2) co.nd rfl (Or.inl rfl) (zc (d__law_beats T 40) (co.hr.mono (by first | decide | omega)) co.px (by rfl) T.g__law_beats (z4 (zf (z3 0) z9) z7)))
      (z8 (zg (i := 3) co.nd rfl (Or.inl rfl) (de_disp (dp_cons z9 (zj z7) dp_nil)))
      (z8 (zg (i := 4) co.nd rfl (Or.inl rfl) (de_lst (z4 z9 z7)))
      (z8 (zo co.po co.calm (di_range1 (by rfl) T.z_range (de_callB cd_len (by rfl) T.z_len (by decide +kernel) (z4 (zf (z3 0) z9) z7))) (ze (i := 5) co.nd rfl (Or.inl rfl)) (za (zo co.po co.calm (di_val (de_sliceF (z3 4) (dpo_some (z3 5)) (dpo_some (zl op_addD (z3 5) z9)))) (ze (i := 6) co.nd rfl (Or.inl rfl)) (za (zo co.po co.calm (di_val (z3 2)) (ze (i := 7) co.nd rfl (Or.inl rfl)) (z8 (zg (i := 9) co.nd rfl (Or.inl rfl) (zf (zc (d__law_at T) (co.hr.mono (by first | decide | omega)) co.px (by rfl) T.g__law_at (z4 (z3 0) (z4 (z3 6) (z4 (z3 7) z7)))) z9))
      (za (ds_if (zp (op_notInDic co.hu5) (z3 9) (z3 3)) (z8 (ds_asg (zl op_addF (de_ixDic co.hu1 (z3 3) (z3 6)) (zj (z4 (z3 7) z7))) (dg_sub (z3 3) (z3 9) (set_dicD co.hu5)))
      (za (ds_expr (de_bm PySem.F.plainAttrs_list PySem.F.slot_list_append PySem.F.type_list_append md_append (z3 4) (z4 (z3 9) z7))))) dss_nil))))))))
      (z8 (zo co.po co.calm (di_val (de_callB (cd_sortKF co.hu70 co.calm) (by rfl) T.z_sorted (by decide +kernel) (z4 (z3 3) z7))) (ze (i := 6) co.nd rfl (Or.inl rfl)) (za (zo co.po co.calm (di_val (z3 2)) (ze (i := 7) co.nd rfl (Or.inl rfl)) (z8 (ds_expr (de_bm PySem.F.plainAttrs_list PySem.F.slot_list_append PySem.F.type_list_append md_append (z3 1) (z4 (de_tup (z4 (de_tup (z4 (z3 6) (z4 (z3 7) (z4 de_non z7)))) (z4 (zl op_addF (de_ixDic co.hu1 (z3 3) (z3 6)) (zj (z4 (z3 7) z7))) z7))) z7)))
      (za (zo co.po co.calm (di_range1 (by rfl) T.z_range (de_callB cd_len (by rfl) T.z_len (by decide +kernel) (z4 (zf (z3 0) z9) z7))) (ze (i := 8) co.nd rfl (Or.inl rfl)) (za (ds_if (zp (op_neDD co.hu) (z3 8) (zf (zc (d__law_at T) (co.hr.mono (by first | decide | omega)) co.px (by rfl) T.g__law_at (z4 (z3 0) (z4 (z3 6) (z4 (z3 7) z7)))) z9) (nomark _)) (z8 (zg (i := 10) co.nd rfl (Or.inl rfl) (zc (d__law_between T) (co.hr.mono (by first | decide | omega)) co.px (by rfl) T.g__law_between (z4 (z3 0) (z4 (zc (d__law_changed T) (co.hr.mono (by first | decide | omega)) co.px (by rfl) T.g__law_changed (z4 (z3 0) (z4 (z3 6) (z4 (z3 7) (z4 (z3 8) z7))))) (z4 z9 (z4 z9 z7))))))
      (za (ds_if (zp op_isNotD (z3 10) de_non (nomark _)) (za (ds_expr (de_bm PySem.F.plainAttrs_list PySem.F.slot_list_append PySem.F.type_list_append md_append (z3 1) (z4 (de_tup (z4 (de_tup (z4 (z3 6) (z4 (z3 7) (z4 (z3 8) z7)))) (z4 (z3 10) z7))) z7)))) dss_nil))) dss_nil))))))))
      (za (zi (de_frz (z3 1)))))))))))).cut
noncomputable def br__law_passed : Sl → Sto → Res Fl :=
  (sSeq (sAsg dDispN0 (gVar 2))
  (sSeq (sFor (iVal (dVar 1)) (gVar 3) (sSeq (sAsg (dC (.int 0)) (gVar 4))
  (sFor (iVal (dVar 3)) (gVar 5) (sSeq (sAsg (d2 addD (dDgetN (dVar 2) (dTup (dCons (dVar 4) (dCons (dVar 5) dNil))) (dC (.int 0))) (dC (.int 1))) (gSubD setDicN (dVar 2) (dTup (dCons (dVar 4) (dCons (dVar 5) dNil)))))
  (sAsg (d2 ixD (dCallF 3 F__law_at (dCons (dVar 0) (dCons (dVar 4) (dCons (dVar 5) dNil)))) (dC (.int 1))) (gVar 4))))))
  (sRet (dVar 2))))
noncomputable def Fr__law_passed : List D → Sto → Res D := cutF (dFn 6 br__law_passed)
theorem dr__law_passed (T : Tx K mg w) : FnD P w (cl K w) K mg base 43 (He.ga K "_law_passed") 2 Fr__law_passed := by
  obtain ⟨fd, Fu⟩ := T.f__law_passed
  exact (fnD_of Fu sc__law_passed (fun _ _ _ _ _ _ us hl => match us, hl with | [_, _], _ => rfl) (fun cdv A outer s H E co =>
      (z8 (zg (i := 2) co.nd rfl (Or.inl rfl) de_dispN0)
      (z8 (zo co.po co.calm (di_val (z3 1)) (ze (i := 3) co.nd rfl (Or.inl rfl)) (z8 (zg (i := 4) co.nd rfl (Or.inl rfl) z9)
      (za (zo co.po co.calm (di_val (z3 3)) (ze (i := 5) co.nd rfl (Or.inl rfl)) (z8 (ds_asg (zl op_addD (de_getN co.hu5 rfl (z3 2) (de_tup (z4 (z3 4) (z4 (z3 5) z7))) z9) z9) (dg_sub (z3 2) (de_tup (z4 (z3 4) (z4 (z3 5) z7))) (set_dicN co.hu5 rfl)))
      (za (zg (i := 4) co.nd rfl (Or.inl rfl) (zf (zc (d__law_at T) (co.hr.mono (by first | decide | omega)) co.px (by rfl) T.g__law_at (z4 (z3 0) (z4 (z3 4) (z4 (z3 5) z7)))) z9))))))))
      (za (zi (z3 2))))))).cut
noncomputable def b__law_deeds : Sl → Sto → Res Fl :=
  (sSeq (sAsg (dC (.int 0)) (gVar 2))
  (sSeq (sAsg (dLst dNil) (gVar 3))
  (sSeq (sFor (iVal (dVar 1)) (gVar 4) (sSeq (sAsg (dCallF 3 F__law_at (dCons (dVar 0) (dCons (dVar 2) (dCons (dVar 4) dNil)))) (gTupD 2 (gsCons (gVar 5) (gsCons (gVar 2) gsNil))))
  (sExpr (dBm "list" appendD (dVar 3) (dCons (dVar 5) dNil)))))
  (sRet (dFrz (dVar 3))))))
noncomputable def F__law_deeds : List D → Sto → Res D := cutF (dFn 6 b__law_deeds)
theorem d__law_deeds (T : Tx K mg w) : FnD P w (cl K w) K mg base 43 (He.ga K "_law_deeds") 2 F__law_deeds := by
  obtain ⟨fd, Fu⟩ := T.f__law_deeds
  exact (fnD_of Fu sc__law_deeds (fun _ _ _ _ _ _ us hl => match us, hl with | [_, _], _ => rfl) (fun cdv A outer s H E co =>
      (z8 (zg (i := 2) co.nd rfl (Or.inl rfl) z9)
      (z8 (zg (i := 3) co.nd rfl (Or.inl rfl) (de_lst z7))
      (z8 (zo co.po co.calm (di_val (z3 1)) (ze (i := 4) co.nd rfl (Or.inl rfl)) (z8 (ds_asg (zc (d__law_at T) (co.hr.mono (by first | decide | omega)) co.px (by rfl) T.g__law_at (z4 (z3 0) (z4 (z3 2) (z4 (z3 4) z7)))) (dg_tup co.calm (zh (ze (i := 5) co.nd rfl (Or.inl rfl)) (zh (ze (i := 2) co.nd rfl (Or.inl rfl)) dgs_nil))))
      (za (ds_expr (de_bm PySem.F.plainAttrs_list PySem.F.slot_list_append PySem.F.type_list_append md_append (z3 3) (z4 (z3 5) z7))))))
      (za (zi (de_frz (z3 3))))))))).cut
noncomputable def b__law_finds : Sl → Sto → Res Fl :=
  (sSeq (sAsg (dVar 2) (gTupD 3 (gsCons (gVar 4) (gsCons (gVar 5) (gsCons (gVar 6) gsNil)))))
  (sSeq (sIf (d2T isD (dVar 6) (dC .non)) (sRet (d2 inDicN (dTup (dCons (dVar 4) (dCons (dVar 5) dNil))) (dCallF 2 Fr__law_passed (dCons (dVar 0) (dCons (dVar 1) dNil))))) sNext)
  (sSeq (sAsg (dCallF 4 F__law_changed (dCons (dVar 0) (dCons (dVar 4) (dCons (dVar 5) (dCons (dVar 6) dNil))))) (gVar 3))
  (sRet (d2 neD (dFrz (dComp [7] (iVal (dVar 1)) (gVar 7) (d2T neD (dCallF 2 F__law_deeds (dCons (dVar 0) (dCons (dVar 7) dNil))) (dCallF 2 F__law_deeds (dCons (dVar 3) (dCons (dVar 7) dNil)))) (dVar 7))) (dLstF dNil))))))
noncomputable def F__law_finds : List D → Sto → Res D := cutF (dFn 8 b__law_finds)
theorem d__law_finds (T : Tx K mg w) : FnD P w (cl K w) K mg base 44 (He.ga K "_law_finds") 3 F__law_finds := by
  obtain ⟨fd, Fu⟩ := T.f__law_finds
  exact (fnD_of Fu sc__law_finds (fun _ _ _ _ _ _ us hl => match us, hl with | [_, _, _], _ => rfl) (fun cdv A outer s H E co =>
      (z8 (ds_asg (z3 2) (dg_tup co.calm (zh (ze (i := 4) co.nd rfl (Or.inl rfl)) (zh (ze (i := 5) co.nd rfl (Or.inl rfl)) (zh (ze (i := 6) co.nd rfl (Or.inl rfl)) dgs_nil)))))
      (z8 (ds_if (zp op_isD (z3 6) de_non (nomark _)) (za (zi (de_cmp (op_inDicN co.hu5 rfl) (de_tup (z4 (z3 4) (z4 (z3 5) z7))) (zc (dr__law_passed T) (co.hr.mono (by first | decide | omega)) co.px (by rfl) T.g__law_passed (z4 (z3 0) (z4 (z3 1) z7)))))) dss_nil)
      (z8 (zg (i := 3) co.nd rfl (Or.inr rfl) (zc (d__law_changed T) (co.hr.mono (by first | decide | omega)) co.px (by rfl) T.g__law_changed (z4 (z3 0) (z4 (z3 4) (z4 (z3 5) (z4 (z3 6) z7))))))
      (za (zi (de_cmp (op_neDD co.hu) (de_frz (de_comp (own := [("_law_row", 7)]) co.calm co.nd (di_val (z3 1)) (blkOk_by (by kernel_rfl)) (fun _ _ _ _ _ => (dgw_name (i := 7) (by decide) (co.blk _ _ _ _ _).nd rfl (Or.inl rfl))) (fun _ _ _ _ _ => (dts_one (zp (op_neDD (co.blk _ _ _ _ _).hu) (zc (d__law_deeds T) ((co.blk _ _ _ _ _).hr.mono (by first | decide | omega)) (co.blk _ _ _ _ _).px (by rfl) T.g__law_deeds (z4 (z3 0) (z4 (z3 7) z7))) (zc (d__law_deeds T) ((co.blk _ _ _ _ _).hr.mono (by first | decide | omega)) (co.blk _ _ _ _ _).px (by rfl) T.g__law_deeds (z4 (z3 3) (z4 (z3 7) z7))) (nomark _)))) (fun _ _ _ _ _ => (z3 7)))) (zj z7) (nomark _))))))))).cut
noncomputable def b__law_beat : Sl → Sto → Res Fl :=
  (sRet (dBm "str" joinD (dC (.str "")) (dCons (dFrz (dComp [2] (iRngD1 (dVar 1)) (gVar 2) tYesD (d2 ixD (dC (.str "01")) (dCallF 2 F__law_drawn (dCons (dVar 0) (dCons (dC (.int 2)) dNil)))))) dNil)))
noncomputable def F__law_beat : List D → Sto → Res D := cutF (dFn 3 b__law_beat)
theorem d__law_beat (T : Tx K mg w) : FnD P w (cl K w) K mg base 2 (He.ga K "_law_beat") 2 F__law_beat := by
  obtain ⟨fd, Fu⟩ := T.f__law_beat
  exact (fnD_of Fu sc__law_beat (fun _ _ _ _ _ _ us hl => match us, hl with | [_, _], _ => rfl) (fun cdv A outer s H E co =>
      (za (zi (de_bm PySem.F.plainAttrs_str PySem.F.slot_str_join PySem.F.type_str_join md_join de_str (z4 (de_frz (de_comp (own := [("_law_k", 2)]) co.calm co.nd (di_range1 (by rfl) T.z_range (z3 1)) (blkOk_by (by kernel_rfl)) (fun _ _ _ _ _ => (dgw_name (i := 2) (by decide) (co.blk _ _ _ _ _).nd rfl (Or.inl rfl))) (fun _ _ _ _ _ => dts_nil) (fun _ _ _ _ _ => (zf de_str (zc (d__law_drawn T) ((co.blk _ _ _ _ _).hr.mono (by first | decide | omega)) (co.blk _ _ _ _ _).px (by rfl) T.g__law_drawn (z4 (z3 0) (z4 z9 z7))))))) z7)))))).cut
noncomputable def b_is_word : Sl → Sto → Res Fl :=
  (sRet (dAnd (d2 eqD (dCall lenD (dCons (dVar 0) dNil)) (dVar 1)) (d2 eqD (dFrz (dComp [3] (iVal (dVar 0)) (gVar 3) (d2T notInD (dVar 3) (dVar 2)) (dVar 3))) (dLstF dNil))))
noncomputable def F_is_word : List D → Sto → Res D := cutF (dFn 4 b_is_word)
theorem d_is_word (T : Tx K mg w) : FnD P w (cl K w) K mg base 1 (He.ga K "is_word") 3 F_is_word := by
  obtain ⟨fd, Fu⟩ := T.f_is_word
  exact (fnD_of Fu sc_is_word (fun _ _ _ _ _ _ us hl => match us, hl with | [_, _, _], _ => rfl) (fun cdv A outer s H E co =>
      (za (zi (de_and (de_cmp (op_eqDD co.hu) (de_callB cd_len (by rfl) T.z_len (by decide +kernel) (z4 (z3 0) z7)) (z3 1) (nomark _)) (de_one (de_cmp (op_eqDD co.hu) (de_frz (de_comp (own := [("sign", 3)]) co.calm co.nd (di_val (z3 0)) (blkOk_by (by kernel_rfl)) (fun _ _ _ _ _ => (dgw_name (i := 3) (by decide) (co.blk _ _ _ _ _).nd rfl (Or.inl rfl))) (fun _ _ _ _ _ => (dts_one (zp (op_notInDD (co.blk _ _ _ _ _).hu5) (z3 3) (z3 2)))) (fun _ _ _ _ _ => (z3 3)))) (zj z7) (nomark _)))))))).cut
noncomputable def b_is_row : Sl → Sto → Res Fl :=
  (sSeq (sIf (d2T neD (dCall lenD (dCons (dVar 3) dNil)) (d2 ixD (dC (.tup [(.int 1), (.int 2), (.int 4), (.int 8), (.int 16)])) (dVar 0))) (sRet (dC (.bl false))) sNext)
  (sRet (d2 eqD (dFrz (dComp [4] (iVal (dVar 3)) (gVar 4) (tOrD (tNotD (tstB (dCallF 3 F_is_word (dCons (d2 ixD (dVar 4) (dC (.int 0))) (dCons (dVar 1) (dCons (dC (.str "01")) dNil)))))) (tNotD (d3T leD ltD (dC (.int 0)) (d2 ixD (dVar 4) (dC (.int 1))) (dVar 2)))) (dVar 4))) (dLstF dNil))))
noncomputable def F_is_row : List D → Sto → Res D := cutF (dFn 5 b_is_row)
theorem d_is_row (T : Tx K mg w) : FnD P w (cl K w) K mg base 2 (He.ga K "is_row") 4 F_is_row := by
  obtain ⟨fd, Fu⟩ := T.f_is_row
  exact (fnD_of Fu sc_is_row (fun _ _ _ _ _ _ us hl => match us, hl with | [_, _, _, _], _ => rfl) (fun cdv A outer s H E co =>
      (z8 (ds_if (zp (op_neDD co.hu) (de_callB cd_len (by rfl) T.z_len (by decide +kernel) (z4 (z3 3) z7)) (zf (de_con T.k_COUNTS (by rfl)) (z3 0)) (nomark _)) (za (zi de_bl)) dss_nil)
      (za (zi (de_cmp (op_eqDD co.hu) (de_frz (de_comp (own := [("one", 4)]) co.calm co.nd (di_val (z3 3)) (blkOk_by (by kernel_rfl)) (fun _ _ _ _ _ => (dgw_name (i := 4) (by decide) (co.blk _ _ _ _ _).nd rfl (Or.inl rfl))) (fun _ _ _ _ _ => (dts_one (dt_bool (dw_or (dt_not (dt_val (zc (d_is_word T) ((co.blk _ _ _ _ _).hr.mono (by first | decide | omega)) (co.blk _ _ _ _ _).px (by rfl) T.g_is_word (z4 (zf (z3 4) z9) (z4 (z3 1) (z4 de_str z7)))))) (dw_or1 (dt_not (dt_chain op_leD op_ltD z9 (zf (z3 4) z9) (z3 2)))))))) (fun _ _ _ _ _ => (z3 4)))) (zj z7) (nomark _))))))).cut
noncomputable def b_need_plain : Sl → Sto → Res Fl :=
  (sSeq (sAsg (dVar 0) (gTupD 3 (gsCons (gVar 1) (gsCons (gVar 2) (gsCons (gVar 3) gsNil)))))
  (sSeq (sIf (tOrD (tNotD (d3T leD leD (dC (.int 1)) (dVar 1) (dC (.int 4)))) (tOrD (tNotD (d3T leD leD (dC (.int 1)) (dVar 2) (dC (.int 3)))) (tNotD (d3T leD leD (dC (.int 1)) (dCall lenD (dCons (dVar 3) dNil)) (dC (.int 200)))))) (sRaise 4 ["number"] (dCons (d2 subD (dC (.int 0)) (dC (.int 1))) dNil)) sNext)
  (sFor (iEnumD (dVar 3)) (gTupD 2 (gsCons (gVar 4) (gsCons (gVar 5) gsNil))) (sIf (tNotD (tstB (dCallF 4 F_is_row (dCons (dVar 1) (dCons (dVar 2) (dCons (dCall lenD (dCons (dVar 3) dNil)) (dCons (dVar 5) dNil))))))) (sRaise 4 ["number"] (dCons (dVar 4) dNil)) sNext))))
noncomputable def F_need_plain : List D → Sto → Res D := cutF (dFn 6 b_need_plain)
theorem d_need_plain (T : Tx K mg w) : FnD P w (cl K w) K mg base 3 (He.ga K "need_plain") 1 F_need_plain := by
  obtain ⟨fd, Fu⟩ := T.f_need_plain
  exact (fnD_of Fu sc_need_plain (fun _ _ _ _ _ _ us hl => match us, hl with | [_], _ => rfl) (fun cdv A outer s H E co =>
      (z8 (ds_asg (z3 0) (dg_tup co.calm (zh (ze (i := 1) co.nd rfl (Or.inl rfl)) (zh (ze (i := 2) co.nd rfl (Or.inl rfl)) (zh (ze (i := 3) co.nd rfl (Or.inl rfl)) dgs_nil)))))
      (z8 (ds_if (dt_bool (dw_or (dt_not (dt_chain op_leD op_leD z9 (z3 1) (de_con T.k_MOST_INS (by rfl)))) (dw_or (dt_not (dt_chain op_leD op_leD z9 (z3 2) (de_con T.k_MOST_OUTS (by rfl)))) (dw_or1 (dt_not (dt_chain op_leD op_leD z9 (de_callB cd_len (by rfl) T.z_len (by decide +kernel) (z4 (z3 3) z7)) (de_con T.k_MOST_PLAIN (by rfl)))))))) (za (ds_raise (x_BadPlain T) (co.at (by first | decide | omega)) (by rfl) T.g_BadPlain (z4 (zl op_subD z9 z9) z7))) dss_nil)
      (za (zo co.po co.calm (di_enum (by rfl) T.z_enumerate (z3 3)) (dg_tup co.calm (zh (ze (i := 4) co.nd rfl (Or.inl rfl)) (zh (ze (i := 5) co.nd rfl (Or.inl rfl)) dgs_nil))) (za (ds_if (dt_not (dt_val (zc (d_is_row T) (co.hr.mono (by first | decide | omega)) co.px (by rfl) T.g_is_row (z4 (z3 1) (z4 (z3 2) (z4 (de_callB cd_len (by rfl) T.z_len (by decide +kernel) (z4 (z3 3) z7)) (z4 (z3 5) z7))))))) (za (ds_raise (x_BadPlain T) (co.at (by first | decide | omega)) (by rfl) T.g_BadPlain (z4 (z3 4) z7))) dss_nil)))))))).cut
noncomputable def b_need_few : Sl → Sto → Res Fl :=
  (sSeq (sExpr (dCallF 1 F_need_plain (dCons (dVar 0) dNil)))
  (sIf (d2T gtD (dCall lenD (dCons (d2 ixD (dVar 0) (dC (.int 2))) dNil)) (dVar 1)) (sRaiseT 5) sNext))
noncomputable def F_need_few : List D → Sto → Res D := cutF (dFn 2 b_need_few)
theorem d_need_few (T : Tx K mg w) : FnD P w (cl K w) K mg base 4 (He.ga K "need_few") 2 F_need_few := by
  obtain ⟨fd, Fu⟩ := T.f_need_few
  exact (fnD_of Fu sc_need_few (fun _ _ _ _ _ _ us hl => match us, hl with | [_, _], _ => rfl) (fun cdv A outer s H E co =>
      (z8 (ds_expr (zc (d_need_plain T) (co.hr.mono (by first | decide | omega)) co.px (by rfl) T.g_need_plain (z4 (z3 0) z7)))
      (za (ds_if (zp op_gtD (de_callB cd_len (by rfl) T.z_len (by decide +kernel) (z4 (zf (z3 0) z9) z7)) (z3 1) (nomark _)) (za (ds_raiseT T.xt_TooLarge co (by rfl) T.g_TooLarge)) dss_nil))))).cut
noncomputable def b_need_tests : Sl → Sto → Res Fl :=
  (sSeq (sExpr (dCallF 2 F_need_few (dCons (dVar 0) (dCons (dC (.int 6)) dNil))))
  (sFor (iEnumD (dVar 1)) (gTupD 2 (gsCons (gVar 2) (gsCons (gVar 3) gsNil))) (sIf (tOrD (d2T geD (dVar 2) (dC (.int 200))) (d2T neD (dFrz (dComp [4] (iVal (dVar 3)) (gVar 4) (tNotD (tstB (dCallF 3 F_is_word (dCons (dVar 4) (dCons (d2 ixD (dVar 0) (dC (.int 0))) (dCons (dC (.str "01")) dNil)))))) (dVar 4))) (dLstF dNil))) (sRaise 15 ["number"] (dCons (dVar 2) dNil)) sNext)))
noncomputable def F_need_tests : List D → Sto → Res D := cutF (dFn 5 b_need_tests)
theorem d_need_tests (T : Tx K mg w) : FnD P w (cl K w) K mg base 5 (He.ga K "need_tests") 2 F_need_tests := by
  obtain ⟨fd, Fu⟩ := T.f_need_tests
  exact (fnD_of Fu sc_need_tests (fun _ _ _ _ _ _ us hl => match us, hl with | [_, _], _ => rfl) (fun cdv A outer s H E co =>
      (z8 (ds_expr (zc (d_need_few T) (co.hr.mono (by first | decide | omega)) co.px (by rfl) T.g_need_few (z4 (z3 0) (z4 (de_con T.k_SMALL (by rfl)) z7))))
      (za (zo co.po co.calm (di_enum (by rfl) T.z_enumerate (z3 1)) (dg_tup co.calm (zh (ze (i := 2) co.nd rfl (Or.inl rfl)) (zh (ze (i := 3) co.nd rfl (Or.inl rfl)) dgs_nil))) (za (ds_if (dt_bool (dw_or (zp op_geD (z3 2) (de_con T.k_MOST_TESTS (by rfl)) (nomark _)) (dw_or1 (zp (op_neDD co.hu) (de_frz (de_comp (own := [("beat", 4)]) co.calm co.nd (di_val (z3 3)) (blkOk_by (by kernel_rfl)) (fun _ _ _ _ _ => (dgw_name (i := 4) (by decide) (co.blk _ _ _ _ _).nd rfl (Or.inl rfl))) (fun _ _ _ _ _ => (dts_one (dt_not (dt_val (zc (d_is_word T) ((co.blk _ _ _ _ _).hr.mono (by first | decide | omega)) (co.blk _ _ _ _ _).px (by rfl) T.g_is_word (z4 (z3 4) (z4 (zf (z3 0) z9) (z4 de_str z7)))))))) (fun _ _ _ _ _ => (z3 4)))) (zj z7) (nomark _))))) (za (ds_raise (x_BadRows T) (co.at (by first | decide | omega)) (by rfl) T.g_BadRows (z4 (z3 2) z7))) dss_nil))))))).cut
noncomputable def b_met_from : Sl → Sto → Res Fl :=
  (sSeq (sAsg (dLst (dCons (dVar 1) dNil)) (gVar 2))
  (sSeq (sAsg (dDisp (pCons (dVar 1) (dC (.bl true)) pNil)) (gVar 3))
  (sSeq (sAsg (dC (.int 0)) (gVar 4))
  (sSeq (whileD (d2T ltD (dVar 4) (dCall lenD (dCons (dVar 2) dNil))) (sSeq (sFor (iVal (d2 ixD (dVar 0) (d2 ixD (dVar 2) (dVar 4)))) (gTupD 2 (gsCons (gVar 5) (gsCons (gVar 6) gsNil))) (sIf (d2T notInDic (dVar 6) (dVar 3)) (sSeq (sAsg (dC (.bl true)) (gSubD setDic (dVar 3) (dVar 6)))
  (sExpr (dBm "list" appendD (dVar 2) (dCons (dVar 6) dNil)))) sNext))
  (sAsg (d2 addD (dVar 4) (dC (.int 1))) (gVar 4))) fuelW)
  (sRet (dFrz (dVar 2)))))))
noncomputable def F_met_from : List D → Sto → Res D := cutF (dFn 7 b_met_from)
theorem d_met_from (T : Tx K mg w) : FnD P w (cl K w) K mg base 1 (He.ga K "met_from") 2 F_met_from := by
  obtain ⟨fd, Fu⟩ := T.f_met_from
  exact (fnD_of Fu sc_met_from (fun _ _ _ _ _ _ us hl => match us, hl with | [_, _], _ => rfl) (fun cdv A outer s H E co =>
      (z8 (zg (i := 2) co.nd rfl (Or.inl rfl) (de_lst (z4 (z3 1) z7)))
      (z8 (zg (i := 3) co.nd rfl (Or.inl rfl) (de_disp (dp_cons (z3 1) de_bl dp_nil)))
      (z8 (zg (i := 4) co.nd rfl (Or.inl rfl) z9)
      (z8 (ds_while fuelW co.po (zp op_ltD (z3 4) (de_callB cd_len (by rfl) T.z_len (by decide +kernel) (z4 (z3 2) z7)) (nomark _)) (z8 (zo co.po co.calm (di_val (zf (z3 0) (zf (z3 2) (z3 4)))) (dg_tup co.calm (zh (ze (i := 5) co.nd rfl (Or.inl rfl)) (zh (ze (i := 6) co.nd rfl (Or.inl rfl)) dgs_nil))) (za (ds_if (zp (op_notInDic co.hu5) (z3 6) (z3 3)) (z8 (ds_asg de_bl (dg_sub (z3 3) (z3 6) (set_dicD co.hu5)))
      (za (ds_expr (de_bm PySem.F.plainAttrs_list PySem.F.slot_list_append PySem.F.type_list_append md_append (z3 2) (z4 (z3 6) z7))))) dss_nil)))
      (za (zg (i := 4) co.nd rfl (Or.inl rfl) (zl op_addD (z3 4) z9)))))
      (za (zi (de_frz (z3 2)))))))))).cut
noncomputable def b_all_beats : Sl → Sto → Res Fl :=
  (sSeq (sAsg (dLstF (dCons (dC (.str "")) dNil)) (gVar 1))
  (sSeq (sFor (iRngD1 (dVar 0)) (gVar 2) (sSeq (sAsg (dLst dNil) (gVar 3))
  (sSeq (sFor (iVal (dVar 1)) (gVar 4) (sExpr (dBm "list" extendD (dVar 3) (dCons (dLst (dCons (d2 addD (dVar 4) (dC (.str "0"))) (dCons (d2 addD (dVar 4) (dC (.str "1"))) dNil))) dNil))))
  (sAsg (dFrz (dVar 3)) (gVar 1)))))
  (sRet (dVar 1))))
noncomputable def F_all_beats : List D → Sto → Res D := cutF (dFn 5 b_all_beats)
theorem d_all_beats (T : Tx K mg w) : FnD P w (cl K w) K mg base 1 (He.ga K "all_beats") 1 F_all_beats := by
  obtain ⟨fd, Fu⟩ := T.f_all_beats
  exact (fnD_of Fu sc_all_beats (fun _ _ _ _ _ _ us hl => match us, hl with | [_], _ => rfl) (fun cdv A outer s H E co =>
      (z8 (zg (i := 1) co.nd rfl (Or.inl rfl) (zj (z4 de_str z7)))
      (z8 (zo co.po co.calm (di_range1 (by rfl) T.z_range (z3 0)) (ze (i := 2) co.nd rfl (Or.inl rfl)) (z8 (zg (i := 3) co.nd rfl (Or.inl rfl) (de_lst z7))
      (z8 (zo co.po co.calm (di_val (z3 1)) (ze (i := 4) co.nd rfl (Or.inl rfl)) (za (ds_expr (de_bm PySem.F.plainAttrs_list PySem.F.slot_list_extend PySem.F.type_list_extend md_extend (z3 3) (z4 (de_lst (z4 (zl op_addD (z3 4) de_str) (z4 (zl op_addD (z3 4) de_str) z7))) z7)))))
      (za (zg (i := 1) co.nd rfl (Or.inl rfl) (de_frz (z3 3)))))))
      (za (zi (z3 1))))))).cut
noncomputable def b_road_to : Sl → Sto → Res Fl :=
  (sSeq (sAsg (dCallF 1 F_all_beats (dCons (d2 ixD (dVar 0) (dC (.int 0))) dNil)) (gVar 2))
  (sSeq (sAsg (dDisp (pCons (dC (.int 0)) (dLstF dNil) pNil)) (gVar 3))
  (sSeq (sAsg (dLstF (dCons (dC (.int 0)) dNil)) (gVar 4))
  (sSeq (whileD (d2T notInDic (dVar 1) (dVar 3)) (sSeq (sAsg (dLst dNil) (gVar 5))
  (sSeq (sFor (iVal (dVar 4)) (gVar 6) (sFor (iZipD (dVar 2) (d2 ixD (d2 ixD (dVar 0) (dC (.int 2))) (dVar 6))) (gTupD 2 (gsCons (gVar 7) (gsCons (gTupD 2 (gsCons (gVar 8) (gsCons (gVar 9) gsNil))) gsNil))) (sIf (d2T notInDic (dVar 9) (dVar 3)) (sSeq (sAsg (d2 addF (d2 ixDic (dVar 3) (dVar 6)) (dLstF (dCons (dVar 7) dNil))) (gSubD setDic (dVar 3) (dVar 9)))
  (sExpr (dBm "list" appendD (dVar 5) (dCons (dVar 9) dNil)))) sNext)))
  (sAsg (dFrz (dVar 5)) (gVar 4)))) fuelW)
  (sRet (d2 ixDic (dVar 3) (dVar 1)))))))
noncomputable def F_road_to : List D → Sto → Res D := cutF (dFn 10 b_road_to)
theorem d_road_to (T : Tx K mg w) : FnD P w (cl K w) K mg base 2 (He.ga K "road_to") 2 F_road_to := by
  obtain ⟨fd, Fu⟩ := T.f_road_to
  exact (fnD_of Fu sc_road_to (fun _ _ _ _ _ _ us hl => match us, hl with | [_, _], _ => rfl) (fun cdv A outer s H E co =>
      (z8 (zg (i := 2) co.nd rfl (Or.inl rfl) (zc (d_all_beats T) (co.hr.mono (by first | decide | omega)) co.px (by rfl) T.g_all_beats (z4 (zf (z3 0) z9) z7)))
      (z8 (zg (i := 3) co.nd rfl (Or.inl rfl) (de_disp (dp_cons z9 (zj z7) dp_nil)))
      (z8 (zg (i := 4) co.nd rfl (Or.inl rfl) (zj (z4 z9 z7)))
      (z8 (ds_while fuelW co.po (zp (op_notInDic co.hu5) (z3 1) (z3 3)) (z8 (zg (i := 5) co.nd rfl (Or.inl rfl) (de_lst z7))
      (z8 (zo co.po co.calm (di_val (z3 4)) (ze (i := 6) co.nd rfl (Or.inl rfl)) (za (zo co.po co.calm (di_zip (by rfl) T.z_zip (z3 2) (zf (zf (z3 0) z9) (z3 6))) (dg_tup co.calm (zh (ze (i := 7) co.nd rfl (Or.inl rfl)) (zh (dg_tup co.calm (zh (ze (i := 8) co.nd rfl (Or.inl rfl)) (zh (ze (i := 9) co.nd rfl (Or.inl rfl)) dgs_nil))) dgs_nil))) (za (ds_if (zp (op_notInDic co.hu5) (z3 9) (z3 3)) (z8 (ds_asg (zl op_addF (de_ixDic co.hu1 (z3 3) (z3 6)) (zj (z4 (z3 7) z7))) (dg_sub (z3 3) (z3 9) (set_dicD co.hu5)))
      (za (ds_expr (de_bm PySem.F.plainAttrs_list PySem.F.slot_list_append PySem.F.type_list_append md_append (z3 5) (z4 (z3 9) z7))))) dss_nil)))))
      (za (zg (i := 4) co.nd rfl (Or.inl rfl) (de_frz (z3 5)))))))
      (za (zi (de_ixDic co.hu1 (z3 3) (z3 1)))))))))).cut
noncomputable def b_row_between : Sl → Sto → Res Fl :=
  (sSeq (sAsg (dCallF 1 F_all_beats (dCons (dVar 0) dNil)) (gVar 5))
  (sSeq (sAsg (dLstF (dCons (dTup (dCons (dTup (dCons (dVar 3) (dCons (dVar 4) dNil))) (dCons (dLstF dNil) dNil))) dNil)) (gVar 6))
  (sSeq (sAsg (dDispN (dTup (dCons (dVar 3) (dCons (dVar 4) dNil))) (dC (.bl true))) (gVar 7))
  (sSeq (whileD (d2T neD (dVar 6) (dLstF dNil)) (sSeq (sAsg (dLst dNil) (gVar 8))
  (sSeq (sFor (iVal (dVar 6)) (gTupD 2 (gsCons (gTupD 2 (gsCons (gVar 10) (gsCons (gVar 11) gsNil))) (gsCons (gVar 9) gsNil))) (sFor (iEnumD (dVar 5)) (gTupD 2 (gsCons (gVar 12) (gsCons (gVar 13) gsNil))) (sSeq (sPar 15 16 (dCons (d2 ixD (d2 ixD (dVar 1) (dVar 10)) (dVar 12)) (dCons (d2 ixD (d2 ixD (dVar 2) (dVar 11)) (dVar 12)) dNil)))
  (sSeq (sIf (d2T neD (d2 ixD (dVar 15) (dC (.int 0))) (d2 ixD (dVar 16) (dC (.int 0)))) (sRet (d2 addF (dVar 9) (dLstF (dCons (dVar 13) dNil)))) sNext)
  (sSeq (sAsg (dTup (dCons (d2 ixD (dVar 15) (dC (.int 1))) (dCons (d2 ixD (dVar 16) (dC (.int 1))) dNil))) (gVar 14))
  (sIf (d2T notInDicN (dVar 14) (dVar 7)) (sSeq (sAsg (dC (.bl true)) (gSubD setDicN (dVar 7) (dVar 14)))
  (sExpr (dBm "list" appendD (dVar 8) (dCons (dTup (dCons (dVar 14) (dCons (d2 addF (dVar 9) (dLstF (dCons (dVar 13) dNil))) dNil))) dNil)))) sNext))))))
  (sAsg (dFrz (dVar 8)) (gVar 6)))) fuelW)
  (sRet (dC .non))))))
noncomputable def F_row_between : List D → Sto → Res D := cutF (dFn 17 b_row_between)
theorem d_row_between (T : Tx K mg w) : FnD P w (cl K w) K mg base 2 (He.ga K "row_between") 5 F_row_between := by
  obtain ⟨fd, Fu⟩ := T.f_row_between
  exact (fnD_of Fu sc_row_between (fun _ _ _ _ _ _ us hl => match us, hl with | [_, _, _, _, _], _ => rfl) (fun cdv A outer s H E co =>
      (z8 (zg (i := 5) co.nd rfl (Or.inl rfl) (zc (d_all_beats T) (co.hr.mono (by first | decide | omega)) co.px (by rfl) T.g_all_beats (z4 (z3 0) z7)))
      (z8 (zg (i := 6) co.nd rfl (Or.inl rfl) (zj (z4 (de_tup (z4 (de_tup (z4 (z3 3) (z4 (z3 4) z7))) (z4 (zj z7) z7))) z7)))
      (z8 (zg (i := 7) co.nd rfl (Or.inl rfl) (de_dispN co.hu5 rfl (de_tup (z4 (z3 3) (z4 (z3 4) z7))) de_bl))
      (z8 (ds_while fuelW co.po (zp (op_neDD co.hu) (z3 6) (zj z7) (nomark _)) (z8 (zg (i := 8) co.nd rfl (Or.inl rfl) (de_lst z7))
      (z8 (zo co.po co.calm (di_val (z3 6)) (dg_tup co.calm (zh (dg_tup co.calm (zh (ze (i := 10) co.nd rfl (Or.inl rfl)) (zh (ze (i := 11) co.nd rfl (Or.inl rfl)) dgs_nil))) (zh (ze (i := 9) co.nd rfl (Or.inl rfl)) dgs_nil))) (za (zo co.po co.calm (di_enum (by rfl) T.z_enumerate (z3 5)) (dg_tup co.calm (zh (ze (i := 12) co.nd rfl (Or.inl rfl)) (zh (ze (i := 13) co.nd rfl (Or.inl rfl)) dgs_nil))) (z8 (ds_par (i := 15) (j := 16) co.calm co.nd rfl rfl (by decide) rfl rfl (z4 (zf (zf (z3 1) (z3 10)) (z3 12)) (z4 (zf (zf (z3 2) (z3 11)) (z3 12)) z7)))
      (z8 (ds_if (zp (op_neDD co.hu) (zf (z3 15) z9) (zf (z3 16) z9) (nomark _)) (za (zi (zl op_addF (z3 9) (zj (z4 (z3 13) z7))))) dss_nil)
      (z8 (zg (i := 14) co.nd rfl (Or.inl rfl) (de_tup (z4 (zf (z3 15) z9) (z4 (zf (z3 16) z9) z7))))
      (za (ds_if (zp (op_notInDicN co.hu5 rfl) (z3 14) (z3 7)) (z8 (ds_asg de_bl (dg_sub (z3 7) (z3 14) (set_dicN co.hu5 rfl)))
      (za (ds_expr (de_bm PySem.F.plainAttrs_list PySem.F.slot_list_append PySem.F.type_list_append md_append (z3 8) (z4 (de_tup (z4 (z3 14) (z4 (zl op_addF (z3 9) (zj (z4 (z3 13) z7))) z7))) z7))))) dss_nil))))))))
      (za (zg (i := 6) co.nd rfl (Or.inl rfl) (de_frz (z3 8)))))))
      (za (zi de_non)))))))).cut
noncomputable def b_changed : Sl → Sto → Res Fl :=
  (sSeq (sAsg (dCall listD (dCons (d2 ixD (dVar 0) (dC (.int 2))) dNil)) (gVar 4))
  (sSeq (sAsg (dCall listD (dCons (d2 ixD (dVar 4) (dVar 1)) dNil)) (gVar 5))
  (sSeq (sAsg (dTup (dCons (d2 ixD (d2 ixD (dVar 5) (dVar 2)) (dC (.int 0))) (dCons (dVar 3) dNil))) (gSubD setD (dVar 5) (dVar 2)))
  (sSeq (sAsg (dCall tupleD (dCons (dVar 5) dNil)) (gSubD setD (dVar 4) (dVar 1)))
  (sRet (d2 addD (dSlice (dVar 0) oNone (oSome (dC (.int 2)))) (dTup (dCons (dCall tupleD (dCons (dVar 4) dNil)) dNil))))))))
noncomputable def F_changed : List D → Sto → Res D := cutF (dFn 6 b_changed)
theorem d_changed (T : Tx K mg w) : FnD P w (cl K w) K mg base 1 (He.ga K "changed") 4 F_changed := by
  obtain ⟨fd, Fu⟩ := T.f_changed
  exact (fnD_of Fu sc_changed (fun _ _ _ _ _ _ us hl => match us, hl with | [_, _, _, _], _ => rfl) (fun cdv A outer s H E co =>
      (z8 (zg (i := 4) co.nd rfl (Or.inl rfl) (de_callTy cd_list (by rfl) T.z_list (by decide +kernel) (z4 (zf (z3 0) z9) z7)))
      (z8 (zg (i := 5) co.nd rfl (Or.inl rfl) (de_callTy cd_list (by rfl) T.z_list (by decide +kernel) (z4 (zf (z3 4) (z3 1)) z7)))
      (z8 (ds_asg (de_tup (z4 (zf (zf (z3 5) (z3 2)) z9) (z4 (z3 3) z7))) (dg_sub (z3 5) (z3 2) set_lstD))
      (z8 (ds_asg (de_callTy cd_tuple (by rfl) T.z_tuple (by decide +kernel) (z4 (z3 5) z7)) (dg_sub (z3 4) (z3 1) set_lstD))
      (za (zi (zl op_addD (de_slice (z3 0) dpo_none (dpo_some z9)) (de_tup (z4 (de_callTy cd_tuple (by rfl) T.z_tuple (by decide +kernel) (z4 (z3 4) z7)) z7))))))))))).cut
noncomputable def b_finding : Sl → Sto → Res Fl :=
  (sSeq (sAsg (dVar 1) (gTupD 3 (gsCons (gVar 2) (gsCons (gVar 3) (gsCons (gVar 4) gsNil)))))
  (sSeq (sIf (d2T isD (dVar 4) (dC .non)) (sRet (d2 addF (dCallF 2 F_road_to (dCons (dVar 0) (dCons (dVar 2) dNil))) (dLstF (dCons (d2 ixD (dCallF 1 F_all_beats (dCons (d2 ixD (dVar 0) (dC (.int 0))) dNil)) (dVar 3)) dNil)))) sNext)
  (sRet (dCallF 5 F_row_between (dCons (d2 ixD (dVar 0) (dC (.int 0))) (dCons (d2 ixD (dVar 0) (dC (.int 2))) (dCons (d2 ixD (dCallF 4 F_changed (dCons (dVar 0) (dCons (dVar 2) (dCons (dVar 3) (dCons (dVar 4) dNil))))) (dC (.int 2))) (dCons (dC (.int 0)) (dCons (dC (.int 0)) dNil)))))))))
noncomputable def F_finding : List D → Sto → Res D := cutF (dFn 5 b_finding)
theorem d_finding (T : Tx K mg w) : FnD P w (cl K w) K mg base 3 (He.ga K "finding") 2 F_finding := by
  obtain ⟨fd, Fu⟩ := T.f_finding
  exact (fnD_of Fu sc_finding (fun _ _ _ _ _ _ us hl => match us, hl with | [_, _], _ => rfl) (fun cdv A outer s H E co =>
      (z8 (ds_asg (z3 1) (dg_tup co.calm (zh (ze (i := 2) co.nd rfl (Or.inl rfl)) (zh (ze (i := 3) co.nd rfl (Or.inl rfl)) (zh (ze (i := 4) co.nd rfl (Or.inl rfl)) dgs_nil)))))
      (z8 (ds_if (zp op_isD (z3 4) de_non (nomark _)) (za (zi (zl op_addF (zc (d_road_to T) (co.hr.mono (by first | decide | omega)) co.px (by rfl) T.g_road_to (z4 (z3 0) (z4 (z3 2) z7))) (zj (z4 (zf (zc (d_all_beats T) (co.hr.mono (by first | decide | omega)) co.px (by rfl) T.g_all_beats (z4 (zf (z3 0) z9) z7)) (z3 3)) z7))))) dss_nil)
      (za (zi (zc (d_row_between T) (co.hr.mono (by first | decide | omega)) co.px (by rfl) T.g_row_between (z4 (zf (z3 0) z9) (z4 (zf (z3 0) z9) (z4 (zf (zc (d_changed T) (co.hr.mono (by first | decide | omega)) co.px (by rfl) T.g_changed (z4 (z3 0) (z4 (z3 2) (z4 (z3 3) (z4 (z3 4) z7))))) z9) (z4 z9 (z4 z9 z7)))))))))))).cut
noncomputable def b_all_wrong : Sl → Sto → Res Fl :=
  (sSeq (sAsg (dLst dNil) (gVar 1))
  (sSeq (sFor (iVal (dCall sortF (dCons (dCallF 2 F_met_from (dCons (d2 ixD (dVar 0) (dC (.int 2))) (dCons (dC (.int 0)) dNil))) dNil))) (gVar 2) (sFor (iRngD1 (dCall lenD (dCons (d2 ixD (d2 ixD (dVar 0) (dC (.int 2))) (dVar 2)) dNil))) (gVar 3) (sSeq (sExpr (dBm "list" appendD (dVar 1) (dCons (dTup (dCons (dVar 2) (dCons (dVar 3) (dCons (dC .non) dNil)))) dNil)))
  (sFor (iRngD1 (dCall lenD (dCons (d2 ixD (dVar 0) (dC (.int 2))) dNil))) (gVar 4) (sIf (tAndD (d2T neD (dVar 4) (d2 ixD (d2 ixD (d2 ixD (d2 ixD (dVar 0) (dC (.int 2))) (dVar 2)) (dVar 3)) (dC (.int 1)))) (d2T isNotD (dCallF 2 F_finding (dCons (dVar 0) (dCons (dTup (dCons (dVar 2) (dCons (dVar 3) (dCons (dVar 4) dNil)))) dNil))) (dC .non))) (sExpr (dBm "list" appendD (dVar 1) (dCons (dTup (dCons (dVar 2) (dCons (dVar 3) (dCons (dVar 4) dNil)))) dNil))) sNext)))))
  (sRet (dFrz (dVar 1)))))
noncomputable def F_all_wrong : List D → Sto → Res D := cutF (dFn 5 b_all_wrong)
theorem d_all_wrong (T : Tx K mg w) : FnD P w (cl K w) K mg base 4 (He.ga K "all_wrong") 1 F_all_wrong := by
  obtain ⟨fd, Fu⟩ := T.f_all_wrong
  exact (fnD_of Fu sc_all_wrong (fun _ _ _ _ _ _ us hl => match us, hl with | [_], _ => rfl) (fun cdv A outer s H E co =>
      (z8 (zg (i := 1) co.nd rfl (Or.inl rfl) (de_lst z7))
      (z8 (zo co.po co.calm (di_val (de_callB (cd_sortF co.hu5) (by rfl) T.z_sorted (by decide +kernel) (z4 (zc (d_met_from T) (co.hr.mono (by first | decide | omega)) co.px (by rfl) T.g_met_from (z4 (zf (z3 0) z9) (z4 z9 z7))) z7))) (ze (i := 2) co.nd rfl (Or.inl rfl)) (za (zo co.po co.calm (di_range1 (by rfl) T.z_range (de_callB cd_len (by rfl) T.z_len (by decide +kernel) (z4 (zf (zf (z3 0) z9) (z3 2)) z7))) (ze (i := 3) co.nd rfl (Or.inl rfl)) (z8 (ds_expr (de_bm PySem.F.plainAttrs_list PySem.F.slot_list_append PySem.F.type_list_append md_append (z3 1) (z4 (de_tup (z4 (z3 2) (z4 (z3 3) (z4 de_non z7)))) z7)))
      (za (zo co.po co.calm (di_range1 (by rfl) T.z_range (de_callB cd_len (by rfl) T.z_len (by decide +kernel) (z4 (zf (z3 0) z9) z7))) (ze (i := 4) co.nd rfl (Or.inl rfl)) (za (ds_if (dt_bool (dw_and (zp (op_neDD co.hu) (z3 4) (zf (zf (zf (zf (z3 0) z9) (z3 2)) (z3 3)) z9) (nomark _)) (dw_and1 (zp op_isNotD (zc (d_finding T) (co.hr.mono (by first | decide | omega)) co.px (by rfl) T.g_finding (z4 (z3 0) (z4 (de_tup (z4 (z3 2) (z4 (z3 3) (z4 (z3 4) z7)))) z7))) de_non (nomark _))))) (za (ds_expr (de_bm PySem.F.plainAttrs_list PySem.F.slot_list_append PySem.F.type_list_append md_append (z3 1) (z4 (de_tup (z4 (z3 2) (z4 (z3 3) (z4 (z3 4) z7)))) z7)))) dss_nil))))))))
      (za (zi (de_frz (z3 1)))))))).cut
noncomputable def b_number_of : Sl → Sto → Res Fl :=
  (sSeq (sAsg (dC (.int 0)) (gVar 1))
  (sSeq (sFor (iVal (dVar 0)) (gVar 2) (sAsg (d2 addD (d2 mulD (dC (.int 2)) (dVar 1)) (dCall intD (dCons (dVar 2) dNil))) (gVar 1)))
  (sRet (dVar 1))))
noncomputable def F_number_of : List D → Sto → Res D := cutF (dFn 3 b_number_of)
theorem d_number_of (T : Tx K mg w) : FnD P w (cl K w) K mg base 1 (He.ga K "number_of") 1 F_number_of := by
  obtain ⟨fd, Fu⟩ := T.f_number_of
  exact (fnD_of Fu sc_number_of (fun _ _ _ _ _ _ us hl => match us, hl with | [_], _ => rfl) (fun cdv A outer s H E co =>
      (z8 (zg (i := 1) co.nd rfl (Or.inl rfl) z9)
      (z8 (zo co.po co.calm (di_val (z3 0)) (ze (i := 2) co.nd rfl (Or.inl rfl)) (za (zg (i := 1) co.nd rfl (Or.inl rfl) (zl op_addD (zl op_mulD z9 (z3 1)) (de_callTy cd_int (by rfl) T.z_int (by decide +kernel) (z4 (z3 2) z7))))))
      (za (zi (z3 1))))))).cut
noncomputable def b_is_gone : Sl → Sto → Res Fl :=
  (sSeq (sFor (iVal (dVar 1)) (gVar 4) (sSeq (sAsg (dC (.int 0)) (gVar 5))
  (sFor (iVal (dVar 4)) (gVar 6) (sSeq (sIf (tAndD (d2T eqD (dVar 5) (dVar 2)) (d2T eqD (dCallF 1 F_number_of (dCons (dVar 6) dNil)) (dVar 3))) (sRet (dC (.bl true))) sNext)
  (sAsg (d2 ixD (d2 ixD (d2 ixD (d2 ixD (dVar 0) (dC (.int 2))) (dVar 5)) (dCallF 1 F_number_of (dCons (dVar 6) dNil))) (dC (.int 1))) (gVar 5))))))
  (sRet (dC (.bl false))))
noncomputable def F_is_gone : List D → Sto → Res D := cutF (dFn 7 b_is_gone)
theorem d_is_gone (T : Tx K mg w) : FnD P w (cl K w) K mg base 2 (He.ga K "is_gone") 4 F_is_gone := by
  obtain ⟨fd, Fu⟩ := T.f_is_gone
  exact (fnD_of Fu sc_is_gone (fun _ _ _ _ _ _ us hl => match us, hl with | [_, _, _, _], _ => rfl) (fun cdv A outer s H E co =>
      (z8 (zo co.po co.calm (di_val (z3 1)) (ze (i := 4) co.nd rfl (Or.inl rfl)) (z8 (zg (i := 5) co.nd rfl (Or.inl rfl) z9)
      (za (zo co.po co.calm (di_val (z3 4)) (ze (i := 6) co.nd rfl (Or.inl rfl)) (z8 (ds_if (dt_bool (dw_and (zp (op_eqDD co.hu) (z3 5) (z3 2) (nomark _)) (dw_and1 (zp (op_eqDD co.hu) (zc (d_number_of T) (co.hr.mono (by first | decide | omega)) co.px (by rfl) T.g_number_of (z4 (z3 6) z7)) (z3 3) (nomark _))))) (za (zi de_bl)) dss_nil)
      (za (zg (i := 5) co.nd rfl (Or.inl rfl) (zf (zf (zf (zf (z3 0) z9) (z3 5)) (zc (d_number_of T) (co.hr.mono (by first | decide | omega)) co.px (by rfl) T.g_number_of (z4 (z3 6) z7))) z9))))))))
      (za (zi de_bl))))).cut
noncomputable def b_deeds_of : Sl → Sto → Res Fl :=
  (sSeq (sAsg (dC (.int 0)) (gVar 2))
  (sSeq (sAsg (dLst dNil) (gVar 3))
  (sSeq (sFor (iVal (dVar 1)) (gVar 4) (sSeq (sAsg (d2 ixD (d2 ixD (d2 ixD (dVar 0) (dC (.int 2))) (dVar 2)) (dCallF 1 F_number_of (dCons (dVar 4) dNil))) (gTupD 2 (gsCons (gVar 5) (gsCons (gVar 2) gsNil))))
  (sExpr (dBm "list" appendD (dVar 3) (dCons (dVar 5) dNil)))))
  (sRet (dFrz (dVar 3))))))
noncomputable def F_deeds_of : List D → Sto → Res D := cutF (dFn 6 b_deeds_of)
theorem d_deeds_of (T : Tx K mg w) : FnD P w (cl K w) K mg base 2 (He.ga K "deeds_of") 2 F_deeds_of := by
  obtain ⟨fd, Fu⟩ := T.f_deeds_of
  exact (fnD_of Fu sc_deeds_of (fun _ _ _ _ _ _ us hl => match us, hl with | [_, _], _ => rfl) (fun cdv A outer s H E co =>
      (z8 (zg (i := 2) co.nd rfl (Or.inl rfl) z9)
      (z8 (zg (i := 3) co.nd rfl (Or.inl rfl) (de_lst z7))
      (z8 (zo co.po co.calm (di_val (z3 1)) (ze (i := 4) co.nd rfl (Or.inl rfl)) (z8 (ds_asg (zf (zf (zf (z3 0) z9) (z3 2)) (zc (d_number_of T) (co.hr.mono (by first | decide | omega)) co.px (by rfl) T.g_number_of (z4 (z3 4) z7))) (dg_tup co.calm (zh (ze (i := 5) co.nd rfl (Or.inl rfl)) (zh (ze (i := 2) co.nd rfl (Or.inl rfl)) dgs_nil))))
      (za (ds_expr (de_bm PySem.F.plainAttrs_list PySem.F.slot_list_append PySem.F.type_list_append md_append (z3 3) (z4 (z3 5) z7))))))
      (za (zi (de_frz (z3 3))))))))).cut
noncomputable def b_is_found : Sl → Sto → Res Fl :=
  (sSeq (sAsg (dVar 2) (gTupD 3 (gsCons (gVar 4) (gsCons (gVar 5) (gsCons (gVar 6) gsNil)))))
  (sSeq (sIf (d2T isD (dVar 6) (dC .non)) (sRet (dCallF 4 F_is_gone (dCons (dVar 0) (dCons (dVar 1) (dCons (dVar 4) (dCons (dVar 5) dNil)))))) sNext)
  (sSeq (sAsg (dCallF 4 F_changed (dCons (dVar 0) (dCons (dVar 4) (dCons (dVar 5) (dCons (dVar 6) dNil))))) (gVar 3))
  (sRet (d2 neD (dFrz (dComp [7] (iVal (dVar 1)) (gVar 7) (d2T neD (dCallF 2 F_deeds_of (dCons (dVar 0) (dCons (dVar 7) dNil))) (dCallF 2 F_deeds_of (dCons (dVar 3) (dCons (dVar 7) dNil)))) (dVar 7))) (dLstF dNil))))))
noncomputable def F_is_found : List D → Sto → Res D := cutF (dFn 8 b_is_found)
theorem d_is_found (T : Tx K mg w) : FnD P w (cl K w) K mg base 3 (He.ga K "is_found") 3 F_is_found := by
  obtain ⟨fd, Fu⟩ := T.f_is_found
  exact (fnD_of Fu sc_is_found (fun _ _ _ _ _ _ us hl => match us, hl with | [_, _, _], _ => rfl) (fun cdv A outer s H E co =>
      (z8 (ds_asg (z3 2) (dg_tup co.calm (zh (ze (i := 4) co.nd rfl (Or.inl rfl)) (zh (ze (i := 5) co.nd rfl (Or.inl rfl)) (zh (ze (i := 6) co.nd rfl (Or.inl rfl)) dgs_nil)))))
      (z8 (ds_if (zp op_isD (z3 6) de_non (nomark _)) (za (zi (zc (d_is_gone T) (co.hr.mono (by first | decide | omega)) co.px (by rfl) T.g_is_gone (z4 (z3 0) (z4 (z3 1) (z4 (z3 4) (z4 (z3 5) z7))))))) dss_nil)
      (z8 (zg (i := 3) co.nd rfl (Or.inr rfl) (zc (d_changed T) (co.hr.mono (by first | decide | omega)) co.px (by rfl) T.g_changed (z4 (z3 0) (z4 (z3 4) (z4 (z3 5) (z4 (z3 6) z7))))))
      (za (zi (de_cmp (op_neDD co.hu) (de_frz (de_comp (own := [("row", 7)]) co.calm co.nd (di_val (z3 1)) (blkOk_by (by kernel_rfl)) (fun _ _ _ _ _ => (dgw_name (i := 7) (by decide) (co.blk _ _ _ _ _).nd rfl (Or.inl rfl))) (fun _ _ _ _ _ => (dts_one (zp (op_neDD (co.blk _ _ _ _ _).hu) (zc (d_deeds_of T) ((co.blk _ _ _ _ _).hr.mono (by first | decide | omega)) (co.blk _ _ _ _ _).px (by rfl) T.g_deeds_of (z4 (z3 0) (z4 (z3 7) z7))) (zc (d_deeds_of T) ((co.blk _ _ _ _ _).hr.mono (by first | decide | omega)) (co.blk _ _ _ _ _).px (by rfl) T.g_deeds_of (z4 (z3 3) (z4 (z3 7) z7))) (nomark _)))) (fun _ _ _ _ _ => (z3 7)))) (zj z7) (nomark _))))))))).cut
noncomputable def br_lean : Sl → Sto → Res Fl :=
  (sSeq (sExpr (dCallF 2 F_need_tests (dCons (dVar 0) (dCons (dVar 1) dNil))))
  (sSeq (sAsg (dFrz (dComp [6] (iVal (dCallF 1 F_all_wrong (dCons (dVar 0) dNil))) (gVar 6) (tstB (dCallF 3 F_is_found (dCons (dVar 0) (dCons (dVar 1) (dCons (dVar 6) dNil))))) (dVar 6))) (gVar 2))
  (sSeq (sAsg (dCall listF (dCons (dVar 1) dNil)) (gVar 3))
  (sSeq (sFor (iRngD3 (d2 subD (dCall lenD (dCons (dVar 1) dNil)) (dC (.int 1))) (dNeg (dC (.int 1))) (dNeg (dC (.int 1)))) (gVar 4) (sSeq (sAsg (d2 addF (dSliceF (dVar 3) oNone (oSome (dVar 4))) (dSliceF (dVar 3) (oSome (d2 addD (dVar 4) (dC (.int 1)))) oNone)) (gVar 5))
  (sIf (d2T eqD (dFrz (dComp [6] (iVal (dVar 2)) (gVar 6) (tNotD (tstB (dCallF 3 F_is_found (dCons (dVar 0) (dCons (dVar 5) (dCons (dVar 6) dNil)))))) (dVar 6))) (dLstF dNil)) (sAsg (dVar 5) (gVar 3)) sNext)))
  (sRet (dComp [7] (iVal (dVar 3)) (gVar 7) tYesD (dCall listD (dCons (dVar 7) dNil))))))))
noncomputable def Fr_lean : List D → Sto → Res D := cutF (dFn 8 br_lean)
theorem dr_lean (T : Tx K mg w) : FnD P w (cl K w) K mg base 6 (He.ga K "lean") 2 Fr_lean := by
  obtain ⟨fd, Fu⟩ := T.f_lean
  exact (fnD_of Fu sc_lean (fun _ _ _ _ _ _ us hl => match us, hl with | [_, _], _ => rfl) (fun cdv A outer s H E co =>
      (z8 (ds_expr (zc (d_need_tests T) (co.hr.mono (by first | decide | omega)) co.px (by rfl) T.g_need_tests (z4 (z3 0) (z4 (z3 1) z7))))
      (z8 (ds_compF (i := 2) (own := [("wrong", 6)]) co.calm co.nd rfl rfl (sw_true rfl rfl rfl (by decide +kernel)) (di_val (zc (d_all_wrong T) (co.hr.mono (by first | decide | omega)) co.px (by rfl) T.g_all_wrong (z4 (z3 0) z7))) (blkOk_by (by kernel_rfl)) (fun _ _ _ _ _ => (dgw_name (i := 6) (by decide) (co.blk _ _ _ _ _).nd rfl (Or.inl rfl))) (fun _ _ _ _ _ => (dts_one (dt_val (zc (d_is_found T) ((co.blk _ _ _ _ _).hr.mono (by first | decide | omega)) (co.blk _ _ _ _ _).px (by rfl) T.g_is_found (z4 (z3 0) (z4 (z3 1) (z4 (z3 6) z7))))))) (fun _ _ _ _ _ => (z3 6)))
      (z8 (zg (i := 3) co.nd rfl (Or.inl rfl) (de_callTy cd_listF (by rfl) T.z_list (by decide +kernel) (z4 (z3 1) z7)))
      (z8 (zo co.po co.calm (di_range3 (by rfl) T.z_range (zl op_subD (de_callB cd_len (by rfl) T.z_len (by decide +kernel) (z4 (z3 1) z7)) z9) (de_neg z9) (de_neg z9)) (ze (i := 4) co.nd rfl (Or.inl rfl)) (z8 (zg (i := 5) co.nd rfl (Or.inr rfl) (zl op_addF (de_sliceF (z3 3) dpo_none (dpo_some (z3 4))) (de_sliceF (z3 3) (dpo_some (zl op_addD (z3 4) z9)) dpo_none)))
      (za (ds_if (zp (op_eqDD co.hu) (de_frz (de_comp (own := [("wrong", 6)]) co.calm co.nd (di_val (z3 2)) (blkOk_by (by kernel_rfl)) (fun _ _ _ _ _ => (dgw_name (i := 6) (by decide) (co.blk _ _ _ _ _).nd rfl (Or.inl rfl))) (fun _ _ _ _ _ => (dts_one (dt_not (dt_val (zc (d_is_found T) ((co.blk _ _ _ _ _).hr.mono (by first | decide | omega)) (co.blk _ _ _ _ _).px (by rfl) T.g_is_found (z4 (z3 0) (z4 (z3 5) (z4 (z3 6) z7)))))))) (fun _ _ _ _ _ => (z3 6)))) (zj z7) (nomark _)) (za (zg (i := 3) co.nd rfl (Or.inl rfl) (z3 5))) dss_nil))))
      (za (zi (de_comp (own := [("row", 7)]) co.calm co.nd (di_val (z3 3)) (blkOk_by (by kernel_rfl)) (fun _ _ _ _ _ => (dgw_name (i := 7) (by decide) (co.blk _ _ _ _ _).nd rfl (Or.inl rfl))) (fun _ _ _ _ _ => dts_nil) (fun _ _ _ _ _ => (de_callTy cd_list (by rfl) T.z_list (by decide +kernel) (z4 (z3 7) z7)))))))))))).cut
noncomputable def b__law_same (Frec : List D → Sto → Res D) : Sl → Sto → Res Fl :=
  (sSeq (sIf (tstB (dIsi ["tuple", "list"] (dVar 1))) (sSeq (sIf (tOrD (tNotD (tstB (dIsi ["tuple", "list"] (dVar 0)))) (d2T neD (dIsi ["list"] (dVar 0)) (dIsi ["list"] (dVar 1)))) (sRet (dC (.bl false))) sNext)
  (sSeq (sIf (d2T neD (dCall lenD (dCons (dVar 0) dNil)) (dCall lenD (dCons (dVar 1) dNil))) (sRet (dC (.bl false))) sNext)
  (sRet (d2 eqD (dFrz (dComp [2] (iRngD1 (dCall lenD (dCons (dVar 1) dNil))) (gVar 2) (tNotD (tstB (dCallF 2 Frec (dCons (d2 ixD (dVar 0) (dVar 2)) (dCons (d2 ixD (dVar 1) (dVar 2)) dNil))))) (dVar 2))) (dLstF dNil))))) sNext)
  (sSeq (sIf (d2T isD (dVar 1) (dC .non)) (sRet (d2 isD (dVar 0) (dC .non))) sNext)
  (sSeq (sIf (tstB (dIsi ["str"] (dVar 1))) (sRet (dAnd (dIsi ["str"] (dVar 0)) (d2 eqD (dVar 0) (dVar 1)))) sNext)
  (sSeq (sIf (tOrD (tstB (dIsi ["bool"] (dVar 1))) (tstB (dIsi ["bool"] (dVar 0)))) (sRet (dAnd (dIsi ["bool"] (dVar 1)) (dAnd (dIsi ["bool"] (dVar 0)) (d2 eqD (dVar 0) (dVar 1))))) sNext)
  (sRet (dAnd (dIsi ["int"] (dVar 0)) (d2 eqD (dVar 0) (dVar 1))))))))
noncomputable def F__law_same : Nat → List D → Sto → Res D
  | 0 => fun _ _ => .stuck
  | n + 1 => cutF (dFn 3 (b__law_same (F__law_same n)))
theorem d__law_same (T : Tx K mg w) : ∀ n : Nat, FnD P w (cl K w) K mg base (1 + n) (He.ga K "_law_same") 2 (F__law_same n)
  | 0 => by
    obtain ⟨fd, Fu⟩ := T.f__law_same
    exact fnD_stuck Fu (ps := ["_law_found", "_law_due"]) (fun _ _ _ _ _ _ us hl => match us, hl with | [_, _], _ => rfl)
  | n + 1 => by
    have hrec := d__law_same T n
    obtain ⟨fd, Fu⟩ := T.f__law_same
    exact (fnD_of (k := 1 + n) Fu sc__law_same (fun _ _ _ _ _ _ us hl => match us, hl with | [_, _], _ => rfl) (fun cdv A outer s H E co =>
      (z8 (ds_if (dt_val (de_isi2 (by rfl) T.z_isinstance (z3 1) (by rfl) T.z_tuple (by rfl) (by decide +kernel) (by rfl) T.z_list (by rfl) (by decide +kernel))) (z8 (ds_if (dt_bool (dw_or (dt_not (dt_val (de_isi2 (by rfl) T.z_isinstance (z3 0) (by rfl) T.z_tuple (by rfl) (by decide +kernel) (by rfl) T.z_list (by rfl) (by decide +kernel)))) (dw_or1 (zp (op_neDD co.hu) (de_isi (by rfl) T.z_isinstance (z3 0) (by rfl) T.z_list (by rfl) (by decide +kernel)) (de_isi (by rfl) T.z_isinstance (z3 1) (by rfl) T.z_list (by rfl) (by decide +kernel)) (nomark _))))) (za (zi de_bl)) dss_nil)
      (z8 (ds_if (zp (op_neDD co.hu) (de_callB cd_len (by rfl) T.z_len (by decide +kernel) (z4 (z3 0) z7)) (de_callB cd_len (by rfl) T.z_len (by decide +kernel) (z4 (z3 1) z7)) (nomark _)) (za (zi de_bl)) dss_nil)
      (za (zi (de_cmp (op_eqDD co.hu) (de_frz (de_comp (own := [("_law_k", 2)]) co.calm co.nd (di_range1 (by rfl) T.z_range (de_callB cd_len (by rfl) T.z_len (by decide +kernel) (z4 (z3 1) z7))) (blkOk_by (by kernel_rfl)) (fun _ _ _ _ _ => (dgw_name (i := 2) (by decide) (co.blk _ _ _ _ _).nd rfl (Or.inl rfl))) (fun _ _ _ _ _ => (dts_one (dt_not (dt_val (zc hrec ((co.blk _ _ _ _ _).hr.mono (by omega)) (co.blk _ _ _ _ _).px (by rfl) T.g__law_same (z4 (zf (z3 0) (z3 2)) (z4 (zf (z3 1) (z3 2)) z7))))))) (fun _ _ _ _ _ => (z3 2)))) (zj z7) (nomark _)))))) dss_nil)
      (z8 (ds_if (zp op_isD (z3 1) de_non (nomark _)) (za (zi (de_cmp op_isD (z3 0) de_non (nomark _)))) dss_nil)
      (z8 (ds_if (dt_val (de_isi (by rfl) T.z_isinstance (z3 1) (by rfl) T.z_str (by rfl) (by decide +kernel))) (za (zi (de_and (de_isi (by rfl) T.z_isinstance (z3 0) (by rfl) T.z_str (by rfl) (by decide +kernel)) (de_one (de_cmp (op_eqDD co.hu) (z3 0) (z3 1) (nomark _)))))) dss_nil)
      (z8 (ds_if (dt_bool (dw_or (dt_val (de_isi (by rfl) T.z_isinstance (z3 1) (by rfl) T.z_bool (by rfl) (by decide +kernel))) (dw_or1 (dt_val (de_isi (by rfl) T.z_isinstance (z3 0) (by rfl) T.z_bool (by rfl) (by decide +kernel)))))) (za (zi (de_and (de_isi (by rfl) T.z_isinstance (z3 1) (by rfl) T.z_bool (by rfl) (by decide +kernel)) (de_and (de_isi (by rfl) T.z_isinstance (z3 0) (by rfl) T.z_bool (by rfl) (by decide +kernel)) (de_one (de_cmp (op_eqDD co.hu) (z3 0) (z3 1) (nomark _))))))) dss_nil)
      (za (zi (de_and (de_isi (by rfl) T.z_isinstance (z3 0) (by rfl) T.z_int (by rfl) (by decide +kernel)) (de_one (de_cmp (op_eqDD co.hu) (z3 0) (z3 1) (nomark _)))))))))))).cut
noncomputable def b__law_lean : Sl → Sto → Res Fl :=
  (sSeq (sAsg (dFrz (dComp [7] (iVal (dVar 2)) (gVar 7) (tstB (dCallF 3 F__law_finds (dCons (dVar 0) (dCons (dVar 1) (dCons (dVar 7) dNil))))) (dVar 7))) (gVar 3))
  (sSeq (sAsg (dCall listF (dCons (dVar 1) dNil)) (gVar 4))
  (sSeq (sFor (iRevD (dFrz (dLstR1 (dCall lenD (dCons (dVar 1) dNil))))) (gVar 5) (sSeq (sAsg (d2 addF (dSliceF (dVar 4) oNone (oSome (dVar 5))) (dSliceF (dVar 4) (oSome (d2 addD (dVar 5) (dC (.int 1)))) oNone)) (gVar 6))
  (sIf (d2T eqD (dFrz (dComp [7] (iVal (dVar 3)) (gVar 7) (tNotD (tstB (dCallF 3 F__law_finds (dCons (dVar 0) (dCons (dVar 6) (dCons (dVar 7) dNil)))))) (dVar 7))) (dLstF dNil)) (sAsg (dVar 6) (gVar 4)) sNext)))
  (sRet (dVar 4)))))
noncomputable def F__law_lean : List D → Sto → Res D := cutF (dFn 8 b__law_lean)
theorem d__law_lean (T : Tx K mg w) : FnD P w (cl K w) K mg base 45 (He.ga K "_law_lean") 3 F__law_lean := by
  obtain ⟨fd, Fu⟩ := T.f__law_lean
  exact (fnD_of Fu sc__law_lean (fun _ _ _ _ _ _ us hl => match us, hl with | [_, _, _], _ => rfl) (fun cdv A outer s H E co =>
      (z8 (ds_compF (i := 3) (own := [("_law_wrong_here", 7)]) co.calm co.nd rfl rfl (sw_true rfl rfl rfl (by decide +kernel)) (di_val (z3 2)) (blkOk_by (by kernel_rfl)) (fun _ _ _ _ _ => (dgw_name (i := 7) (by decide) (co.blk _ _ _ _ _).nd rfl (Or.inl rfl))) (fun _ _ _ _ _ => (dts_one (dt_val (zc (d__law_finds T) ((co.blk _ _ _ _ _).hr.mono (by first | decide | omega)) (co.blk _ _ _ _ _).px (by rfl) T.g__law_finds (z4 (z3 0) (z4 (z3 1) (z4 (z3 7) z7))))))) (fun _ _ _ _ _ => (z3 7)))
      (z8 (zg (i := 4) co.nd rfl (Or.inl rfl) (de_callTy cd_listF (by rfl) T.z_list (by decide +kernel) (z4 (z3 1) z7)))
      (z8 (zo co.po co.calm (di_rev (by rfl) T.z_reversed (de_frz (de_lstR1 co.calm (by rfl) T.z_list (by rfl) T.z_range (de_callB cd_len (by rfl) T.z_len (by decide +kernel) (z4 (z3 1) z7))))) (ze (i := 5) co.nd rfl (Or.inl rfl)) (z8 (zg (i := 6) co.nd rfl (Or.inr rfl) (zl op_addF (de_sliceF (z3 4) dpo_none (dpo_some (z3 5))) (de_sliceF (z3 4) (dpo_some (zl op_addD (z3 5) z9)) dpo_none)))
      (za (ds_if (zp (op_eqDD co.hu) (de_frz (de_comp (own := [("_law_wrong_here", 7)]) co.calm co.nd (di_val (z3 3)) (blkOk_by (by kernel_rfl)) (fun _ _ _ _ _ => (dgw_name (i := 7) (by decide) (co.blk _ _ _ _ _).nd rfl (Or.inl rfl))) (fun _ _ _ _ _ => (dts_one (dt_not (dt_val (zc (d__law_finds T) ((co.blk _ _ _ _ _).hr.mono (by first | decide | omega)) (co.blk _ _ _ _ _).px (by rfl) T.g__law_finds (z4 (z3 0) (z4 (z3 6) (z4 (z3 7) z7)))))))) (fun _ _ _ _ _ => (z3 7)))) (zj z7) (nomark _)) (za (zg (i := 4) co.nd rfl (Or.inl rfl) (z3 6))) dss_nil))))
      (za (zi (z3 4)))))))).cut
noncomputable def br_row_between : Sl → Sto → Res Fl :=
  (sSeq (sAsg (dCallF 1 F_all_beats (dCons (dVar 0) dNil)) (gVar 5))
  (sSeq (sAsg (dLstF (dCons (dTup (dCons (dTup (dCons (dVar 3) (dCons (dVar 4) dNil))) (dCons (dLstF dNil) dNil))) dNil)) (gVar 6))
  (sSeq (sAsg (dDispN (dTup (dCons (dVar 3) (dCons (dVar 4) dNil))) (dC (.bl true))) (gVar 7))
  (sSeq (whileD (d2T neD (dVar 6) (dLstF dNil)) (sSeq (sAsg (dLst dNil) (gVar 8))
  (sSeq (sFor (iVal (dVar 6)) (gTupD 2 (gsCons (gTupD 2 (gsCons (gVar 10) (gsCons (gVar 11) gsNil))) (gsCons (gVar 9) gsNil))) (sFor (iEnumD (dVar 5)) (gTupD 2 (gsCons (gVar 12) (gsCons (gVar 13) gsNil))) (sSeq (sPar 15 16 (dCons (d2 ixD (d2 ixD (dVar 1) (dVar 10)) (dVar 12)) (dCons (d2 ixD (d2 ixD (dVar 2) (dVar 11)) (dVar 12)) dNil)))
  (sSeq (sIf (d2T neD (d2 ixD (dVar 15) (dC (.int 0))) (d2 ixD (dVar 16) (dC (.int 0)))) (sRet (d2 addD (dVar 9) (dLstF (dCons (dVar 13) dNil)))) sNext)
  (sSeq (sAsg (dTup (dCons (d2 ixD (dVar 15) (dC (.int 1))) (dCons (d2 ixD (dVar 16) (dC (.int 1))) dNil))) (gVar 14))
  (sIf (d2T notInDicN (dVar 14) (dVar 7)) (sSeq (sAsg (dC (.bl true)) (gSubD setDicN (dVar 7) (dVar 14)))
  (sExpr (dBm "list" appendD (dVar 8) (dCons (dTup (dCons (dVar 14) (dCons (d2 addF (dVar 9) (dLstF (dCons (dVar 13) dNil))) dNil))) dNil)))) sNext))))))
  (sAsg (dFrz (dVar 8)) (gVar 6)))) fuelW)
  (sRet (dC .non))))))
noncomputable def Fr_row_between : List D → Sto → Res D := cutF (dFn 17 br_row_between)
theorem dr_row_between (T : Tx K mg w) : FnD P w (cl K w) K mg base 2 (He.ga K "row_between") 5 Fr_row_between := by
  obtain ⟨fd, Fu⟩ := T.f_row_between
  exact (fnD_of Fu sc_row_between (fun _ _ _ _ _ _ us hl => match us, hl with | [_, _, _, _, _], _ => rfl) (fun cdv A outer s H E co =>
      (z8 (zg (i := 5) co.nd rfl (Or.inl rfl) (zc (d_all_beats T) (co.hr.mono (by first | decide | omega)) co.px (by rfl) T.g_all_beats (z4 (z3 0) z7)))
      (z8 (zg (i := 6) co.nd rfl (Or.inl rfl) (zj (z4 (de_tup (z4 (de_tup (z4 (z3 3) (z4 (z3 4) z7))) (z4 (zj z7) z7))) z7)))
      (z8 (zg (i := 7) co.nd rfl (Or.inl rfl) (de_dispN co.hu5 rfl (de_tup (z4 (z3 3) (z4 (z3 4) z7))) de_bl))
      (z8 (ds_while fuelW co.po (zp (op_neDD co.hu) (z3 6) (zj z7) (nomark _)) (z8 (zg (i := 8) co.nd rfl (Or.inl rfl) (de_lst z7))
      (z8 (zo co.po co.calm (di_val (z3 6)) (dg_tup co.calm (zh (dg_tup co.calm (zh (ze (i := 10) co.nd rfl (Or.inl rfl)) (zh (ze (i := 11) co.nd rfl (Or.inl rfl)) dgs_nil))) (zh (ze (i := 9) co.nd rfl (Or.inl rfl)) dgs_nil))) (za (zo co.po co.calm (di_enum (by rfl) T.z_enumerate (z3 5)) (dg_tup co.calm (zh (ze (i := 12) co.nd rfl (Or.inl rfl)) (zh (ze (i := 13) co.nd rfl (Or.inl rfl)) dgs_nil))) (z8 (ds_par (i := 15) (j := 16) co.calm co.nd rfl rfl (by decide) rfl rfl (z4 (zf (zf (z3 1) (z3 10)) (z3 12)) (z4 (zf (zf (z3 2) (z3 11)) (z3 12)) z7)))
      (z8 (ds_if (zp (op_neDD co.hu) (zf (z3 15) z9) (zf (z3 16) z9) (nomark _)) (za (zi (zl op_addD (z3 9) (zj (z4 (z3 13) z7))))) dss_nil)
      (z8 (zg (i := 14) co.nd rfl (Or.inl rfl) (de_tup (z4 (zf (z3 15) z9) (z4 (zf (z3 16) z9) z7))))
      (za (ds_if (zp (op_notInDicN co.hu5 rfl) (z3 14) (z3 7)) (z8 (ds_asg de_bl (dg_sub (z3 7) (z3 14) (set_dicN co.hu5 rfl)))
      (za (ds_expr (de_bm PySem.F.plainAttrs_list PySem.F.slot_list_append PySem.F.type_list_append md_append (z3 8) (z4 (de_tup (z4 (z3 14) (z4 (zl op_addF (z3 9) (zj (z4 (z3 13) z7))) z7))) z7))))) dss_nil))))))))
      (za (zg (i := 6) co.nd rfl (Or.inl rfl) (de_frz (z3 8)))))))
      (za (zi de_non)))))))).cut
noncomputable def br_finding : Sl → Sto → Res Fl :=
  (sSeq (sAsg (dVar 1) (gTupD 3 (gsCons (gVar 2) (gsCons (gVar 3) (gsCons (gVar 4) gsNil)))))
  (sSeq (sIf (d2T isD (dVar 4) (dC .non)) (sRet (d2 addD (dCallF 2 F_road_to (dCons (dVar 0) (dCons (dVar 2) dNil))) (dLstF (dCons (d2 ixD (dCallF 1 F_all_beats (dCons (d2 ixD (dVar 0) (dC (.int 0))) dNil)) (dVar 3)) dNil)))) sNext)
  (sRet (dCallF 5 Fr_row_between (dCons (d2 ixD (dVar 0) (dC (.int 0))) (dCons (d2 ixD (dVar 0) (dC (.int 2))) (dCons (d2 ixD (dCallF 4 F_changed (dCons (dVar 0) (dCons (dVar 2) (dCons (dVar 3) (dCons (dVar 4) dNil))))) (dC (.int 2))) (dCons (dC (.int 0)) (dCons (dC (.int 0)) dNil)))))))))
noncomputable def Fr_finding : List D → Sto → Res D := cutF (dFn 5 br_finding)
theorem dr_finding (T : Tx K mg w) : FnD P w (cl K w) K mg base 3 (He.ga K "finding") 2 Fr_finding := by
  obtain ⟨fd, Fu⟩ := T.f_finding
  exact (fnD_of Fu sc_finding (fun _ _ _ _ _ _ us hl => match us, hl with | [_, _], _ => rfl) (fun cdv A outer s H E co =>
      (z8 (ds_asg (z3 1) (dg_tup co.calm (zh (ze (i := 2) co.nd rfl (Or.inl rfl)) (zh (ze (i := 3) co.nd rfl (Or.inl rfl)) (zh (ze (i := 4) co.nd rfl (Or.inl rfl)) dgs_nil)))))
      (z8 (ds_if (zp op_isD (z3 4) de_non (nomark _)) (za (zi (zl op_addD (zc (d_road_to T) (co.hr.mono (by first | decide | omega)) co.px (by rfl) T.g_road_to (z4 (z3 0) (z4 (z3 2) z7))) (zj (z4 (zf (zc (d_all_beats T) (co.hr.mono (by first | decide | omega)) co.px (by rfl) T.g_all_beats (z4 (zf (z3 0) z9) z7)) (z3 3)) z7))))) dss_nil)
      (za (zi (zc (dr_row_between T) (co.hr.mono (by first | decide | omega)) co.px (by rfl) T.g_row_between (z4 (zf (z3 0) z9) (z4 (zf (z3 0) z9) (z4 (zf (zc (d_changed T) (co.hr.mono (by first | decide | omega)) co.px (by rfl) T.g_changed (z4 (z3 0) (z4 (z3 2) (z4 (z3 3) (z4 (z3 4) z7))))) z9) (z4 z9 (z4 z9 z7)))))))))))).cut
noncomputable def br_checks : Sl → Sto → Res Fl :=
  (sSeq (sExpr (dCallF 2 F_need_few (dCons (dVar 0) (dCons (dC (.int 6)) dNil))))
  (sSeq (sAsg (dLst dNil) (gVar 1))
  (sSeq (sFor (iVal (dCallF 1 F_all_wrong (dCons (dVar 0) dNil))) (gVar 2) (sIf (tNotD (tstB (dCallF 3 F_is_found (dCons (dVar 0) (dCons (dVar 1) (dCons (dVar 2) dNil)))))) (sExpr (dBm "list" appendD (dVar 1) (dCons (dCallF 2 Fr_finding (dCons (dVar 0) (dCons (dVar 2) dNil))) dNil))) sNext))
  (sRet (dVar 1)))))
noncomputable def Fr_checks : List D → Sto → Res D := cutF (dFn 3 br_checks)
theorem dr_checks (T : Tx K mg w) : FnD P w (cl K w) K mg base 5 (He.ga K "checks") 1 Fr_checks := by
  obtain ⟨fd, Fu⟩ := T.f_checks
  exact (fnD_of Fu sc_checks (fun _ _ _ _ _ _ us hl => match us, hl with | [_], _ => rfl) (fun cdv A outer s H E co =>
      (z8 (ds_expr (zc (d_need_few T) (co.hr.mono (by first | decide | omega)) co.px (by rfl) T.g_need_few (z4 (z3 0) (z4 (de_con T.k_SMALL (by rfl)) z7))))
      (z8 (zg (i := 1) co.nd rfl (Or.inl rfl) (de_lst z7))
      (z8 (zo co.po co.calm (di_val (zc (d_all_wrong T) (co.hr.mono (by first | decide | omega)) co.px (by rfl) T.g_all_wrong (z4 (z3 0) z7))) (ze (i := 2) co.nd rfl (Or.inl rfl)) (za (ds_if (dt_not (dt_val (zc (d_is_found T) (co.hr.mono (by first | decide | omega)) co.px (by rfl) T.g_is_found (z4 (z3 0) (z4 (z3 1) (z4 (z3 2) z7)))))) (za (ds_expr (de_bm PySem.F.plainAttrs_list PySem.F.slot_list_append PySem.F.type_list_append md_append (z3 1) (z4 (zc (dr_finding T) (co.hr.mono (by first | decide | omega)) co.px (by rfl) T.g_finding (z4 (z3 0) (z4 (z3 2) z7))) z7)))) dss_nil)))
      (za (zi (z3 1)))))))).cut
noncomputable def b_law : Sl → Sto → Res Fl :=
  (sSeq (sAsg (dCallF 1 Fr__law_start (dCons (dFrz (dVar 0)) dNil)) (gVar 1))
  (sSeq (sFor (iVal (d2 ixD (dLstF (dCons (dLstF (dCons (dC (.int 0)) (dCons (dC (.int 2)) dNil))) (dCons (dLstF (dCons (dC (.int 1)) (dCons (dC (.int 2)) dNil))) (dCons (dLstF (dCons (dC (.int 2)) dNil)) dNil)))) (dCallF 2 F__law_drawn (dCons (dVar 1) (dCons (dC (.int 3)) dNil))))) (gVar 2) (sSeq (sAsg (dCallF 3 F__law_plain (dCons (dVar 1) (dCons (d2 ixD (dLstF (dCons (dC (.int 3)) (dCons (dC (.int 2)) (dCons (d2 ixD (dLstF (dCons (dC (.int 4)) (dCons (dC (.int 5)) dNil))) (dCallF 2 F__law_drawn (dCons (dVar 1) (dCons (dC (.int 2)) dNil)))) dNil)))) (dVar 2)) (dCons (d2 ixD (dLstF (dCons (dC (.int 2)) (dCons (dC (.int 3)) (dCons (dC (.int 1)) dNil)))) (dVar 2)) dNil)))) (gVar 3))
  (sSeq (sAsg (dCallF 1 F__law_wrong (dCons (dVar 3) dNil)) (gVar 4))
  (sSeq (sAsg (dLst dNil) (gVar 5))
  (sSeq (sFor (iVal (dVar 4)) (gTupD 2 (gsCons (gVar 11) (gsCons (gVar 12) gsNil))) (sIf (tNotD (tstB (dCallF 3 F__law_finds (dCons (dVar 3) (dCons (dVar 5) (dCons (dVar 11) dNil)))))) (sExpr (dBm "list" appendD (dVar 5) (dCons (dVar 12) dNil))) sNext))
  (sSeq (sAsg (dFrz (dComp [11, 12] (iVal (dVar 4)) (gTupD 2 (gsCons (gVar 11) (gsCons (gVar 12) gsNil))) tYesD (dVar 11))) (gVar 6))
  (sSeq (sAsg (dLst dNil) (gVar 7))
  (sSeq (sFor (iRngD1 (dCallF 2 F__law_drawn (dCons (dVar 1) (dCons (dC (.int 9)) dNil)))) (gVar 8) (sExpr (dBm "list" appendD (dVar 7) (dCons (dFrz (dComp [15] (iRngD1 (dCallF 2 F__law_drawn (dCons (dVar 1) (dCons (dC (.int 9)) dNil)))) (gVar 15) tYesD (dCallF 2 F__law_beat (dCons (dVar 1) (dCons (d2 ixD (dVar 3) (dC (.int 0))) dNil))))) dNil))))
  (sSeq (sFor (iVal (dLstF (dCons (dVar 5) (dCons (dVar 7) dNil)))) (gVar 9) (sSeq (sAsg (dFrz (dComp [12] (iVal (dVar 9)) (gVar 12) tYesD (dCall listF (dCons (dVar 12) dNil)))) (gVar 13))
  (sFor (iRngD1 (dC (.int 2))) (gVar 10) (sSeq (sAsg (dCallF 2 Fr_lean (dCons (dVar 3) (dCons (dVar 13) dNil))) (gVar 14))
  (sSeq (sIf (tOrD (tNotD (tstB (dCallF 2 (F__law_same 40) (dCons (dVar 14) (dCons (dCallF 3 F__law_lean (dCons (dVar 3) (dCons (dVar 9) (dCons (dVar 6) dNil)))) dNil))))) (d2T neD (dVar 13) (dVar 9))) (sRet (dC (.bl false))) sNext)
  (sFor (iVal (dVar 14)) (gVar 12) (sExpr (dBm "list" appendD (dVar 12) (dCons (dC (.str "")) dNil)))))))))
  (sFor (iRngD1 (dC (.int 2))) (gVar 10) (sSeq (sAsg (dCallF 1 Fr_checks (dCons (dVar 3) dNil)) (gVar 14))
  (sSeq (sIf (tNotD (tstB (dCallF 2 (F__law_same 40) (dCons (dVar 14) (dCons (dVar 5) dNil))))) (sRet (dC (.bl false))) sNext)
  (sExpr (dBm "list" appendD (d2 ixD (dVar 14) (dC (.int 0))) (dCons (dC (.str "")) dNil)))))))))))))))
  (sRet (dC (.bl true)))))
noncomputable def F_law : List D → Sto → Res D := dFn 16 b_law
theorem d_law (T : Tx K mg w) {fd : FuncData} (Fu : FunD K "law" "law" (defArgs st_law) (defBody st_law) (defScope st_law) [] [] (He.fAd K ("law", none)) fd) : (∀ (s : Shared) (u : Value), BindsTo s fd ⟨[u], []⟩ [("_law_script", u)]) ∧ ∀ base : Heap, FnOk P w K mg base (L2.CX P w) 46 (He.ga K "law") fd ["_law_script"] (spD (cl K w) K 1 F_law) :=
  fnD_law Fu sc_law (fun _ _ _ _ _ _ us hl => match us, hl with | [_], _ => rfl) (fun base cdv A outer s H E co =>
      (z8 (zg (i := 1) co.nd rfl (Or.inr rfl) (zc (dr__law_start T) (co.hr.mono (by first | decide | omega)) co.px (by rfl) T.g__law_start (z4 (de_frz (z3 0)) z7)))
      (z8 (zo co.po co.calm (di_val (zf (zj (z4 (zj (z4 z9 (z4 z9 z7))) (z4 (zj (z4 z9 (z4 z9 z7))) (z4 (zj (z4 z9 z7)) z7)))) (zc (d__law_drawn T) (co.hr.mono (by first | decide | omega)) co.px (by rfl) T.g__law_drawn (z4 (z3 1) (z4 z9 z7))))) (ze (i := 2) co.nd rfl (Or.inl rfl)) (z8 (zg (i := 3) co.nd rfl (Or.inr rfl) (zc (d__law_plain T) (co.hr.mono (by first | decide | omega)) co.px (by rfl) T.g__law_plain (z4 (z3 1) (z4 (zf (zj (z4 z9 (z4 z9 (z4 (zf (zj (z4 z9 (z4 z9 z7))) (zc (d__law_drawn T) (co.hr.mono (by first | decide | omega)) co.px (by rfl) T.g__law_drawn (z4 (z3 1) (z4 z9 z7)))) z7)))) (z3 2)) (z4 (zf (zj (z4 z9 (z4 z9 (z4 z9 z7)))) (z3 2)) z7)))))
      (z8 (zg (i := 4) co.nd rfl (Or.inl rfl) (zc (d__law_wrong T) (co.hr.mono (by first | decide | omega)) co.px (by rfl) T.g__law_wrong (z4 (z3 3) z7)))
      (z8 (zg (i := 5) co.nd rfl (Or.inl rfl) (de_lst z7))
      (z8 (zo co.po co.calm (di_val (z3 4)) (dg_tup co.calm (zh (ze (i := 11) co.nd rfl (Or.inl rfl)) (zh (ze (i := 12) co.nd rfl (Or.inl rfl)) dgs_nil))) (za (ds_if (dt_not (dt_val (zc (d__law_finds T) (co.hr.mono (by first | decide | omega)) co.px (by rfl) T.g__law_finds (z4 (z3 3) (z4 (z3 5) (z4 (z3 11) z7)))))) (za (ds_expr (de_bm PySem.F.plainAttrs_list PySem.F.slot_list_append PySem.F.type_list_append md_append (z3 5) (z4 (z3 12) z7)))) dss_nil)))
      (z8 (ds_compF (i := 6) (own := [("_law_wrong_here", 11), ("_law_row", 12)]) co.calm co.nd rfl rfl (sw_true rfl rfl rfl (by decide +kernel)) (di_val (z3 4)) (blkOk_by (by kernel_rfl)) (fun _ _ _ _ _ => (dgw_tup (co.blk _ _ _ _ _).calm (dgsw_cons (dgw_name (i := 11) (by decide) (co.blk _ _ _ _ _).nd rfl (Or.inl rfl)) (dgsw_cons (dgw_name (i := 12) (by decide) (co.blk _ _ _ _ _).nd rfl (Or.inl rfl)) dgsw_nil)))) (fun _ _ _ _ _ => dts_nil) (fun _ _ _ _ _ => (z3 11)))
      (z8 (zg (i := 7) co.nd rfl (Or.inl rfl) (de_lst z7))
      (z8 (zo co.po co.calm (di_range1 (by rfl) T.z_range (zc (d__law_drawn T) (co.hr.mono (by first | decide | omega)) co.px (by rfl) T.g__law_drawn (z4 (z3 1) (z4 z9 z7)))) (ze (i := 8) co.nd rfl (Or.inl rfl)) (za (ds_expr (de_bm PySem.F.plainAttrs_list PySem.F.slot_list_append PySem.F.type_list_append md_append (z3 7) (z4 (de_frz (de_comp (own := [("_law_far", 15)]) co.calm co.nd (di_range1 (by rfl) T.z_range (zc (d__law_drawn T) (co.hr.mono (by first | decide | omega)) co.px (by rfl) T.g__law_drawn (z4 (z3 1) (z4 z9 z7)))) (blkOk_by (by kernel_rfl)) (fun _ _ _ _ _ => (dgw_name (i := 15) (by decide) (co.blk _ _ _ _ _).nd rfl (Or.inl rfl))) (fun _ _ _ _ _ => dts_nil) (fun _ _ _ _ _ => (zc (d__law_beat T) ((co.blk _ _ _ _ _).hr.mono (by first | decide | omega)) (co.blk _ _ _ _ _).px (by rfl) T.g__law_beat (z4 (z3 1) (z4 (zf (z3 3) z9) z7)))))) z7)))))
      (z8 (zo co.po co.calm (di_val (zj (z4 (z3 5) (z4 (z3 7) z7)))) (ze (i := 9) co.nd rfl (Or.inl rfl)) (z8 (ds_compF (i := 13) (own := [("_law_row", 12)]) co.calm co.nd rfl rfl (sw_true rfl rfl rfl (by decide +kernel)) (di_val (z3 9)) (blkOk_by (by kernel_rfl)) (fun _ _ _ _ _ => (dgw_name (i := 12) (by decide) (co.blk _ _ _ _ _).nd rfl (Or.inl rfl))) (fun _ _ _ _ _ => dts_nil) (fun _ _ _ _ _ => (de_callTy cd_listF (by rfl) T.z_list (by decide +kernel) (z4 (z3 12) z7))))
      (za (zo co.po co.calm (di_range1 (by rfl) T.z_range z9) (ze (i := 10) co.nd rfl (Or.inl rfl)) (z8 (zg (i := 14) co.nd rfl (Or.inl rfl) (zc (dr_lean T) (co.hr.mono (by first | decide | omega)) co.px (by rfl) T.g_lean (z4 (z3 3) (z4 (z3 13) z7))))
      (z8 (ds_if (dt_bool (dw_or (dt_not (dt_val (zc (d__law_same T 40) (co.hr.mono (by first | decide | omega)) co.px (by rfl) T.g__law_same (z4 (z3 14) (z4 (zc (d__law_lean T) (co.hr.mono (by first | decide | omega)) co.px (by rfl) T.g__law_lean (z4 (z3 3) (z4 (z3 9) (z4 (z3 6) z7)))) z7))))) (dw_or1 (zp (op_neDD co.hu) (z3 13) (z3 9) (nomark _))))) (za (zi de_bl)) dss_nil)
      (za (zo co.po co.calm (di_val (z3 14)) (ze (i := 12) co.nd rfl (Or.inl rfl)) (za (ds_expr (de_bm PySem.F.plainAttrs_list PySem.F.slot_list_append PySem.F.type_list_append md_append (z3 12) (z4 de_str z7))))))))))))
      (za (zo co.po co.calm (di_range1 (by rfl) T.z_range z9) (ze (i := 10) co.nd rfl (Or.inl rfl)) (z8 (zg (i := 14) co.nd rfl (Or.inl rfl) (zc (dr_checks T) (co.hr.mono (by first | decide | omega)) co.px (by rfl) T.g_checks (z4 (z3 3) z7)))
      (z8 (ds_if (dt_not (dt_val (zc (d__law_same T 40) (co.hr.mono (by first | decide | omega)) co.px (by rfl) T.g__law_same (z4 (z3 14) (z4 (z3 5) z7))))) (za (zi de_bl)) dss_nil)
      (za (ds_expr (de_bm PySem.F.plainAttrs_list PySem.F.slot_list_append PySem.F.type_list_append md_append (zf (z3 14) z9) (z4 de_str z7)))))))))))))))))
      (za (zi de_bl)))))
end
def fa : List He.Fa := [.glo "_law_start", .glo "_law_drawn", .glo "_law_deed", .glo "_law_plain", .glo "_law_beats", .glo "_law_at", .glo "_law_between", .glo "_law_changed", .glo "_law_wrong", .glo "_law_passed", .glo "_law_deeds", .glo "_law_finds", .glo "_law_beat", .glo "is_word", .glo "is_row", .glo "need_plain", .glo "need_few", .glo "need_tests", .glo "met_from", .glo "all_beats", .glo "road_to", .glo "row_between", .glo "changed", .glo "finding", .glo "all_wrong", .glo "number_of", .glo "is_gone", .glo "deeds_of", .glo "is_found", .glo "lean", .glo "_law_same", .glo "_law_lean", .glo "checks", .glo "law", .glo "BeatError", .glo "BadPlain", .glo "TooLarge", .glo "BadRows", .free "len", .free "range", .free "min", .free "tuple", .free "sorted", .free "list", .free "enumerate", .free "zip", .free "int", .free "isinstance", .free "str", .free "bool", .free "reversed", .exc "TooLarge"]
def fn : List He.DefD := [⟨("_law_start", none), "_law_start", "_law_start", defArgs st__law_start, defBody st__law_start, defScope st__law_start, [], []⟩,
  ⟨("_law_drawn", none), "_law_drawn", "_law_drawn", defArgs st__law_drawn, defBody st__law_drawn, defScope st__law_drawn, [], []⟩,
  ⟨("_law_deed", none), "_law_deed", "_law_deed", defArgs st__law_deed, defBody st__law_deed, defScope st__law_deed, [], []⟩,
  ⟨("_law_plain", none), "_law_plain", "_law_plain", defArgs st__law_plain, defBody st__law_plain, defScope st__law_plain, [], []⟩,
  ⟨("_law_beats", none), "_law_beats", "_law_beats", defArgs st__law_beats, defBody st__law_beats, defScope st__law_beats, [], []⟩,
  ⟨("_law_at", none), "_law_at", "_law_at", defArgs st__law_at, defBody st__law_at, defScope st__law_at, [], []⟩,
  ⟨("_law_between", none), "_law_between", "_law_between", defArgs st__law_between, defBody st__law_between, defScope st__law_between, [], []⟩,
  ⟨("_law_changed", none), "_law_changed", "_law_changed", defArgs st__law_changed, defBody st__law_changed, defScope st__law_changed, [], []⟩,
  ⟨("_law_wrong", none), "_law_wrong", "_law_wrong", defArgs st__law_wrong, defBody st__law_wrong, defScope st__law_wrong, [], []⟩,
  ⟨("_law_passed", none), "_law_passed", "_law_passed", defArgs st__law_passed, defBody st__law_passed, defScope st__law_passed, [], []⟩,
  ⟨("_law_deeds", none), "_law_deeds", "_law_deeds", defArgs st__law_deeds, defBody st__law_deeds, defScope st__law_deeds, [], []⟩,
  ⟨("_law_finds", none), "_law_finds", "_law_finds", defArgs st__law_finds, defBody st__law_finds, defScope st__law_finds, [], []⟩,
  ⟨("_law_beat", none), "_law_beat", "_law_beat", defArgs st__law_beat, defBody st__law_beat, defScope st__law_beat, [], []⟩,
  ⟨("is_word", none), "is_word", "is_word", defArgs st_is_word, defBody st_is_word, defScope st_is_word, [], []⟩,
  ⟨("is_row", none), "is_row", "is_row", defArgs st_is_row, defBody st_is_row, defScope st_is_row, [], []⟩,
  ⟨("need_plain", none), "need_plain", "need_plain", defArgs st_need_plain, defBody st_need_plain, defScope st_need_plain, [], []⟩,
  ⟨("need_few", none), "need_few", "need_few", defArgs st_need_few, defBody st_need_few, defScope st_need_few, [], []⟩,
  ⟨("need_tests", none), "need_tests", "need_tests", defArgs st_need_tests, defBody st_need_tests, defScope st_need_tests, [], []⟩,
  ⟨("met_from", none), "met_from", "met_from", defArgs st_met_from, defBody st_met_from, defScope st_met_from, [], []⟩,
  ⟨("all_beats", none), "all_beats", "all_beats", defArgs st_all_beats, defBody st_all_beats, defScope st_all_beats, [], []⟩,
  ⟨("road_to", none), "road_to", "road_to", defArgs st_road_to, defBody st_road_to, defScope st_road_to, [], []⟩,
  ⟨("row_between", none), "row_between", "row_between", defArgs st_row_between, defBody st_row_between, defScope st_row_between, [], []⟩,
  ⟨("changed", none), "changed", "changed", defArgs st_changed, defBody st_changed, defScope st_changed, [], []⟩,
  ⟨("finding", none), "finding", "finding", defArgs st_finding, defBody st_finding, defScope st_finding, [], []⟩,
  ⟨("all_wrong", none), "all_wrong", "all_wrong", defArgs st_all_wrong, defBody st_all_wrong, defScope st_all_wrong, [], []⟩,
  ⟨("number_of", none), "number_of", "number_of", defArgs st_number_of, defBody st_number_of, defScope st_number_of, [], []⟩,
  ⟨("is_gone", none), "is_gone", "is_gone", defArgs st_is_gone, defBody st_is_gone, defScope st_is_gone, [], []⟩,
  ⟨("deeds_of", none), "deeds_of", "deeds_of", defArgs st_deeds_of, defBody st_deeds_of, defScope st_deeds_of, [], []⟩,
  ⟨("is_found", none), "is_found", "is_found", defArgs st_is_found, defBody st_is_found, defScope st_is_found, [], []⟩,
  ⟨("lean", none), "lean", "lean", defArgs st_lean, defBody st_lean, defScope st_lean, [], []⟩,
  ⟨("_law_same", none), "_law_same", "_law_same", defArgs st__law_same, defBody st__law_same, defScope st__law_same, [], []⟩,
  ⟨("_law_lean", none), "_law_lean", "_law_lean", defArgs st__law_lean, defBody st__law_lean, defScope st__law_lean, [], []⟩,
  ⟨("checks", none), "checks", "checks", defArgs st_checks, defBody st_checks, defScope st_checks, [], []⟩,
  ⟨("law", none), "law", "law", defArgs st_law, defBody st_law, defScope st_law, [], []⟩,
  ⟨("BadPlain", some "__init__"), "__init__", "BadPlain.__init__", defArgs st_x_BadPlain, defBody st_x_BadPlain, defScope st_x_BadPlain, [], []⟩,
  ⟨("BadRows", some "__init__"), "__init__", "BadRows.__init__", defArgs st_x_BadRows, defBody st_x_BadRows, defScope st_x_BadRows, [], []⟩]
def exl (K : PySem.W.Frag) : List Bool := [globB K "MOST_INS" (.int 4),
  globB K "MOST_OUTS" (.int 3),
  globB K "COUNTS" (.tup [(.int 1), (.int 2), (.int 4), (.int 8), (.int 16)]),
  globB K "MOST_PLAIN" (.int 200),
  globB K "SMALL" (.int 6),
  globB K "MOST_TESTS" (.int 200),
  exBB K (He.ga K "BeatError"),
  oexB K (He.ga K "BadPlain"),
  initB K (He.ga K "BadPlain") ["number"],
  oexB K (He.ga K "BadRows"),
  initB K (He.ga K "BadRows") ["number"]]
def exB (K : PySem.W.Frag) : Bool := (exl K).all id
theorem tx_of {K : PySem.W.Frag} {h : Heap} {mg : Str → Option Value} {w : World} (X : K.In h) (G : h.Ns mainGlobals mg) (c : He.SaysD fa fn K) (e : exB K = true) : Tx K mg w := by
  have exs : ∀ (i : Nat) {b : Bool}, (exl K)[i]? = some b → b = true := fun i b hb => List.all_eq_true.mp e b (List.mem_of_getElem? hb)
  refine {
    g__law_start := He.glo_ok X G (c.fact 0 rfl)
    g__law_drawn := He.glo_ok X G (c.fact 1 rfl)
    g__law_deed := He.glo_ok X G (c.fact 2 rfl)
    g__law_plain := He.glo_ok X G (c.fact 3 rfl)
    g__law_beats := He.glo_ok X G (c.fact 4 rfl)
    g__law_at := He.glo_ok X G (c.fact 5 rfl)
    g__law_between := He.glo_ok X G (c.fact 6 rfl)
    g__law_changed := He.glo_ok X G (c.fact 7 rfl)
    g__law_wrong := He.glo_ok X G (c.fact 8 rfl)
    g__law_passed := He.glo_ok X G (c.fact 9 rfl)
    g__law_deeds := He.glo_ok X G (c.fact 10 rfl)
    g__law_finds := He.glo_ok X G (c.fact 11 rfl)
    g__law_beat := He.glo_ok X G (c.fact 12 rfl)
    g_is_word := He.glo_ok X G (c.fact 13 rfl)
    g_is_row := He.glo_ok X G (c.fact 14 rfl)
    g_need_plain := He.glo_ok X G (c.fact 15 rfl)
    g_need_few := He.glo_ok X G (c.fact 16 rfl)
    g_need_tests := He.glo_ok X G (c.fact 17 rfl)
    g_met_from := He.glo_ok X G (c.fact 18 rfl)
    g_all_beats := He.glo_ok X G (c.fact 19 rfl)
    g_road_to := He.glo_ok X G (c.fact 20 rfl)
    g_row_between := He.glo_ok X G (c.fact 21 rfl)
    g_changed := He.glo_ok X G (c.fact 22 rfl)
    g_finding := He.glo_ok X G (c.fact 23 rfl)
    g_all_wrong := He.glo_ok X G (c.fact 24 rfl)
    g_number_of := He.glo_ok X G (c.fact 25 rfl)
    g_is_gone := He.glo_ok X G (c.fact 26 rfl)
    g_deeds_of := He.glo_ok X G (c.fact 27 rfl)
    g_is_found := He.glo_ok X G (c.fact 28 rfl)
    g_lean := He.glo_ok X G (c.fact 29 rfl)
    g__law_same := He.glo_ok X G (c.fact 30 rfl)
    g__law_lean := He.glo_ok X G (c.fact 31 rfl)
    g_checks := He.glo_ok X G (c.fact 32 rfl)
    g_law := He.glo_ok X G (c.fact 33 rfl)
    g_BeatError := He.glo_ok X G (c.fact 34 rfl)
    g_BadPlain := He.glo_ok X G (c.fact 35 rfl)
    g_TooLarge := He.glo_ok X G (c.fact 36 rfl)
    g_BadRows := He.glo_ok X G (c.fact 37 rfl)
    z_len := He.free_ok X G (c.fact 38 rfl)
    z_range := He.free_ok X G (c.fact 39 rfl)
    z_min := He.free_ok X G (c.fact 40 rfl)
    z_tuple := He.free_ok X G (c.fact 41 rfl)
    z_sorted := He.free_ok X G (c.fact 42 rfl)
    z_list := He.free_ok X G (c.fact 43 rfl)
    z_enumerate := He.free_ok X G (c.fact 44 rfl)
    z_zip := He.free_ok X G (c.fact 45 rfl)
    z_int := He.free_ok X G (c.fact 46 rfl)
    z_isinstance := He.free_ok X G (c.fact 47 rfl)
    z_str := He.free_ok X G (c.fact 48 rfl)
    z_bool := He.free_ok X G (c.fact 49 rfl)
    z_reversed := He.free_ok X G (c.fact 50 rfl)
    k_MOST_INS := globB_ok X G (exs 0 rfl)
    k_MOST_OUTS := globB_ok X G (exs 1 rfl)
    k_COUNTS := globB_ok X G (exs 2 rfl)
    k_MOST_PLAIN := globB_ok X G (exs 3 rfl)
    k_SMALL := globB_ok X G (exs 4 rfl)
    k_MOST_TESTS := globB_ok X G (exs 5 rfl)
    xb := exBB_ok (exs 6 rfl)
    xo_BadPlain := oexB_ok (exs 7 rfl)
    xi_BadPlain := initB_ok (exs 8 rfl)
    xt_TooLarge := exT_ok (c.fact 51 rfl)
    xo_BadRows := oexB_ok (exs 9 rfl)
    xi_BadRows := initB_ok (exs 10 rfl)
    f__law_start := c.def_ 0 rfl
    f__law_drawn := c.def_ 1 rfl
    f__law_deed := c.def_ 2 rfl
    f__law_plain := c.def_ 3 rfl
    f__law_beats := c.def_ 4 rfl
    f__law_at := c.def_ 5 rfl
    f__law_between := c.def_ 6 rfl
    f__law_changed := c.def_ 7 rfl
    f__law_wrong := c.def_ 8 rfl
    f__law_passed := c.def_ 9 rfl
    f__law_deeds := c.def_ 10 rfl
    f__law_finds := c.def_ 11 rfl
    f__law_beat := c.def_ 12 rfl
    f_is_word := c.def_ 13 rfl
    f_is_row := c.def_ 14 rfl
    f_need_plain := c.def_ 15 rfl
    f_need_few := c.def_ 16 rfl
    f_need_tests := c.def_ 17 rfl
    f_met_from := c.def_ 18 rfl
    f_all_beats := c.def_ 19 rfl
    f_road_to := c.def_ 20 rfl
    f_row_between := c.def_ 21 rfl
    f_changed := c.def_ 22 rfl
    f_finding := c.def_ 23 rfl
    f_all_wrong := c.def_ 24 rfl
    f_number_of := c.def_ 25 rfl
    f_is_gone := c.def_ 26 rfl
    f_deeds_of := c.def_ 27 rfl
    f_is_found := c.def_ 28 rfl
    f_lean := c.def_ 29 rfl
    f__law_same := c.def_ 30 rfl
    f__law_lean := c.def_ 31 rfl
    f_checks := c.def_ 32 rfl
    f_law := c.def_ 33 rfl
    f_x_BadPlain := c.def_ 34 rfl
    f_x_BadRows := c.def_ 35 rfl }
abbrev R : PySem.W.OpenRow := PySem.W.OpenLaw.row PySem.Challenge.rw_tablebeat_k30_rows_that_find_all
abbrev hk : PySem.W.Hook := hookE 5 fa fn exB
def ob (s : PySem.W.SharedT) : He.AlD × Bool := obE 5 fa fn exB (HandSHeadRun.getT s)
theorem ob_eq (s : PySem.W.SharedT) : ob s = hk.obs s.abs := obE_eq (HandSHeadRun.getT_eq s)
def loose0 : List Str := ["__name__", "BeatError", "BadPlain", "TooLarge", "BadRows", "MOST_INS", "MOST_OUTS", "COUNTS", "is_word", "all_beats", "number_of", "MOST_PLAIN"]
def loose1 : List Str := ["is_row", "need_plain", "need_few", "deeds_of", "met_from", "row_between", "SMALL", "MOST_TESTS", "need_tests", "changed", "is_gone", "all_wrong"]
def loose2 : List Str := ["road_to", "finding", "is_found", "checks", "lean", "_law_start", "_law_drawn", "_law_same", "_law_plain", "_law_deed", "_law_beats", "_law_beat"]
def loose3 : List Str := ["_law_at", "_law_between", "_law_met", "_law_passed", "_law_changed", "_law_deeds", "_law_wrong", "_law_finds", "_law_lean"]
def loose : List Str := loose0 ++ loose1 ++ loose2 ++ loose3
end Lw

namespace Lw
open PySem PySem.Spec PyProof.Rows L2 DL
def isSt (o : DO) : Prop := ∃ (ns : List Int) (i mx lf : Int), o = .lst [.frl (ns.map .int), .int i, .int mx, .int lf] ∧ 0 ≤ i
def At (l : Nat) (S : Sto) : Prop := ∃ o, S[l]? = some o ∧ isSt o
def Dr (l : Nat) (S S' : Sto) : Prop := ∃ o, S' = S.set l o ∧ isSt o ∧ l < S.length
theorem At.lt {l : Nat} {S : Sto} (h : At l S) : l < S.length := by
  obtain ⟨o, e, _⟩ := h
  exact (List.getElem?_eq_some_iff.mp e).1
theorem At.self {l : Nat} {S : Sto} (h : At l S) : Dr l S S := by
  have hl := h.lt
  obtain ⟨o, e, hs⟩ := h
  refine ⟨o, ?_, hs, hl⟩
  obtain ⟨_, e2⟩ := List.getElem?_eq_some_iff.mp e
  rw [← e2, List.set_getElem_self]
theorem Dr.at {l : Nat} {S S' : Sto} (h : Dr l S S') : At l S' := by
  obtain ⟨o, rfl, hs, hl⟩ := h
  exact ⟨o, List.getElem?_set_self hl, hs⟩
theorem Dr.len {l : Nat} {S S' : Sto} (h : Dr l S S') : S'.length = S.length := by
  obtain ⟨o, rfl, _, _⟩ := h
  simp
theorem Dr.lt {l : Nat} {S S' : Sto} (h : Dr l S S') : l < S.length := h.choose_spec.2.2
theorem Dr.trans {l : Nat} {A B C : Sto} (a : Dr l A B) (b : Dr l B C) : Dr l A C := by
  obtain ⟨o, rfl, _, hl⟩ := a
  obtain ⟨o', rfl, hs, _⟩ := b
  exact ⟨o', by rw [List.set_set], hs, hl⟩
theorem Dr.get {l k : Nat} {S S' : Sto} (h : Dr l S S') (n : k ≠ l) : S'[k]? = S[k]? := by
  obtain ⟨o, rfl, _, _⟩ := h
  rw [List.getElem?_set_ne (Ne.symm n)]
theorem At.app {l : Nat} {S : Sto} (T : Sto) (h : At l S) : At l (S ++ T) := by
  have hl := h.lt
  obtain ⟨o, e, hs⟩ := h
  exact ⟨o, by rw [List.getElem?_append_left hl]; exact e, hs⟩
theorem Dr.app {l : Nat} {S T S' : Sto} (h : Dr l (S ++ T) S') (hl : l < S.length) : ∃ S1, S' = S1 ++ T ∧ Dr l S S1 := by
  obtain ⟨o, rfl, hs, _⟩ := h
  exact ⟨S.set l o, by rw [List.set_append_left _ _ hl], o, rfl, hs, hl⟩
theorem st_blw {n : Nat} {o : DO} (h : isSt o) : o.blw n = true := by
  obtain ⟨ns, i, mx, lf, rfl, _⟩ := h
  show (D.blw n (.frl (ns.map .int)) && _) = true
  have : D.blw n (.frl (ns.map .int)) = true := gd_blw (n := 1) _ (fun d hd => by obtain ⟨k, _, rfl⟩ := List.mem_map.mp hd; exact gd_int)
  rw [this]; rfl
def Gn (l : Nat) (S : Sto) (r : Res D) (P : D → Prop) : Prop := ∃ d S', r = .ok d S' ∧ Dr l S S' ∧ P d
theorem Gn.w {l : Nat} {S : Sto} {r : Res D} {P : D → Prop} {Q : D → Sto → Prop} {X : Exc → Sto → Prop} (h : Gn l S r P) (hq : ∀ d S', Dr l S S' → P d → Q d S') : Wp r Q X := by
  obtain ⟨d, S', rfl, hd, hp⟩ := h
  exact hq d S' hd hp
theorem Gn.wT {l : Nat} {S T : Sto} {r : Res D} {P : D → Prop} {Q : D → Sto → Prop} {X : Exc → Sto → Prop} (h : Gn l (S ++ T) r P) (hl : l < S.length) (hq : ∀ d S', Dr l S S' → P d → Q d (S' ++ T)) : Wp r Q X := by
  obtain ⟨d, S', rfl, hd, hp⟩ := h
  obtain ⟨S1, rfl, hd1⟩ := hd.app hl
  exact hq d S1 hd1 hp
theorem Gn.mono {l : Nat} {S : Sto} {r : Res D} {P P' : D → Prop} (h : Gn l S r P) (hp : ∀ d, P d → P' d) : Gn l S r P' := by
  obtain ⟨d, S', e, hd, h⟩ := h
  exact ⟨d, S', e, hd, hp d h⟩
theorem fn_gn {n l : Nat} {b : Sl → Sto → Res Fl} {ds : List D} {S : Sto} {P : D → Prop} (h : Wp (b (startD n ds) S) (kFn fun d S' => ∃ S1 T, S' = S1 ++ T ∧ Dr l S S1 ∧ d.blw S.length = true ∧ P d) NX) : Gn l S (cutF (dFn n b) ds S) P := by
  have h' : Wp (dFn n b ds S) (fun d S' => ∃ S1 T, S' = S1 ++ T ∧ Dr l S S1 ∧ d.blw S.length = true ∧ P d) NX := by rw [w_dFn]; exact h
  obtain ⟨d, S', e, S1, T, rfl, hd, hb, hp⟩ := Wp.ok h'
  refine ⟨d, S1, ?_, hd, hp⟩
  obtain ⟨o, rfl, hs, hl⟩ := hd
  unfold cutF
  rw [e, cut_set hb (st_blw hs)]
theorem Dr.out {l : Nat} {S S' : Sto} {d : D} {P : D → Prop} (h : Dr l S S') (hb : d.blw S.length = true) (hp : P d) : ∃ S1 T, S' = S1 ++ T ∧ Dr l S S1 ∧ d.blw S.length = true ∧ P d := ⟨S', [], by simp, h, hb, hp⟩
theorem pow18 {S : Sto} {Q : D → Sto → Prop} {X : Exc → Sto → Prop} : Wp (powD (.int 10) (.int 18) S) Q X = Q (.int 1000000000000000000) S := by
  have e : powD (.int 10) (.int 18) S = .ok (.int 1000000000000000000) S := by
    simp only [powD]
    rw [if_pos (powOk_of (by decide))]
    rfl
  rw [e]; rfl
theorem draw {l : Nat} {S : Sto} {many : Int} (h : At l S) (hm : 0 < many := by omega) (hl : many < 10 ^ 40 := by omega) :
    Gn l S (F__law_drawn [.ref l, .int many] S) (fun d => ∃ v, d = .int v ∧ 0 ≤ v ∧ v < many) := by
  have hlt := h.lt
  have hlg := fd_ok hm hl
  obtain ⟨o, hS, ns, i, mx, lf, rfl, hi⟩ := h
  have x1 : ixN 4 1 = some 1 := rfl
  have x2 : ixN 4 2 = some 2 := rfl
  have x3 : ixN 4 3 = some 3 := rfl
  have fin : ∀ (i' mx' lf' v : Int), 0 ≤ i' → 0 ≤ v → v < many → ∃ S1 T, (S.set l (.lst [.frl (ns.map .int), .int i', .int mx', .int lf'])) = S1 ++ T ∧ Dr l S S1 ∧ (D.int v).blw S.length = true ∧ ∃ w, D.int v = .int w ∧ 0 ≤ w ∧ w < many := fun i' mx' lf' v h h0 h1 =>
    Dr.out (P := fun d => ∃ w, d = .int w ∧ 0 ≤ w ∧ w < many) ⟨_, rfl, ⟨ns, i', mx', lf', rfl, h⟩, hlt⟩ rfl ⟨v, rfl, h0, h1⟩
  unfold F__law_drawn
  refine fn_gn ?_
  unfold b__law_drawn
  simp only [z6, z5, wq_a, wq_b, wq_c, wq_d, wq_e, wq_f, wq_g, Int.reduceToNat, Int.reduceLE, Int.reduceLT, Int.reduceNeg, startD, List.replicate, Nat.reduceAdd, Nat.reduceSub, Nat.reduceEqDiff, if_true, if_false, Int.reduceEq, Int.reduceAdd, Int.reduceSub, Int.reduceMul, eq_self, w_ixL2 hS]
  by_cases h1 : (0 : Int) < lf
  · simp only [h1, z6, z5, wq_a, wq_b, wq_c, wq_d, wq_e, wq_f, wq_g, Int.reduceToNat, Int.reduceLE, Int.reduceLT, Int.reduceNeg, startD, List.replicate, Nat.reduceAdd, Nat.reduceSub, Nat.reduceEqDiff, if_true, if_false, Int.reduceEq, Int.reduceAdd, Int.reduceSub, Int.reduceMul, eq_self, w_ixL2 hS, w_modI hm, w_fdivI hlg, w_setL2 hS, x3]
    exact fin i mx _ _ hi (Int.emod_nonneg _ (by omega)) (Int.emod_lt_of_pos _ hm)
  · have hS1 : (S.set l (.lst [.frl (ns.map .int), .int (i + 1), .int mx, .int lf]))[l]? = some (.lst [.frl (ns.map .int), .int (i + 1), .int mx, .int lf]) := set_same hlt
    simp only [h1, z6, z5, wq_a, wq_b, wq_c, wq_d, wq_e, wq_f, wq_g, Int.reduceToNat, Int.reduceLE, Int.reduceLT, Int.reduceNeg, startD, List.replicate, Nat.reduceAdd, Nat.reduceSub, Nat.reduceEqDiff, if_true, if_false, Int.reduceEq, Int.reduceAdd, Int.reduceSub, Int.reduceMul, eq_self, w_ixL2 hS, w_setL2 hS, x1, w_ixL2 hS1, w_lenF, List.length_map]
    by_cases h2 : i + 1 ≤ ((ns.length : Nat) : Int)
    · have h2' : i.toNat < ns.length := by omega
      have ea : atI (ns.map D.int) (i + 1 - 1) = some (.int ns[i.toNat]) := by
        rw [show i + 1 - 1 = i by omega, atI_pos hi]
        simp [h2']
      simp only [h2, z6, z5, wq_a, wq_b, wq_c, wq_d, wq_e, wq_f, wq_g, Int.reduceToNat, Int.reduceLE, Int.reduceLT, Int.reduceNeg, startD, List.replicate, Nat.reduceAdd, Nat.reduceSub, Nat.reduceEqDiff, if_true, if_false, Int.reduceEq, Int.reduceAdd, Int.reduceSub, Int.reduceMul, eq_self, w_ixL2 hS1, ea, pow18]
      generalize ns[i.toNat] = cc
      by_cases h3 : (1000000000000000000 : Int) ≤ cc
      · simp only [h3, z6, z5, wq_a, wq_b, wq_c, wq_d, wq_e, wq_f, wq_g, Int.reduceToNat, Int.reduceLE, Int.reduceLT, Int.reduceNeg, startD, List.replicate, Nat.reduceAdd, Nat.reduceSub, Nat.reduceEqDiff, if_true, if_false, Int.reduceEq, Int.reduceAdd, Int.reduceSub, Int.reduceMul, eq_self, w_fdivI hlg, w_setL2 hS1, x3, w_modI hm, List.set_set]
        exact fin (i + 1) mx _ _ (by omega) (Int.emod_nonneg _ (by omega)) (Int.emod_lt_of_pos _ hm)
      · simp only [h3, z6, z5, wq_a, wq_b, wq_c, wq_d, wq_e, wq_f, wq_g, Int.reduceToNat, Int.reduceLE, Int.reduceLT, Int.reduceNeg, startD, List.replicate, Nat.reduceAdd, Nat.reduceSub, Nat.reduceEqDiff, if_true, if_false, Int.reduceEq, Int.reduceAdd, Int.reduceSub, Int.reduceMul, eq_self, w_setL2 hS1, x3, w_modI hm, List.set_set]
        exact fin (i + 1) mx _ _ (by omega) (Int.emod_nonneg _ (by omega)) (Int.emod_lt_of_pos _ hm)
    · have hS2 : ∀ m, (S.set l (.lst [.frl (ns.map .int), .int (i + 1), .int m, .int lf]))[l]? = some (.lst [.frl (ns.map .int), .int (i + 1), .int m, .int lf]) := fun m => set_same hlt
      simp only [h2, z6, z5, wq_a, wq_b, wq_c, wq_d, wq_e, wq_f, wq_g, Int.reduceToNat, Int.reduceLE, Int.reduceLT, Int.reduceNeg, startD, List.replicate, Nat.reduceAdd, Nat.reduceSub, Nat.reduceEqDiff, if_true, if_false, Int.reduceEq, Int.reduceAdd, Int.reduceSub, Int.reduceMul, eq_self, w_ixL2 hS1, w_mulI (a := mx) (b := 48271) (mul_r (mul_okI (by decide) (by decide))), w_modI (show (0 : Int) < 2147483647 by decide), w_setL2 hS1, x2, List.set_set, w_ixL2 (hS2 _), w_fdivI (fd_ok (b := 7) (by decide) (by decide)), w_modI hm]
      exact fin (i + 1) _ lf _ (by omega) (Int.emod_nonneg _ (by omega)) (Int.emod_lt_of_pos _ hm)
theorem start_ok {ns : List Int} {S : Sto} : ∃ o, Fr__law_start [.frl (ns.map .int)] S = .ok (.ref S.length) (S ++ [o]) ∧ isSt o := by
  have h : Wp (dFn 3 br__law_start [.frl (ns.map .int)] S) (fun d S' => ∃ mx, d = .ref S.length ∧ S' = S ++ [.lst [.frl (ns.map .int), .int 0, .int mx, .int 0]]) NX := by
    rw [w_dFn]
    unfold br__law_start
    simp only [z6, z5, wq_a, wq_b, wq_c, wq_d, wq_e, wq_f, wq_g, Int.reduceToNat, Int.reduceLE, Int.reduceLT, Int.reduceNeg, startD, List.replicate, Nat.reduceAdd, Nat.reduceSub, Nat.reduceEqDiff, if_true, if_false, Int.reduceEq, Int.reduceAdd, Int.reduceSub, Int.reduceMul, eq_self, itemsD]
    refine w_loopP D.int (fun _ sd S' => S' = S ∧ ∃ a v, sd = [some (.frl (ns.map .int)), some (.int v), a]) ns (fun _ _ _ _ _ _ => rfl) ⟨rfl, none, 1, rfl⟩ ?_ ?_
    · rintro sd S' ⟨rfl, a, v, rfl⟩
      simp only [z6, z5, wq_a, wq_b, wq_c, wq_d, wq_e, wq_f, wq_g, Int.reduceToNat, Int.reduceLE, Int.reduceLT, Int.reduceNeg, startD, List.replicate, Nat.reduceAdd, Nat.reduceSub, Nat.reduceEqDiff, if_true, if_false, Int.reduceEq, Int.reduceAdd, Int.reduceSub, Int.reduceMul, eq_self]
      exact ⟨v, trivial, rfl⟩
    · rintro pre c post sd S' e ⟨rfl, a, v, rfl⟩
      simp only [z6, z5, wq_a, wq_b, wq_c, wq_d, wq_e, wq_f, wq_g, Int.reduceToNat, Int.reduceLE, Int.reduceLT, Int.reduceNeg, startD, List.replicate, Nat.reduceAdd, Nat.reduceSub, Nat.reduceEqDiff, if_true, if_false, Int.reduceEq, Int.reduceAdd, Int.reduceSub, Int.reduceMul, eq_self, w_mulI (a := v) (b := 48271) (mul_r (mul_okI (by decide) (by decide))), w_modI (show (0 : Int) < 2147483647 by decide)]
      exact ⟨trivial, _, _, rfl⟩
  obtain ⟨d, S', e, mx, rfl, rfl⟩ := Wp.ok h
  refine ⟨_, ?_, ns, 0, mx, 0, rfl, by decide⟩
  unfold Fr__law_start cutF
  rw [e]
  have hb : D.blws S.length [.frl (ns.map .int), .int 0, .int mx, .int 0] = true := st_blw (o := .lst [.frl (ns.map .int), .int 0, .int mx, .int 0]) ⟨ns, 0, mx, 0, rfl, by decide⟩
  simp only [cutR]
  rw [if_pos (cutOk_app S _), if_neg (by simp [D.blw]), get_last]
  simp only
  rw [if_pos ⟨hb, Nat.le_refl _⟩, List.take_left]
theorem compG {l : Nat} (P : D → D → Prop) {vs : List Nat} {fi : Sl → Sto → Res ItD} {ga : D → Sl → Sto → Res Sl} {ft : Sl → Sto → Res Bool} {fe : Sl → Sto → Res D} {sd : Sl} {S : Sto} {Q : D → Sto → Prop} {X : Exc → Sto → Prop} (hlt : l < S.length)
    (hi : Wp (fi sd S) (fun it S1 => Dr l S S1 ∧ it.items.length ≤ sizeLine ∧ (∀ S', it.chk S' = true) ∧
      (∀ x ∈ it.items, ∀ S' T, Dr l S S' → Wp (ga x (wipeD sd vs) (S' ++ T)) (fun sd1 S2 => S2 = S' ++ T ∧ Wp (ft sd1 (S' ++ T)) (fun b S3 => b = true ∧ S3 = S' ++ T ∧ Wp (fe sd1 (S' ++ T)) (fun y S4 => ∃ S5, S4 = S5 ++ T ∧ Dr l S' S5 ∧ P x y) NX) NX) NX) ∧
      (∀ x ∈ it.items, ∀ y, P x y → y.blw S.length = true) ∧ ∀ ys S', Dr l S S' → All2 P it.items ys → Q (.frl ys) S') NX) : Wp (dFrz (dComp vs fi ga ft fe) sd S) Q X := by
  obtain ⟨it, S1, e1, d1, hl, hc, hx, hb, hq⟩ := ok_of_wp hi
  have key : ∀ (ys : List D) (acc : List D) (S2 : Sto), (∀ a ∈ ys, a ∈ it.items) → acc.length + ys.length ≤ sizeLine → Dr l S S2 → ∃ zs S3, compD it.chk ga ft fe S1.length (wipeD sd vs) ys (S2 ++ [.lst acc]) = .ok () (S3 ++ [.lst (acc ++ zs)]) ∧ Dr l S S3 ∧ All2 P ys zs := by
    intro ys
    induction ys with
    | nil =>
      intro acc S2 _ _ hd
      refine ⟨[], S2, ?_, hd, .nil⟩
      show (if it.chk (S2 ++ [.lst acc]) = true then Res.ok () (S2 ++ [.lst acc]) else .stuck) = _
      rw [if_pos (hc _)]
      simp
    | cons a ys ih =>
      intro acc S2 hm hlen hd
      have hlen' : acc.length + 1 + ys.length ≤ sizeLine := by simp at hlen; omega
      obtain ⟨sd1, S3, g1, rfl, h2⟩ := ok_of_wp (hx a (hm a (by simp)) S2 [.lst acc] hd)
      obtain ⟨b, S4, g2, rfl, rfl, h3⟩ := ok_of_wp h2
      obtain ⟨y, S5, g3, S6, rfl, d6, hy⟩ := ok_of_wp h3
      have hS : S6.length = S1.length := by rw [(hd.trans d6).len, d1.len]
      obtain ⟨zs, S7, g4, d7, f7⟩ := ih (acc ++ [y]) S6 (fun z hz => hm z (by simp [hz])) (by simp; omega) (hd.trans d6)
      refine ⟨y :: zs, S7, ?_, d7, .cons hy f7⟩
      unfold compD
      rw [if_pos (hc _), g1]
      simp only [Res.noExc, Res.bind, g2, if_true, g3]
      rw [← hS, get_last]
      simp only
      rw [if_pos (by omega), set_last, hS, g4]
      simp
  obtain ⟨zs, S3, g, d3, f3⟩ := key it.items [] S1 (fun _ h => h) (by simpa using hl) d1
  have hS : S3.length = S1.length := by rw [d3.len, d1.len]
  have e : dFrz (dComp vs fi ga ft fe) sd S = .ok (.frl zs) S3 := by
    unfold dFrz dComp
    rw [e1]
    show ((compD it.chk ga ft fe S1.length (wipeD sd vs) it.items (S1 ++ [.lst []])).bind fun _ S2 => Res.ok (D.ref S1.length) S2).bind _ = _
    rw [g]
    show frzD S (.ref S1.length) (S3 ++ [.lst ([] ++ zs)]) = _
    unfold frzD
    rw [← hS, List.nil_append]
    simp only [get_last]
    have hbz : D.blws S.length zs = true := by
      refine blws_all fun d hd => ?_
      obtain ⟨a, ha, hp⟩ := f3.mem d hd
      exact hb a ha d hp
    obtain ⟨o, rfl, hs, _⟩ := d3
    have hL : (S.set l o).length = S.length := by simp
    rw [hL]
    rw [if_pos ⟨Nat.le_refl _, cutOk_set S _ l o (st_blw hs), hbz⟩]
    congr 1
    rw [List.take_append_of_le_length (by simp)]
    exact List.take_of_length_le (by simp)
  rw [e]
  exact hq zs S3 d3 f3

def cb (b : Bool) : Nat := if b then 49 else 48
def wB (l : List Bool) : List Nat := l.map cb
theorem wB_len (l : List Bool) : (wB l).length = l.length := by simp [wB]
theorem cb_lt (b : Bool) : cb b < 1114112 := by cases b <;> decide
theorem wB_ok (l : List Bool) : Wok (wB l) := fun c hc => by
  obtain ⟨b, _, rfl⟩ := List.mem_map.mp hc
  exact cb_lt b
theorem cb_mem (b : Bool) : cb b ∈ [48, 49] := by cases b <;> decide
theorem cb_inj {a b : Bool} (h : cb a = cb b) : a = b := by cases a <;> cases b <;> first | rfl | cases h
theorem wB_inj {a b : List Bool} (h : wB a = wB b) : a = b := List.map_inj_right (fun _ _ => cb_inj) |>.mp h
theorem strsD_W : ∀ ws : List (List Nat), strsD (ws.map fun w => D.str (W w)) = some (ws.map W)
  | [] => rfl
  | w :: ws => by
    rw [List.map_cons]
    show (strsD _).map _ = _
    rw [strsD_W ws]; rfl
theorem join_W : ∀ ws : List (List Nat), Str.join (W []) (ws.map W) = W ws.flatten
  | [] => rfl
  | [w] => by simp [Str.join]
  | w :: v :: ws => by
    have ih := join_W (v :: ws)
    show W w ++ W [] ++ Str.join (W []) ((v :: ws).map W) = _
    rw [ih, W_app, W_app]; simp
theorem sum_W (ws : List (List Nat)) : ((ws.map W).map (·.length)).sum = ws.flatten.length := by
  induction ws with
  | nil => rfl
  | cons w ws ih => simp only [List.map_cons, List.sum_cons, List.flatten_cons, List.length_append, ih, W_len]
theorem join_ok {ws : List (List Nat)} {S : Sto} (h : ws.flatten.length ≤ 16777216) : joinD (.str (W [])) [.frl (ws.map fun w => .str (W w))] S = .ok (.str (W ws.flatten)) S := by
  simp only [joinD, seqD, strsD_W]
  have hz : ((ws.map W).map (·.length)).sum + (ws.map W).length * (W []).length ≤ 16777216 := by rw [sum_W, W_len]; simpa using h
  rw [if_pos hz]
  have hj : Txt.join (W []) (ws.map W) = Str.join (W []) (ws.map W) := StrLaws.glued_eq_join _ _
  rw [hj, join_W]
theorem flat_one (cs : List Nat) : (cs.map fun c => [c]).flatten = cs := by
  induction cs with
  | nil => rfl
  | cons c cs ih => simp [ih]
theorem join_signs {cs : List Nat} {S : Sto} (h : cs.length ≤ 16777216) : joinD (.str (W [])) [.frl (cs.map fun c => .str (W [c]))] S = .ok (.str (W cs)) S := by
  have e : (cs.map fun c => D.str (W [c])) = (cs.map fun c => [c]).map fun w => D.str (W w) := by simp
  rw [e, join_ok (by rw [flat_one]; exact h), flat_one]
theorem ix_W {l : List Nat} {i : Int} {S : Sto} {c : Nat} (hl : l.length ≤ sizeLine) (h : atI l i = some c) : ixD (.str (W l)) (.int i) S = .ok (.str (W [c])) S := by
  simp only [ixD]
  rw [if_pos (by rw [W_len]; exact hl), W_cps, h]
  rfl
theorem szn {n : Nat} (h : n ≤ 16777216) : n ≤ sizeLine := by rw [sizeLine_eq]; exact h
theorem at01 {v : Int} (h0 : 0 ≤ v) (h1 : v < 2) : atI [48, 49] v = some (cb (decide (v = 1))) := by
  have : v = 0 ∨ v = 1 := by omega
  rcases this with rfl | rfl <;> rfl
def isWord (w : List Nat) (many : Int) (signs : List Nat) : Bool := decide ((w.length : Int) = many) && w.all fun c => decide (c ∈ signs)
theorem is_word_ok {w signs : List Nat} {many : Int} {S : Sto} (hw : Wok w) (h : w.length ≤ 16777216) : F_is_word [.str (W w), .int many, .str (W signs)] S = .ok (.bl (isWord w many signs)) S := by
  unfold F_is_word
  refine fn_ok rfl ?_
  unfold b_is_word
  simp only [z6, z5, wq_a, wq_b, wq_c, wq_d, wq_e, wq_f, wq_g, Int.reduceToNat, Int.reduceLE, Int.reduceLT, Int.reduceNeg, startD, List.replicate, Nat.reduceAdd, Nat.reduceSub, Nat.reduceEqDiff, if_true, if_false, Int.reduceEq, Int.reduceAdd, Int.reduceSub, Int.reduceMul, eq_self, w_lenS (show (W w).length ≤ sizeLine by rw [W_len]; exact szn h), W_len]
  by_cases e : (w.length : Int) = many
  · simp only [e, z6, z5, wq_a, wq_b, wq_c, wq_d, wq_e, wq_f, wq_g, Int.reduceToNat, Int.reduceLE, Int.reduceLT, Int.reduceNeg, startD, List.replicate, Nat.reduceAdd, Nat.reduceSub, Nat.reduceEqDiff, if_true, if_false, Int.reduceEq, Int.reduceAdd, Int.reduceSub, Int.reduceMul, eq_self]
    have hc : dFrz (dComp [3] (iVal (dVar 0)) (gVar 3) (d2T notInD (dVar 3) (dVar 2)) (dVar 3)) [some (.str (W w)), some (.int many), some (.str (W signs)), none] S = .ok (.frl ((w.filter fun c => !decide (c ∈ signs)).map fun c => .str (W [c]))) S := by
      refine compF w (fun c => .str (W [c])) _ _ ?_ (Nat.le_trans (List.length_filter_le _ _) (szn h)) ?_ ?_
      · simp only [z6, z5, wq_a, wq_b, wq_c, wq_d, wq_e, wq_f, wq_g, Int.reduceToNat, Int.reduceLE, Int.reduceLT, Int.reduceNeg, startD, List.replicate, Nat.reduceAdd, Nat.reduceSub, Nat.reduceEqDiff, if_true, if_false, Int.reduceEq, Int.reduceAdd, Int.reduceSub, Int.reduceMul, eq_self, itemsD, signsD, W_cps]
        exact ⟨trivial, rfl, fun _ _ => rfl⟩
      · intro c _ S' _
        simp only [z6, z5, wq_a, wq_b, wq_c, wq_d, wq_e, wq_f, wq_g, Int.reduceToNat, Int.reduceLE, Int.reduceLT, Int.reduceNeg, startD, List.replicate, Nat.reduceAdd, Nat.reduceSub, Nat.reduceEqDiff, if_true, if_false, Int.reduceEq, Int.reduceAdd, Int.reduceSub, Int.reduceMul, eq_self, wipeD, notInD, has_sign]
        exact ⟨trivial, trivial, trivial, fun _ => ⟨trivial, trivial⟩⟩
      · intro c _ _; rfl
    simp only [hc, z6, z5, wq_a, wq_b, wq_c, wq_d, wq_e, wq_f, wq_g, Int.reduceToNat, Int.reduceLE, Int.reduceLT, Int.reduceNeg, startD, List.replicate, Nat.reduceAdd, Nat.reduceSub, Nat.reduceEqDiff, if_true, if_false, Int.reduceEq, Int.reduceAdd, Int.reduceSub, Int.reduceMul, eq_self]
    rw [w_eqNil (n := 0) fun c hc => gd_W fun x hx => by rw [List.mem_singleton] at hx; rw [hx]; exact hw c hc]
    simp only [z6, z5, wq_a, wq_b, wq_c, wq_d, wq_e, wq_f, wq_g, Int.reduceToNat, Int.reduceLE, Int.reduceLT, Int.reduceNeg, startD, List.replicate, Nat.reduceAdd, Nat.reduceSub, Nat.reduceEqDiff, if_true, if_false, Int.reduceEq, Int.reduceAdd, Int.reduceSub, Int.reduceMul, eq_self]
    refine ⟨?_, app_nil S⟩
    simp [isWord, e]
  · simp only [e, z6, z5, wq_a, wq_b, wq_c, wq_d, wq_e, wq_f, wq_g, Int.reduceToNat, Int.reduceLE, Int.reduceLT, Int.reduceNeg, startD, List.replicate, Nat.reduceAdd, Nat.reduceSub, Nat.reduceEqDiff, if_true, if_false, Int.reduceEq, Int.reduceAdd, Int.reduceSub, Int.reduceMul, eq_self]
    refine ⟨?_, app_nil S⟩
    simp [isWord, e]

theorem deed_ok {l : Nat} {S : Sto} {outs : Int} (h : At l S) (h0 : 0 ≤ outs := by omega) (h1 : outs ≤ 1000 := by omega) :
    Gn l S (F__law_deed [.ref l, .int outs] S) (fun d => ∃ w : List Bool, d = .str (W (wB w)) ∧ (w.length : Int) = outs) := by
  unfold F__law_deed
  refine fn_gn ?_
  unfold b__law_deed
  simp only [z6, z5, wq_a, wq_b, wq_c, wq_d, wq_e, wq_f, wq_g, Int.reduceToNat, Int.reduceLE, Int.reduceLT, Int.reduceNeg, startD, List.replicate, Nat.reduceAdd, Nat.reduceSub, Nat.reduceEqDiff, if_true, if_false, Int.reduceEq, Int.reduceAdd, Int.reduceSub, Int.reduceMul, eq_self]
  rw [zm (show isTy "str" (.str (Str.ofString "")) S = true from rfl)]
  simp only [z6, z5, wq_a, wq_b, wq_c, wq_d, wq_e, wq_f, wq_g, Int.reduceToNat, Int.reduceLE, Int.reduceLT, Int.reduceNeg, startD, List.replicate, Nat.reduceAdd, Nat.reduceSub, Nat.reduceEqDiff, if_true, if_false, Int.reduceEq, Int.reduceAdd, Int.reduceSub, Int.reduceMul, eq_self]
  refine compG (fun _ y => ∃ b, y = .str (W [cb b])) h.lt ?_
  simp only [z6, z5, wq_a, wq_b, wq_c, wq_d, wq_e, wq_f, wq_g, Int.reduceToNat, Int.reduceLE, Int.reduceLT, Int.reduceNeg, startD, List.replicate, Nat.reduceAdd, Nat.reduceSub, Nat.reduceEqDiff, if_true, if_false, Int.reduceEq, Int.reduceAdd, Int.reduceSub, Int.reduceMul, eq_self]
  rw [zm (rng_okI (by omega) (by omega))]
  simp only [z6, z5, wq_a, wq_b, wq_c, wq_d, wq_e, wq_f, wq_g, Int.reduceToNat, Int.reduceLE, Int.reduceLT, Int.reduceNeg, startD, List.replicate, Nat.reduceAdd, Nat.reduceSub, Nat.reduceEqDiff, if_true, if_false, Int.reduceEq, Int.reduceAdd, Int.reduceSub, Int.reduceMul, eq_self]
  refine ⟨h.self, szn (by rw [rangeL_len]; omega), fun _ => rfl, fun x hx S' T hd => ?_, ?_, ?_⟩
  · simp only [z6, z5, wq_a, wq_b, wq_c, wq_d, wq_e, wq_f, wq_g, Int.reduceToNat, Int.reduceLE, Int.reduceLT, Int.reduceNeg, startD, List.replicate, Nat.reduceAdd, Nat.reduceSub, Nat.reduceEqDiff, if_true, if_false, Int.reduceEq, Int.reduceAdd, Int.reduceSub, Int.reduceMul, eq_self, wipeD]
    refine ⟨trivial, trivial, trivial, ?_⟩
    refine (draw (hd.at.app T)).wT hd.at.lt ?_
    rintro _ S2 d2 ⟨v, rfl, v0, v1⟩
    simp only [z6, z5, wq_a, wq_b, wq_c, wq_d, wq_e, wq_f, wq_g, Int.reduceToNat, Int.reduceLE, Int.reduceLT, Int.reduceNeg, startD, List.replicate, Nat.reduceAdd, Nat.reduceSub, Nat.reduceEqDiff, if_true, if_false, Int.reduceEq, Int.reduceAdd, Int.reduceSub, Int.reduceMul, eq_self, W_01]
    rw [ix_W (by decide) (at01 v0 v1)]
    exact ⟨S2, rfl, d2, _, rfl⟩
  · rintro x _ y ⟨b, rfl⟩
    rfl
  · intro ys S' hd f
    obtain ⟨cs, rfl⟩ := f.ex (f := fun b : Bool => D.str (W [cb b])) fun a _ b hb => hb
    have hlen := f.len
    rw [rangeL_len, List.length_map] at hlen
    have e : (cs.map fun b => D.str (W [cb b])) = (wB cs).map fun c => D.str (W [c]) := by simp [wB]
    simp only [z6, z5, wq_a, wq_b, wq_c, wq_d, wq_e, wq_f, wq_g, Int.reduceToNat, Int.reduceLE, Int.reduceLT, Int.reduceNeg, startD, List.replicate, Nat.reduceAdd, Nat.reduceSub, Nat.reduceEqDiff, if_true, if_false, Int.reduceEq, Int.reduceAdd, Int.reduceSub, Int.reduceMul, eq_self, W_empty]
    rw [e, join_signs (by rw [wB_len]; omega)]
    simp only [z6, z5, wq_a, wq_b, wq_c, wq_d, wq_e, wq_f, wq_g, Int.reduceToNat, Int.reduceLE, Int.reduceLT, Int.reduceNeg, startD, List.replicate, Nat.reduceAdd, Nat.reduceSub, Nat.reduceEqDiff, if_true, if_false, Int.reduceEq, Int.reduceAdd, Int.reduceSub, Int.reduceMul, eq_self]
    exact Dr.out (P := fun d => ∃ w : List Bool, d = .str (W (wB w)) ∧ (w.length : Int) = outs) hd rfl ⟨cs, rfl, by omega⟩

theorem beat_ok {l : Nat} {S : Sto} {outs : Int} (h : At l S) (h0 : 0 ≤ outs := by omega) (h1 : outs ≤ 1000 := by omega) :
    Gn l S (F__law_beat [.ref l, .int outs] S) (fun d => ∃ w : List Bool, d = .str (W (wB w)) ∧ (w.length : Int) = outs) := by
  unfold F__law_beat
  refine fn_gn ?_
  unfold b__law_beat
  simp only [z6, z5, wq_a, wq_b, wq_c, wq_d, wq_e, wq_f, wq_g, Int.reduceToNat, Int.reduceLE, Int.reduceLT, Int.reduceNeg, startD, List.replicate, Nat.reduceAdd, Nat.reduceSub, Nat.reduceEqDiff, if_true, if_false, Int.reduceEq, Int.reduceAdd, Int.reduceSub, Int.reduceMul, eq_self]
  rw [zm (show isTy "str" (.str (Str.ofString "")) S = true from rfl)]
  simp only [z6, z5, wq_a, wq_b, wq_c, wq_d, wq_e, wq_f, wq_g, Int.reduceToNat, Int.reduceLE, Int.reduceLT, Int.reduceNeg, startD, List.replicate, Nat.reduceAdd, Nat.reduceSub, Nat.reduceEqDiff, if_true, if_false, Int.reduceEq, Int.reduceAdd, Int.reduceSub, Int.reduceMul, eq_self]
  refine compG (fun _ y => ∃ b, y = .str (W [cb b])) h.lt ?_
  simp only [z6, z5, wq_a, wq_b, wq_c, wq_d, wq_e, wq_f, wq_g, Int.reduceToNat, Int.reduceLE, Int.reduceLT, Int.reduceNeg, startD, List.replicate, Nat.reduceAdd, Nat.reduceSub, Nat.reduceEqDiff, if_true, if_false, Int.reduceEq, Int.reduceAdd, Int.reduceSub, Int.reduceMul, eq_self]
  rw [zm (rng_okI (by omega) (by omega))]
  simp only [z6, z5, wq_a, wq_b, wq_c, wq_d, wq_e, wq_f, wq_g, Int.reduceToNat, Int.reduceLE, Int.reduceLT, Int.reduceNeg, startD, List.replicate, Nat.reduceAdd, Nat.reduceSub, Nat.reduceEqDiff, if_true, if_false, Int.reduceEq, Int.reduceAdd, Int.reduceSub, Int.reduceMul, eq_self]
  refine ⟨h.self, szn (by rw [rangeL_len]; omega), fun _ => rfl, fun x hx S' T hd => ?_, ?_, ?_⟩
  · simp only [z6, z5, wq_a, wq_b, wq_c, wq_d, wq_e, wq_f, wq_g, Int.reduceToNat, Int.reduceLE, Int.reduceLT, Int.reduceNeg, startD, List.replicate, Nat.reduceAdd, Nat.reduceSub, Nat.reduceEqDiff, if_true, if_false, Int.reduceEq, Int.reduceAdd, Int.reduceSub, Int.reduceMul, eq_self, wipeD]
    refine ⟨trivial, trivial, trivial, ?_⟩
    refine (draw (hd.at.app T)).wT hd.at.lt ?_
    rintro _ S2 d2 ⟨v, rfl, v0, v1⟩
    simp only [z6, z5, wq_a, wq_b, wq_c, wq_d, wq_e, wq_f, wq_g, Int.reduceToNat, Int.reduceLE, Int.reduceLT, Int.reduceNeg, startD, List.replicate, Nat.reduceAdd, Nat.reduceSub, Nat.reduceEqDiff, if_true, if_false, Int.reduceEq, Int.reduceAdd, Int.reduceSub, Int.reduceMul, eq_self, W_01]
    rw [ix_W (by decide) (at01 v0 v1)]
    exact ⟨S2, rfl, d2, _, rfl⟩
  · rintro x _ y ⟨b, rfl⟩
    rfl
  · intro ys S' hd f
    obtain ⟨cs, rfl⟩ := f.ex (f := fun b : Bool => D.str (W [cb b])) fun a _ b hb => hb
    have hlen := f.len
    rw [rangeL_len, List.length_map] at hlen
    have e : (cs.map fun b => D.str (W [cb b])) = (wB cs).map fun c => D.str (W [c]) := by simp [wB]
    simp only [z6, z5, wq_a, wq_b, wq_c, wq_d, wq_e, wq_f, wq_g, Int.reduceToNat, Int.reduceLE, Int.reduceLT, Int.reduceNeg, startD, List.replicate, Nat.reduceAdd, Nat.reduceSub, Nat.reduceEqDiff, if_true, if_false, Int.reduceEq, Int.reduceAdd, Int.reduceSub, Int.reduceMul, eq_self, W_empty]
    rw [e, join_signs (by rw [wB_len]; omega)]
    simp only [z6, z5, wq_a, wq_b, wq_c, wq_d, wq_e, wq_f, wq_g, Int.reduceToNat, Int.reduceLE, Int.reduceLT, Int.reduceNeg, startD, List.replicate, Nat.reduceAdd, Nat.reduceSub, Nat.reduceEqDiff, if_true, if_false, Int.reduceEq, Int.reduceAdd, Int.reduceSub, Int.reduceMul, eq_self]
    exact Dr.out (P := fun d => ∃ w : List Bool, d = .str (W (wB w)) ∧ (w.length : Int) = outs) hd rfl ⟨cs, rfl, by omega⟩

def b01 : List Nat := [48, 49]
theorem isWord_wB {b : List Bool} {n : Int} (h : (b.length : Int) = n) : isWord (wB b) n b01 = true := by
  unfold isWord
  rw [wB_len, decide_eq_true h, Bool.true_and, List.all_eq_true]
  intro c hc
  obtain ⟨x, _, rfl⟩ := List.mem_map.mp hc
  exact decide_eq_true (cb_mem x)
def allB : Nat → List (List Bool)
  | 0 => [[]]
  | n + 1 => (allB n).map (false :: ·) ++ (allB n).map (true :: ·)
theorem allB_len : ∀ (n : Nat) (b : List Bool), b ∈ allB n → b.length = n
  | 0, b, h => by simp [allB] at h; simp [h]
  | n + 1, b, h => by
    simp only [allB, List.mem_append, List.mem_map] at h
    rcases h with ⟨a, ha, rfl⟩ | ⟨a, ha, rfl⟩ <;> simp [allB_len n a ha]
theorem allB_many : ∀ n : Nat, (allB n).length = 2 ^ n
  | 0 => rfl
  | n + 1 => by simp only [allB, List.length_append, List.length_map, allB_many n]; omega
def sW (b : List Bool) : D := .str (W (wB b))

abbrev En : Type := List Bool × Nat
def enD (e : En) : D := .tup [.str (W (wB e.1)), .int ((e.2 : Nat) : Int)]
def rowD (r : List En) : D := .tup (r.map enD)
def plD (ins outs : Nat) (rows : List (List En)) : D := .tup [.int ((ins : Nat) : Int), .int ((outs : Nat) : Int), .tup (rows.map rowD)]
structure PM (ins outs : Nat) (rows : List (List En)) : Prop where
  i1 : 1 ≤ ins
  i4 : ins ≤ 4
  o1 : 1 ≤ outs
  o3 : outs ≤ 3
  n1 : 1 ≤ rows.length
  n200 : rows.length ≤ 200
  len : ∀ r ∈ rows, r.length = 2 ^ ins
  deed : ∀ r ∈ rows, ∀ e ∈ r, e.1.length = outs
  nxt : ∀ r ∈ rows, ∀ e ∈ r, e.2 < rows.length
theorem enD_gd (e : En) : GD 1 (enD e) := gd_tup fun d hd => by
  have : d = .str (W (wB e.1)) ∨ d = .int ((e.2 : Nat) : Int) := by simpa using hd
  rcases this with rfl | rfl
  · exact gd_W (wB_ok _)
  · exact gd_int
theorem rowD_gd (r : List En) : GD 2 (rowD r) := gd_tup (gd_map fun e _ => enD_gd e)
theorem plD_gd {ins outs : Nat} {rows : List (List En)} : GD 4 (plD ins outs rows) := gd_tup fun d hd => by
  have : d = .int ((ins : Nat) : Int) ∨ d = .int ((outs : Nat) : Int) ∨ d = .tup (rows.map rowD) := by simpa using hd
  rcases this with rfl | rfl | rfl
  · exact gd_int
  · exact gd_int
  · exact gd_tup (gd_map fun r _ => rowD_gd r)
theorem pow_le {ins : Nat} (h : ins ≤ 4) : 2 ^ ins ≤ 16 := by
  have : ins = 0 ∨ ins = 1 ∨ ins = 2 ∨ ins = 3 ∨ ins = 4 := by omega
  rcases this with rfl | rfl | rfl | rfl | rfl <;> decide
theorem at_counts {ins : Nat} (h : ins ≤ 4) : atI [D.int 1, .int 2, .int 4, .int 8, .int 16] ((ins : Nat) : Int) = some (.int ((2 ^ ins : Nat) : Int)) := by
  have : ins = 0 ∨ ins = 1 ∨ ins = 2 ∨ ins = 3 ∨ ins = 4 := by omega
  rcases this with rfl | rfl | rfl | rfl | rfl <;> rfl
theorem get_mid {A T : Sto} {o : DO} {n : Nat} (h : A.length = n) : (A ++ o :: T)[n]? = some o := by
  subst h; simp
theorem set_mid {A T : Sto} {o o' : DO} {n : Nat} (h : A.length = n) : (A ++ o :: T).set n o' = A ++ o' :: T := by
  subst h
  rw [List.set_append_right _ _ (Nat.le_refl _)]
  simp
theorem w_tupL {l : Nat} {xs : List D} {S : Sto} {Q : D → Sto → Prop} {X : Exc → Sto → Prop} (h : S[l]? = some (.lst xs)) : Wp (tupleD [.ref l] S) Q X = Q (.tup xs) S := by
  simp only [tupleD, seqD, lsD, h]
  rfl
theorem isTy_lst {l : Nat} {xs : List D} {S : Sto} (h : S[l]? = some (.lst xs)) : isTy "list" (.ref l) S = true := by
  simp only [isTy, h]
  rfl
theorem w_min2 {a b : Int} {S : Sto} {Q : D → Sto → Prop} {X : Exc → Sto → Prop} : Wp (min2D [.int a, .int b] S) Q X = Q (.int (if b < a then b else a)) S := rfl
def PL (most wires : Int) (d : D) : Prop := ∃ ins outs rows, d = plD ins outs rows ∧ PM ins outs rows ∧ ((rows.length : Nat) : Int) ≤ most ∧ ((ins : Nat) : Int) ≤ wires
theorem few_ok {l : Nat} {S : Sto} {outs : Int} {sd : Sl} {fi : Sl → Sto → Res ItD} {Q : D → Sto → Prop} {X : Exc → Sto → Prop} (v : Nat) (fe : Sl → Sto → Res D) (hlt : l < S.length)
    (hi : Wp (fi sd S) (fun it S1 => Dr l S S1 ∧ (1 ≤ it.items.length ∧ it.items.length ≤ 3) ∧ (∀ S', it.chk S' = true)) NX)
    (hx : ∀ x S' T, Dr l S S' → Wp (fe ((wipeD sd [v]).set v (some x)) (S' ++ T)) (fun y S4 => ∃ S5, S4 = S5 ++ T ∧ Dr l S' S5 ∧ ∃ w : List Bool, y = .str (W (wB w)) ∧ (w.length : Int) = outs) NX)
    (hq : ∀ (ws : List (List Bool)) S', Dr l S S' → 1 ≤ ws.length → ws.length ≤ 3 → (∀ w ∈ ws, (w.length : Int) = outs) → Q (.frl (ws.map sW)) S') : Wp (dFrz (dComp [v] fi (gVar v) tYesD fe) sd S) Q X := by
  refine compG (fun _ y => ∃ w : List Bool, y = .str (W (wB w)) ∧ (w.length : Int) = outs) hlt (Wp.mono hi (fun it S1 ⟨d1, hl, hc⟩ => ?_) fun _ _ z => z)
  refine ⟨d1, szn (by omega), hc, fun x _ S' T hd => ?_, ?_, fun ys S' hd f => ?_⟩
  · simp only [z6, z5, wq_a, wq_b, wq_c, wq_d, wq_e, wq_f, wq_g, Int.reduceToNat, Int.reduceLE, Int.reduceLT, Int.reduceNeg, startD, List.replicate, Nat.reduceAdd, Nat.reduceSub, Nat.reduceEqDiff, if_true, if_false, Int.reduceEq, Int.reduceAdd, Int.reduceSub, Int.reduceMul, eq_self]
    exact ⟨trivial, trivial, trivial, hx x S' T hd⟩
  · rintro x _ y ⟨u, rfl, _⟩
    rfl
  · obtain ⟨us, rfl⟩ := f.ex (f := sW) fun a _ b hb => ⟨hb.choose, hb.choose_spec.1⟩
    have hlen := f.len
    rw [List.length_map] at hlen
    refine hq us S' hd (by omega) (by omega) fun u hu => ?_
    obtain ⟨a, _, u', e, h0⟩ := f.mem (sW u) (List.mem_map.mpr ⟨u, hu, rfl⟩)
    have : u = u' := by
      unfold sW at e
      injection e with e
      exact wB_inj (W_inj.mp e)
    subst this
    exact h0
theorem plain_ok {l : Nat} {S : Sto} {most wires : Int} (h : At l S) (hm : 1 ≤ most := by omega) (hm2 : most ≤ 200 := by omega) (hw : 1 ≤ wires := by omega) (hw4 : wires ≤ 4 := by omega) : Gn l S (F__law_plain [.ref l, .int most, .int wires] S) (PL most wires) := by
  unfold F__law_plain
  refine fn_gn ?_
  unfold b__law_plain
  simp only [z6, z5, wq_a, wq_b, wq_c, wq_d, wq_e, wq_f, wq_g, Int.reduceToNat, Int.reduceLE, Int.reduceLT, Int.reduceNeg, startD, List.replicate, Nat.reduceAdd, Nat.reduceSub, Nat.reduceEqDiff, if_true, if_false, Int.reduceEq, Int.reduceAdd, Int.reduceSub, Int.reduceMul, eq_self]
  refine (draw h (many := wires)).w ?_
  rintro _ S1 d1 ⟨a, rfl, a0, a1⟩
  simp only [z6, z5, wq_a, wq_b, wq_c, wq_d, wq_e, wq_f, wq_g, Int.reduceToNat, Int.reduceLE, Int.reduceLT, Int.reduceNeg, startD, List.replicate, Nat.reduceAdd, Nat.reduceSub, Nat.reduceEqDiff, if_true, if_false, Int.reduceEq, Int.reduceAdd, Int.reduceSub, Int.reduceMul, eq_self]
  refine (draw d1.at).w ?_
  rintro _ S2 d2 ⟨b, rfl, b0, b1⟩
  simp only [z6, z5, wq_a, wq_b, wq_c, wq_d, wq_e, wq_f, wq_g, Int.reduceToNat, Int.reduceLE, Int.reduceLT, Int.reduceNeg, startD, List.replicate, Nat.reduceAdd, Nat.reduceSub, Nat.reduceEqDiff, if_true, if_false, Int.reduceEq, Int.reduceAdd, Int.reduceSub, Int.reduceMul, eq_self]
  refine (draw d2.at (many := most)).w ?_
  rintro _ S3 d3 ⟨c, rfl, c0, c1⟩
  obtain ⟨ins, hins⟩ : ∃ ins : Nat, 1 + a = ((ins : Nat) : Int) := ⟨(1 + a).toNat, by omega⟩
  obtain ⟨outs, houts⟩ : ∃ outs : Nat, 1 + b = ((outs : Nat) : Int) := ⟨(1 + b).toNat, by omega⟩
  obtain ⟨many, hmany⟩ : ∃ many : Nat, 1 + c = ((many : Nat) : Int) := ⟨(1 + c).toNat, by omega⟩
  simp only [z6, z5, wq_a, wq_b, wq_c, wq_d, wq_e, wq_f, wq_g, Int.reduceToNat, Int.reduceLE, Int.reduceLT, Int.reduceNeg, startD, List.replicate, Nat.reduceAdd, Nat.reduceSub, Nat.reduceEqDiff, if_true, if_false, Int.reduceEq, Int.reduceAdd, Int.reduceSub, Int.reduceMul, eq_self, hins, houts, hmany]
  refine few_ok (l := l) (outs := ((outs : Nat) : Int)) 11 _ d3.at.lt ?_ ?_ ?_
  · simp only [z6, z5, wq_a, wq_b, wq_c, wq_d, wq_e, wq_f, wq_g, Int.reduceToNat, Int.reduceLE, Int.reduceLT, Int.reduceNeg, startD, List.replicate, Nat.reduceAdd, Nat.reduceSub, Nat.reduceEqDiff, if_true, if_false, Int.reduceEq, Int.reduceAdd, Int.reduceSub, Int.reduceMul, eq_self]
    refine (draw d3.at).w ?_
    rintro _ S5 d5 ⟨t, rfl, t0, t1⟩
    simp only [z6, z5, wq_a, wq_b, wq_c, wq_d, wq_e, wq_f, wq_g, Int.reduceToNat, Int.reduceLE, Int.reduceLT, Int.reduceNeg, startD, List.replicate, Nat.reduceAdd, Nat.reduceSub, Nat.reduceEqDiff, if_true, if_false, Int.reduceEq, Int.reduceAdd, Int.reduceSub, Int.reduceMul, eq_self]
    rw [zm (rng_okI (by omega) (by omega))]
    simp only [z6, z5, wq_a, wq_b, wq_c, wq_d, wq_e, wq_f, wq_g, Int.reduceToNat, Int.reduceLE, Int.reduceLT, Int.reduceNeg, startD, List.replicate, Nat.reduceAdd, Nat.reduceSub, Nat.reduceEqDiff, if_true, if_false, Int.reduceEq, Int.reduceAdd, Int.reduceSub, Int.reduceMul, eq_self]
    exact ⟨d5, by rw [rangeL_len]; omega, fun _ => rfl⟩
  · intro x S' T hd
    simp only [z6, z5, wq_a, wq_b, wq_c, wq_d, wq_e, wq_f, wq_g, Int.reduceToNat, Int.reduceLE, Int.reduceLT, Int.reduceNeg, startD, List.replicate, Nat.reduceAdd, Nat.reduceSub, Nat.reduceEqDiff, if_true, if_false, Int.reduceEq, Int.reduceAdd, Int.reduceSub, Int.reduceMul, eq_self, wipeD]
    refine (deed_ok (hd.at.app T) (outs := ((outs : Nat) : Int))).wT hd.at.lt ?_
    rintro _ S6 d6 ⟨u, rfl, hu⟩
    exact ⟨S6, rfl, d6, u, rfl, hu⟩
  intro few S4 d4 f1 f3 fd
  simp only [z6, z5, wq_a, wq_b, wq_c, wq_d, wq_e, wq_f, wq_g, Int.reduceToNat, Int.reduceLE, Int.reduceLT, Int.reduceNeg, startD, List.replicate, Nat.reduceAdd, Nat.reduceSub, Nat.reduceEqDiff, if_true, if_false, Int.reduceEq, Int.reduceAdd, Int.reduceSub, Int.reduceMul, eq_self]
  refine (draw d4.at).w ?_
  rintro _ S5 d5 ⟨near, rfl, n0, n1⟩
  have dA := (((d1.trans d2).trans d3).trans d4).trans d5
  simp only [z6, z5, wq_a, wq_b, wq_c, wq_d, wq_e, wq_f, wq_g, Int.reduceToNat, Int.reduceLE, Int.reduceLT, Int.reduceNeg, startD, List.replicate, Nat.reduceAdd, Nat.reduceSub, Nat.reduceEqDiff, if_true, if_false, Int.reduceEq, Int.reduceAdd, Int.reduceSub, Int.reduceMul, eq_self]
  rw [zm (rng_okI (by omega) (by omega))]
  have hlenA : S5.length = S.length := dA.len
  simp only [z6, z5, wq_a, wq_b, wq_c, wq_d, wq_e, wq_f, wq_g, Int.reduceToNat, Int.reduceLE, Int.reduceLT, Int.reduceNeg, startD, List.replicate, Nat.reduceAdd, Nat.reduceSub, Nat.reduceEqDiff, if_true, if_false, Int.reduceEq, Int.reduceAdd, Int.reduceSub, Int.reduceMul, eq_self, Int.toNat_natCast]
  have i4 : ins ≤ 4 := by omega
  have p16 := pow_le i4
  refine w_rangeP (fun i sd S' => ∃ (SA T : Sto) (rs : List (List En)) (a9 a10 a11 a12 a13 : Option D), S' = SA ++ .lst (rs.map rowD) :: T ∧ Dr l S SA ∧ rs.length = i ∧ (∀ r ∈ rs, r.length = 2 ^ ins ∧ ∀ e ∈ r, e.1.length = outs ∧ e.2 < many) ∧ sd = [some (.ref l), some (.int most), some (.int wires), some (.int ((ins : Nat) : Int)), some (.int ((outs : Nat) : Int)), some (.int ((many : Nat) : Int)), some (.frl (few.map sW)), some (.int near), some (.ref S.length), a9, a10, a11, a12, a13]) 0 many (fun _ _ _ _ _ => rfl) ⟨S5, [], [], _, _, _, _, _, rfl, dA, rfl, (fun _ h => by cases h), by rw [hlenA]⟩ ?_ ?_
  · rintro sd S' ⟨SA, T, rs, a9, a10, a11, a12, a13, rfl, hd, hl, hg, rfl⟩
    simp only [z6, z5, wq_a, wq_b, wq_c, wq_d, wq_e, wq_f, wq_g, Int.reduceToNat, Int.reduceLE, Int.reduceLT, Int.reduceNeg, startD, List.replicate, Nat.reduceAdd, Nat.reduceSub, Nat.reduceEqDiff, if_true, if_false, Int.reduceEq, Int.reduceAdd, Int.reduceSub, Int.reduceMul, eq_self]
    rw [w_tupL (get_mid hd.len)]
    simp only [z6, z5, wq_a, wq_b, wq_c, wq_d, wq_e, wq_f, wq_g, Int.reduceToNat, Int.reduceLE, Int.reduceLT, Int.reduceNeg, startD, List.replicate, Nat.reduceAdd, Nat.reduceSub, Nat.reduceEqDiff, if_true, if_false, Int.reduceEq, Int.reduceAdd, Int.reduceSub, Int.reduceMul, eq_self]
    have hp : PM ins outs rs := ⟨by omega, i4, by omega, by omega, by omega, by omega, fun r hr => (hg r hr).1, fun r hr e he => ((hg r hr).2 e he).1, fun r hr e he => by rw [hl]; exact ((hg r hr).2 e he).2⟩
    exact ⟨SA, _, rfl, hd, gd_blw _ (plD_gd (ins := ins) (outs := outs) (rows := rs)), ins, outs, rs, rfl, hp, by omega, by omega⟩
  · rintro i sd S' hi ⟨SA, T, rs, a9, a10, a11, a12, a13, rfl, hd, hl, hg, rfl⟩
    simp only [z6, z5, wq_a, wq_b, wq_c, wq_d, wq_e, wq_f, wq_g, Int.reduceToNat, Int.reduceLE, Int.reduceLT, Int.reduceNeg, startD, List.replicate, Nat.reduceAdd, Nat.reduceSub, Nat.reduceEqDiff, if_true, if_false, Int.reduceEq, Int.reduceAdd, Int.reduceSub, Int.reduceMul, eq_self, at_counts i4]
    rw [zm (rng_okI (Int.le_trans (by decide) (Int.natCast_nonneg _)) (Int.le_trans (Int.ofNat_le.mpr p16) (by decide)))]
    simp only [z6, z5, wq_a, wq_b, wq_c, wq_d, wq_e, wq_f, wq_g, Int.reduceToNat, Int.reduceLE, Int.reduceLT, Int.reduceNeg, startD, List.replicate, Nat.reduceAdd, Nat.reduceSub, Nat.reduceEqDiff, if_true, if_false, Int.reduceEq, Int.reduceAdd, Int.reduceSub, Int.reduceMul, eq_self, Int.toNat_natCast]
    have eL : (SA ++ DO.lst (rs.map rowD) :: T).length = S.length + 1 + T.length := by rw [List.length_append, hd.len, List.length_cons]; omega
    rw [eL]
    refine w_rangeP (fun j sd S' => ∃ (SB : Sto) (r : List En) (a11 a12 a13 : Option D), S' = (SB ++ .lst (rs.map rowD) :: T) ++ [.lst (r.map enD)] ∧ Dr l S SB ∧ r.length = j ∧ (∀ e ∈ r, e.1.length = outs ∧ e.2 < many) ∧ sd = [some (.ref l), some (.int most), some (.int wires), some (.int ((ins : Nat) : Int)), some (.int ((outs : Nat) : Int)), some (.int ((many : Nat) : Int)), some (.frl (few.map sW)), some (.int near), some (.ref S.length), some (.int (0 + ((i : Nat) : Int))), some (.ref (S.length + 1 + T.length)), a11, a12, a13]) 0 (2 ^ ins) (fun _ _ _ _ _ => rfl) ⟨SA, [], _, _, _, rfl, hd, rfl, (fun _ h => by cases h), rfl⟩ ?_ ?_
    · rintro sd S' ⟨SB, r, b11, b12, b13, rfl, hdB, hlr, hgr, rfl⟩
      have hX : ((SB ++ DO.lst (rs.map rowD) :: T) ++ [.lst (r.map enD)])[S.length]? = some (.lst (rs.map rowD)) := by
        rw [List.append_assoc]
        exact get_mid hdB.len
      have eB : (SB ++ DO.lst (rs.map rowD) :: T).length = S.length + 1 + T.length := by rw [List.length_append, hdB.len, List.length_cons]; omega
      have hY : ((SB ++ DO.lst (rs.map rowD) :: T) ++ [.lst (r.map enD)])[S.length + 1 + T.length]? = some (.lst (r.map enD)) := by
        rw [← eB]; exact get_last
      simp only [z6, z5, wq_a, wq_b, wq_c, wq_d, wq_e, wq_f, wq_g, Int.reduceToNat, Int.reduceLE, Int.reduceLT, Int.reduceNeg, startD, List.replicate, Nat.reduceAdd, Nat.reduceSub, Nat.reduceEqDiff, if_true, if_false, Int.reduceEq, Int.reduceAdd, Int.reduceSub, Int.reduceMul, eq_self]
      rw [zm (isTy_lst hX)]
      simp only [z6, z5, wq_a, wq_b, wq_c, wq_d, wq_e, wq_f, wq_g, Int.reduceToNat, Int.reduceLE, Int.reduceLT, Int.reduceNeg, startD, List.replicate, Nat.reduceAdd, Nat.reduceSub, Nat.reduceEqDiff, if_true, if_false, Int.reduceEq, Int.reduceAdd, Int.reduceSub, Int.reduceMul, eq_self]
      rw [w_tupL hY]
      simp only [z6, z5, wq_a, wq_b, wq_c, wq_d, wq_e, wq_f, wq_g, Int.reduceToNat, Int.reduceLE, Int.reduceLT, Int.reduceNeg, startD, List.replicate, Nat.reduceAdd, Nat.reduceSub, Nat.reduceEqDiff, if_true, if_false, Int.reduceEq, Int.reduceAdd, Int.reduceSub, Int.reduceMul, eq_self]
      rw [w_appL hX (by rw [List.length_map, sizeLine_eq]; omega), List.append_assoc, List.cons_append, set_mid hdB.len]
      refine ⟨SB, T ++ [.lst (r.map enD)], rs ++ [r], _, _, _, _, _, by rw [List.map_append]; rfl, hdB, by simp [hl], fun x hx => ?_, rfl⟩
      rcases List.mem_append.mp hx with hx | hx
      · exact hg x hx
      · rw [List.mem_singleton] at hx
        subst hx
        exact ⟨hlr, hgr⟩
    · rintro j sd S' hj ⟨SB, r, b11, b12, b13, rfl, hdB, hlr, hgr, rfl⟩
      have reX : ∀ (A : Sto) (r : List En), (A ++ DO.lst (rs.map rowD) :: T) ++ [.lst (r.map enD)] = A ++ (DO.lst (rs.map rowD) :: (T ++ [.lst (r.map enD)])) := fun A r => by rw [List.append_assoc]; rfl
      rw [reX]
      simp only [z6, z5, wq_a, wq_b, wq_c, wq_d, wq_e, wq_f, wq_g, Int.reduceToNat, Int.reduceLE, Int.reduceLT, Int.reduceNeg, startD, List.replicate, Nat.reduceAdd, Nat.reduceSub, Nat.reduceEqDiff, if_true, if_false, Int.reduceEq, Int.reduceAdd, Int.reduceSub, Int.reduceMul, eq_self]
      refine (draw (hdB.at.app _) (many := ((many : Nat) : Int))).wT hdB.at.lt ?_
      rintro _ SC dC ⟨x, rfl, x0, x1⟩
      simp only [z6, z5, wq_a, wq_b, wq_c, wq_d, wq_e, wq_f, wq_g, Int.reduceToNat, Int.reduceLE, Int.reduceLT, Int.reduceNeg, startD, List.replicate, Nat.reduceAdd, Nat.reduceSub, Nat.reduceEqDiff, if_true, if_false, Int.reduceEq, Int.reduceAdd, Int.reduceSub, Int.reduceMul, eq_self]
      refine (draw (dC.at.app _)).wT dC.at.lt ?_
      rintro _ SD dD ⟨y, rfl, y0, y1⟩
      simp only [z6, z5, wq_a, wq_b, wq_c, wq_d, wq_e, wq_f, wq_g, Int.reduceToNat, Int.reduceLE, Int.reduceLT, Int.reduceNeg, startD, List.replicate, Nat.reduceAdd, Nat.reduceSub, Nat.reduceEqDiff, if_true, if_false, Int.reduceEq, Int.reduceAdd, Int.reduceSub, Int.reduceMul, eq_self, w_modI (show (0 : Int) < ((many : Nat) : Int) by omega)]
      refine (draw (dD.at.app _)).wT dD.at.lt ?_
      rintro _ SE dE ⟨z, rfl, z0, z1⟩
      have hmod0 := Int.emod_nonneg (0 + ((i : Nat) : Int) + y) (show ((many : Nat) : Int) ≠ 0 by omega)
      have hmod1 := Int.emod_lt_of_pos (0 + ((i : Nat) : Int) + y) (show (0 : Int) < ((many : Nat) : Int) by omega)
      obtain ⟨bh, hbh, hbl⟩ : ∃ bh : Nat, atI [D.int x, .int ((0 + ((i : Nat) : Int) + y) % ((many : Nat) : Int)), .int (0 + ((i : Nat) : Int))] (if z < near then z else near) = some (.int ((bh : Nat) : Int)) ∧ bh < many := by
        have hq : ∃ q : Int, (if z < near then z else near) = q ∧ 0 ≤ q ∧ q < 3 := ⟨_, rfl, by split <;> omega, by split <;> omega⟩
        obtain ⟨q, eq, q0, q1⟩ := hq
        rw [eq]
        have : q = 0 ∨ q = 1 ∨ q = 2 := by omega
        rcases this with rfl | rfl | rfl
        · exact ⟨x.toNat, by show some (D.int x) = _; rw [Int.toNat_of_nonneg x0], by omega⟩
        · exact ⟨((0 + ((i : Nat) : Int) + y) % ((many : Nat) : Int)).toNat, by show some (D.int _) = _; rw [Int.toNat_of_nonneg hmod0], by omega⟩
        · exact ⟨i, by show some (D.int _) = _; rw [Int.zero_add], by omega⟩
      simp only [z6, z5, wq_a, wq_b, wq_c, wq_d, wq_e, wq_f, wq_g, Int.reduceToNat, Int.reduceLE, Int.reduceLT, Int.reduceNeg, startD, List.replicate, Nat.reduceAdd, Nat.reduceSub, Nat.reduceEqDiff, if_true, if_false, Int.reduceEq, Int.reduceAdd, Int.reduceSub, Int.reduceMul, eq_self, w_min2, hbh]
      have dBE := ((hdB.trans dC).trans dD).trans dE
      have hYE : (SE ++ (DO.lst (rs.map rowD) :: (T ++ [.lst (r.map enD)])))[S.length + 1 + T.length]? = some (.lst (r.map enD)) := by
        have eB : (SE ++ DO.lst (rs.map rowD) :: T).length = S.length + 1 + T.length := by rw [List.length_append, dBE.len, List.length_cons]; omega
        rw [← reX, ← eB]; exact get_last
      rw [zm (isTy_lst hYE)]
      simp only [z6, z5, wq_a, wq_b, wq_c, wq_d, wq_e, wq_f, wq_g, Int.reduceToNat, Int.reduceLE, Int.reduceLT, Int.reduceNeg, startD, List.replicate, Nat.reduceAdd, Nat.reduceSub, Nat.reduceEqDiff, if_true, if_false, Int.reduceEq, Int.reduceAdd, Int.reduceSub, Int.reduceMul, eq_self, List.length_map]
      refine (draw (dE.at.app _) (many := ((few.length : Nat) : Int))).wT dE.at.lt ?_
      rintro _ SF dF ⟨u, rfl, u0, u1⟩
      obtain ⟨w, hw0, hwm⟩ : ∃ w : List Bool, atI (few.map sW) u = some (.str (W (wB w))) ∧ w ∈ few := by
        have hl : u.toNat < few.length := by omega
        exact ⟨few[u.toNat], by rw [atI_pos u0]; simp [hl, sW], List.getElem_mem hl⟩
      simp only [z6, z5, wq_a, wq_b, wq_c, wq_d, wq_e, wq_f, wq_g, Int.reduceToNat, Int.reduceLE, Int.reduceLT, Int.reduceNeg, startD, List.replicate, Nat.reduceAdd, Nat.reduceSub, Nat.reduceEqDiff, if_true, if_false, Int.reduceEq, Int.reduceAdd, Int.reduceSub, Int.reduceMul, eq_self, hw0]
      have dBF := dBE.trans dF
      have eF : (SF ++ DO.lst (rs.map rowD) :: T).length = S.length + 1 + T.length := by rw [List.length_append, dBF.len, List.length_cons]; omega
      have hYF : (SF ++ (DO.lst (rs.map rowD) :: (T ++ [.lst (r.map enD)])))[S.length + 1 + T.length]? = some (.lst (r.map enD)) := by
        rw [← reX, ← eF]; exact get_last
      rw [w_appL hYF (by rw [List.length_map, sizeLine_eq]; omega), ← reX, ← eF, set_last, eF]
      refine ⟨SF, r ++ [(w, bh)], _, _, _, by rw [List.map_append]; rfl, dBF, by simp [hlr], fun e he => ?_, rfl⟩
      rcases List.mem_append.mp he with he | he
      · exact hgr e he
      · rw [List.mem_singleton] at he
        subst he
        have := fd w hwm
        exact ⟨by show w.length = outs; omega, hbl⟩

theorem filt_none {α : Type} (l : List α) : l.filter (fun _ => false) = [] := List.filter_eq_nil_iff.mpr fun _ _ => by simp
theorem is_row_ok {ins outs many : Nat} {r : List En} {S : Sto} (i4 : ins ≤ 4) (hl : r.length = 2 ^ ins) (hd : ∀ e ∈ r, e.1.length = outs ∧ e.2 < many) (ho : outs ≤ 100) :
    F_is_row [.int ((ins : Nat) : Int), .int ((outs : Nat) : Int), .int ((many : Nat) : Int), rowD r] S = .ok (.bl true) S := by
  unfold F_is_row
  refine fn_ok rfl ?_
  unfold b_is_row
  have p16 := pow_le i4
  simp only [z6, z5, wq_a, wq_b, wq_c, wq_d, wq_e, wq_f, wq_g, Int.reduceToNat, Int.reduceLE, Int.reduceLT, Int.reduceNeg, startD, List.replicate, Nat.reduceAdd, Nat.reduceSub, Nat.reduceEqDiff, if_true, if_false, Int.reduceEq, Int.reduceAdd, Int.reduceSub, Int.reduceMul, eq_self, rowD, List.length_map, hl, at_counts i4]
  have hc : dFrz (dComp [4] (iVal (dVar 3)) (gVar 4) (tOrD (tNotD (tstB (dCallF 3 F_is_word (dCons (d2 ixD (dVar 4) (dC (.int 0))) (dCons (dVar 1) (dCons (dC (.str "01")) dNil)))))) (tNotD (d3T leD ltD (dC (.int 0)) (d2 ixD (dVar 4) (dC (.int 1))) (dVar 2)))) (dVar 4)) [some (.int ((ins : Nat) : Int)), some (.int ((outs : Nat) : Int)), some (.int ((many : Nat) : Int)), some (.tup (r.map enD)), none] S = .ok (.frl ((r.filter fun _ => false).map enD)) S := by
    refine compF r enD (fun _ => false) _ ?_ (by rw [filt_none]; exact Nat.zero_le _) ?_ ?_
    · simp only [z6, z5, wq_a, wq_b, wq_c, wq_d, wq_e, wq_f, wq_g, Int.reduceToNat, Int.reduceLE, Int.reduceLT, Int.reduceNeg, startD, List.replicate, Nat.reduceAdd, Nat.reduceSub, Nat.reduceEqDiff, if_true, if_false, Int.reduceEq, Int.reduceAdd, Int.reduceSub, Int.reduceMul, eq_self, itemsD]
      exact ⟨trivial, trivial, fun _ _ => rfl⟩
    · intro e he S' _
      obtain ⟨h1, h2⟩ := hd e he
      have z1 : (0 : Int) ≤ ((e.2 : Nat) : Int) := by omega
      have z2 : ((e.2 : Nat) : Int) < ((many : Nat) : Int) := by omega
      simp only [z6, z5, wq_a, wq_b, wq_c, wq_d, wq_e, wq_f, wq_g, Int.reduceToNat, Int.reduceLE, Int.reduceLT, Int.reduceNeg, startD, List.replicate, Nat.reduceAdd, Nat.reduceSub, Nat.reduceEqDiff, if_true, if_false, Int.reduceEq, Int.reduceAdd, Int.reduceSub, Int.reduceMul, eq_self, wipeD, enD, W_01]
      rw [is_word_ok (wB_ok _) (by rw [wB_len]; omega), show ([48, 49] : List Nat) = b01 from rfl, isWord_wB (by rw [h1])]
      simp only [z6, z5, wq_a, wq_b, wq_c, wq_d, wq_e, wq_f, wq_g, Int.reduceToNat, Int.reduceLE, Int.reduceLT, Int.reduceNeg, startD, List.replicate, Nat.reduceAdd, Nat.reduceSub, Nat.reduceEqDiff, if_true, if_false, Int.reduceEq, Int.reduceAdd, Int.reduceSub, Int.reduceMul, eq_self, z1, z2]
      exact ⟨trivial, trivial, trivial, fun z => by cases z⟩
    · intro a _ _; rfl
  simp only [hc, z6, z5, wq_a, wq_b, wq_c, wq_d, wq_e, wq_f, wq_g, Int.reduceToNat, Int.reduceLE, Int.reduceLT, Int.reduceNeg, startD, List.replicate, Nat.reduceAdd, Nat.reduceSub, Nat.reduceEqDiff, if_true, if_false, Int.reduceEq, Int.reduceAdd, Int.reduceSub, Int.reduceMul, eq_self]
  rw [w_eqNil (n := 1) fun a _ => enD_gd a]
  simp only [z6, z5, wq_a, wq_b, wq_c, wq_d, wq_e, wq_f, wq_g, Int.reduceToNat, Int.reduceLE, Int.reduceLT, Int.reduceNeg, startD, List.replicate, Nat.reduceAdd, Nat.reduceSub, Nat.reduceEqDiff, if_true, if_false, Int.reduceEq, Int.reduceAdd, Int.reduceSub, Int.reduceMul, eq_self]
  exact ⟨by simp, app_nil S⟩
theorem need_plain_ok {ins outs : Nat} {rows : List (List En)} {S : Sto} (P : PM ins outs rows) : F_need_plain [plD ins outs rows] S = .ok .non S := by
  unfold F_need_plain
  refine fn_ok rfl ?_
  unfold b_need_plain
  have h1 := P.i1; have h2 := P.i4; have h3 := P.o1; have h4 := P.o3; have h5 := P.n1; have h6 := P.n200
  have c1 : (1 : Int) ≤ ((ins : Nat) : Int) := by omega
  have c2 : ((ins : Nat) : Int) ≤ 4 := by omega
  have c3 : (1 : Int) ≤ ((outs : Nat) : Int) := by omega
  have c4 : ((outs : Nat) : Int) ≤ 3 := by omega
  have c5 : (1 : Int) ≤ ((rows.length : Nat) : Int) := by omega
  have c6 : ((rows.length : Nat) : Int) ≤ 200 := by omega
  simp only [z6, z5, wq_a, wq_b, wq_c, wq_d, wq_e, wq_f, wq_g, Int.reduceToNat, Int.reduceLE, Int.reduceLT, Int.reduceNeg, startD, List.replicate, Nat.reduceAdd, Nat.reduceSub, Nat.reduceEqDiff, if_true, if_false, Int.reduceEq, Int.reduceAdd, Int.reduceSub, Int.reduceMul, eq_self, plD, List.length_map, c1, c2, c3, c4, c5, c6, itemsD]
  generalize D.tup [.int ((ins : Nat) : Int), .int ((outs : Nat) : Int), .tup (rows.map rowD)] = C
  refine w_enumP rowD (fun pre sd S' => S' = S ∧ ∃ a b, sd = [some C, some (.int ((ins : Nat) : Int)), some (.int ((outs : Nat) : Int)), some (.tup (rows.map rowD)), a, b]) rows (fun _ _ _ _ _ _ => rfl) ⟨rfl, _, _, rfl⟩ ?_ ?_
  · rintro sd S' ⟨rfl, a, b, rfl⟩
    simp only [z6, z5, wq_a, wq_b, wq_c, wq_d, wq_e, wq_f, wq_g, Int.reduceToNat, Int.reduceLE, Int.reduceLT, Int.reduceNeg, startD, List.replicate, Nat.reduceAdd, Nat.reduceSub, Nat.reduceEqDiff, if_true, if_false, Int.reduceEq, Int.reduceAdd, Int.reduceSub, Int.reduceMul, eq_self]
    exact ⟨trivial, app_nil _⟩
  · rintro pre r post sd S' e ⟨rfl, a, b, rfl⟩
    have hr : r ∈ rows := by rw [e]; simp
    simp only [z6, z5, wq_a, wq_b, wq_c, wq_d, wq_e, wq_f, wq_g, Int.reduceToNat, Int.reduceLE, Int.reduceLT, Int.reduceNeg, startD, List.replicate, Nat.reduceAdd, Nat.reduceSub, Nat.reduceEqDiff, if_true, if_false, Int.reduceEq, Int.reduceAdd, Int.reduceSub, Int.reduceMul, eq_self, gTupD, List.length_map]
    rw [is_row_ok P.i4 (P.len r hr) (fun e he => ⟨P.deed r hr e he, P.nxt r hr e he⟩) (by omega)]
    simp only [z6, z5, wq_a, wq_b, wq_c, wq_d, wq_e, wq_f, wq_g, Int.reduceToNat, Int.reduceLE, Int.reduceLT, Int.reduceNeg, startD, List.replicate, Nat.reduceAdd, Nat.reduceSub, Nat.reduceEqDiff, if_true, if_false, Int.reduceEq, Int.reduceAdd, Int.reduceSub, Int.reduceMul, eq_self]
    exact ⟨trivial, _, _, rfl⟩

theorem law_beats_ok {S : Sto} : ∀ (n j : Nat), n ≤ 10 → F__law_beats (n + 1 + j) [.int (n : Nat)] S = .ok (.frl ((allB n).map sW)) S := by
  intro n
  induction n with
  | zero =>
    intro j _
    rw [show 0 + 1 + j = j + 1 by omega]
    unfold F__law_beats
    refine fn_ok rfl ?_
    unfold b__law_beats
    simp only [z6, z5, wq_a, wq_b, wq_c, wq_d, wq_e, wq_f, wq_g, Int.reduceToNat, Int.reduceLE, Int.reduceLT, Int.reduceNeg, startD, List.replicate, Nat.reduceAdd, Nat.reduceSub, Nat.reduceEqDiff, if_true, if_false, Int.reduceEq, Int.reduceAdd, Int.reduceSub, Int.reduceMul, eq_self, W_empty]
    exact ⟨rfl, app_nil S⟩
  | succ n ih =>
    intro j hn
    rw [show n + 1 + 1 + j = (n + 1 + j) + 1 by omega]
    unfold F__law_beats
    have hne : ¬ ((n + 1 : Nat) : Int) = 0 := by omega
    have hsub : ((n + 1 : Nat) : Int) - 1 = (n : Nat) := by omega
    have h2 : (allB n).length ≤ 1024 := by
      rw [allB_many]
      have : 2 ^ n ≤ 2 ^ 10 := Nat.pow_le_pow_right (by decide) (by omega)
      omega
    have hc : ∀ (c : Bool) (cs : Str) (o2 : Option D), cs = W [cb c] → dFrz (dComp [2] (iVal (dVar 1)) (gVar 2) tYesD (d2 addD (dC (.str cs)) (dVar 2))) [some (.int ((n + 1 : Nat) : Int)), some (.frl ((allB n).map sW)), o2] S = .ok (.frl (((allB n).map (c :: ·)).map sW)) S := by
      intro c cs o2 hcs
      subst hcs
      rw [List.map_map]
      refine compM (allB n) sW _ ?_ (szn (by omega)) ?_ ?_
      · simp only [z6, z5, wq_a, wq_b, wq_c, wq_d, wq_e, wq_f, wq_g, Int.reduceToNat, Int.reduceLE, Int.reduceLT, Int.reduceNeg, startD, List.replicate, Nat.reduceAdd, Nat.reduceSub, Nat.reduceEqDiff, if_true, if_false, Int.reduceEq, Int.reduceAdd, Int.reduceSub, Int.reduceMul, eq_self, itemsD]
        exact ⟨trivial, trivial, fun _ _ => rfl⟩
      · intro b hb S' _
        simp only [z6, z5, wq_a, wq_b, wq_c, wq_d, wq_e, wq_f, wq_g, Int.reduceToNat, Int.reduceLE, Int.reduceLT, Int.reduceNeg, startD, List.replicate, Nat.reduceAdd, Nat.reduceSub, Nat.reduceEqDiff, if_true, if_false, Int.reduceEq, Int.reduceAdd, Int.reduceSub, Int.reduceMul, eq_self, wipeD, sW]
        refine ⟨trivial, ?_⟩
        rw [w_addS (by rw [W_len, W_len, wB_len, allB_len n b hb]; exact szn (by simp; omega)), W_app]
        exact ⟨rfl, rfl⟩
      · intro b _; rfl
    refine fn_ok (gd_blw (n := 1) _ (gd_frl (gd_map fun b _ => gd_W (wB_ok b)))) ?_
    unfold b__law_beats
    simp only [z6, z5, wq_a, wq_b, wq_c, wq_d, wq_e, wq_f, wq_g, Int.reduceToNat, Int.reduceLE, Int.reduceLT, Int.reduceNeg, startD, List.replicate, Nat.reduceAdd, Nat.reduceSub, Nat.reduceEqDiff, if_true, if_false, Int.reduceEq, Int.reduceAdd, Int.reduceSub, Int.reduceMul, eq_self, hne, hsub, ih j (by omega), hc false _ _ W_0, hc true _ _ W_1, List.length_map]
    rw [zm (szn (by omega))]
    simp only [z6, z5, wq_a, wq_b, wq_c, wq_d, wq_e, wq_f, wq_g, Int.reduceToNat, Int.reduceLE, Int.reduceLT, Int.reduceNeg, startD, List.replicate, Nat.reduceAdd, Nat.reduceSub, Nat.reduceEqDiff, if_true, if_false, Int.reduceEq, Int.reduceAdd, Int.reduceSub, Int.reduceMul, eq_self]
    refine ⟨?_, app_nil S⟩
    simp [allB]

def allE : Nat → List (List Bool)
  | 0 => [[]]
  | n + 1 => (allE n).flatMap fun b => [b ++ [false], b ++ [true]]
theorem allE_eq {n : Nat} (h : n ≤ 4) : allE n = allB n := by
  have : n = 0 ∨ n = 1 ∨ n = 2 ∨ n = 3 ∨ n = 4 := by omega
  rcases this with rfl | rfl | rfl | rfl | rfl <;> decide
theorem allE_len : ∀ (n : Nat) (b : List Bool), b ∈ allE n → b.length = n
  | 0, b, h => by simp [allE] at h; simp [h]
  | n + 1, b, h => by
    simp only [allE, List.mem_flatMap, List.mem_cons, List.not_mem_nil, or_false] at h
    obtain ⟨a, ha, rfl | rfl⟩ := h <;> simp [allE_len n a ha]
theorem fl_len : ∀ pre : List (List Bool), (pre.flatMap fun b => [b ++ [false], b ++ [true]]).length = 2 * pre.length
  | [] => rfl
  | b :: pre => by
    have := fl_len pre
    rw [List.flatMap_cons, List.length_append, this, List.length_cons]
    simp
    omega
theorem w_extL {l k : Nat} {xs ys : List D} {S : Sto} {Q : D → Sto → Prop} {X : Exc → Sto → Prop} (hl : S[l]? = some (.lst xs)) (hk : S[k]? = some (.lst ys)) (hz : xs.length + ys.length ≤ sizeLine) : Wp (extendD (.ref l) [.ref k] S) Q X = Q .non (S.set l (.lst (xs ++ ys))) := by
  simp only [extendD, hl, hk]
  rw [if_pos hz]; rfl
theorem frz_at {l : Nat} {xs : List D} {S : Sto} (h : S[l]? = some (.lst xs)) : frzD S (.ref l) S = .ok (.frl xs) (S.set l .dead) := by
  have hl : l < S.length := (List.getElem?_eq_some_iff.mp h).1
  simp only [frzD, h]
  rw [if_neg (fun z => by have := z.1; omega)]
theorem sW_blw {k : Nat} {bs : List (List Bool)} : (D.frl (bs.map sW)).blw k = true := gd_blw (n := 1) _ (gd_frl (gd_map fun _ _ => gd_W (wB_ok _)))
theorem all_beats_ok {n : Nat} {S : Sto} (hn : n ≤ 4) : F_all_beats [.int ((n : Nat) : Int)] S = .ok (.frl ((allB n).map sW)) S := by
  rw [← allE_eq hn]
  unfold F_all_beats
  refine fn_ok sW_blw ?_
  unfold b_all_beats
  simp only [z6, z5, wq_a, wq_b, wq_c, wq_d, wq_e, wq_f, wq_g, Int.reduceToNat, Int.reduceLE, Int.reduceLT, Int.reduceNeg, startD, List.replicate, Nat.reduceAdd, Nat.reduceSub, Nat.reduceEqDiff, if_true, if_false, Int.reduceEq, Int.reduceAdd, Int.reduceSub, Int.reduceMul, eq_self]
  rw [zm (rng_ok (by omega))]
  simp only [z6, z5, wq_a, wq_b, wq_c, wq_d, wq_e, wq_f, wq_g, Int.reduceToNat, Int.reduceLE, Int.reduceLT, Int.reduceNeg, startD, List.replicate, Nat.reduceAdd, Nat.reduceSub, Nat.reduceEqDiff, if_true, if_false, Int.reduceEq, Int.reduceAdd, Int.reduceSub, Int.reduceMul, eq_self, Int.toNat_natCast]
  refine w_rangeP (fun i sd S' => ∃ (T : Sto) (a2 a3 a4 : Option D), S' = S ++ T ∧ sd = [some (.int ((n : Nat) : Int)), some (.frl ((allE i).map sW)), a2, a3, a4]) 0 n (fun _ _ _ _ _ => rfl) ⟨[], _, _, _, by simp, by simp only [allE, List.map_cons, List.map_nil, sW, W_empty]; rfl⟩ ?_ ?_
  · rintro sd S' ⟨T, a2, a3, a4, rfl, rfl⟩
    simp only [z6, z5, wq_a, wq_b, wq_c, wq_d, wq_e, wq_f, wq_g, Int.reduceToNat, Int.reduceLE, Int.reduceLT, Int.reduceNeg, startD, List.replicate, Nat.reduceAdd, Nat.reduceSub, Nat.reduceEqDiff, if_true, if_false, Int.reduceEq, Int.reduceAdd, Int.reduceSub, Int.reduceMul, eq_self]
    exact ⟨trivial, _, rfl⟩
  · rintro i sd S' hi ⟨T, a2, a3, a4, rfl, rfl⟩
    have p16 : ∀ k, k ≤ 4 → (allE k).length ≤ 16 := fun k hk => by
      rw [allE_eq hk, allB_many]; exact pow_le hk
    simp only [z6, z5, wq_a, wq_b, wq_c, wq_d, wq_e, wq_f, wq_g, Int.reduceToNat, Int.reduceLE, Int.reduceLT, Int.reduceNeg, startD, List.replicate, Nat.reduceAdd, Nat.reduceSub, Nat.reduceEqDiff, if_true, if_false, Int.reduceEq, Int.reduceAdd, Int.reduceSub, Int.reduceMul, eq_self, itemsD]
    have step : ∀ (pre : List (List Bool)) (x : List Bool), (pre ++ [x]).flatMap (fun b => [b ++ [false], b ++ [true]]) = pre.flatMap (fun b => [b ++ [false], b ++ [true]]) ++ [x ++ [false], x ++ [true]] := fun pre x => by simp
    refine w_loopP sW (fun pre sd S' => ∃ (U : Sto) (a4 : Option D), S' = (S ++ T) ++ .lst ((pre.flatMap fun b => [b ++ [false], b ++ [true]]).map sW) :: U ∧ sd = [some (.int ((n : Nat) : Int)), some (.frl ((allE i).map sW)), some (.int (0 + ((i : Nat) : Int))), some (.ref (S ++ T).length), a4]) (allE i) (fun _ _ _ _ _ _ => rfl) ⟨[], _, rfl, rfl⟩ ?_ ?_
    · rintro sd S' ⟨U, a4, rfl, rfl⟩
      simp only [z6, z5, wq_a, wq_b, wq_c, wq_d, wq_e, wq_f, wq_g, Int.reduceToNat, Int.reduceLE, Int.reduceLT, Int.reduceNeg, startD, List.replicate, Nat.reduceAdd, Nat.reduceSub, Nat.reduceEqDiff, if_true, if_false, Int.reduceEq, Int.reduceAdd, Int.reduceSub, Int.reduceMul, eq_self, w_dFrz]
      rw [frz_at (get_mid rfl)]
      exact ⟨T ++ .dead :: U, _, _, _, by rw [set_mid rfl, List.append_assoc], rfl⟩
    · rintro pre b post sd S' e ⟨U, a4, rfl, rfl⟩
      have hb : b ∈ allE i := by rw [e]; simp
      have hbl := allE_len i b hb
      have hpl : pre.length ≤ 16 := by
        have := p16 i (by omega)
        rw [e] at this
        simp at this
        omega
      have eW : ∀ (c : Bool), W (wB b ++ [cb c]) = W (wB (b ++ [c])) := fun c => by simp [wB]
      have get0 : ((S ++ T) ++ DO.lst ((pre.flatMap fun b => [b ++ [false], b ++ [true]]).map sW) :: U)[(S ++ T).length]? = some (.lst ((pre.flatMap fun b => [b ++ [false], b ++ [true]]).map sW)) := get_mid rfl
      simp only [z6, z5, wq_a, wq_b, wq_c, wq_d, wq_e, wq_f, wq_g, Int.reduceToNat, Int.reduceLE, Int.reduceLT, Int.reduceNeg, startD, List.replicate, Nat.reduceAdd, Nat.reduceSub, Nat.reduceEqDiff, if_true, if_false, Int.reduceEq, Int.reduceAdd, Int.reduceSub, Int.reduceMul, eq_self]
      rw [zm (isTy_lst get0)]
      simp only [z6, z5, wq_a, wq_b, wq_c, wq_d, wq_e, wq_f, wq_g, Int.reduceToNat, Int.reduceLE, Int.reduceLT, Int.reduceNeg, startD, List.replicate, Nat.reduceAdd, Nat.reduceSub, Nat.reduceEqDiff, if_true, if_false, Int.reduceEq, Int.reduceAdd, Int.reduceSub, Int.reduceMul, eq_self, sW, W_0, W_1]
      rw [w_addS (by rw [W_len, W_len, wB_len]; exact szn (by simp; omega)), W_app]
      simp only [z6, z5, wq_a, wq_b, wq_c, wq_d, wq_e, wq_f, wq_g, Int.reduceToNat, Int.reduceLE, Int.reduceLT, Int.reduceNeg, startD, List.replicate, Nat.reduceAdd, Nat.reduceSub, Nat.reduceEqDiff, if_true, if_false, Int.reduceEq, Int.reduceAdd, Int.reduceSub, Int.reduceMul, eq_self]
      rw [w_addS (by rw [W_len, W_len, wB_len]; exact szn (by simp; omega)), W_app]
      simp only [z6, z5, wq_a, wq_b, wq_c, wq_d, wq_e, wq_f, wq_g, Int.reduceToNat, Int.reduceLE, Int.reduceLT, Int.reduceNeg, startD, List.replicate, Nat.reduceAdd, Nat.reduceSub, Nat.reduceEqDiff, if_true, if_false, Int.reduceEq, Int.reduceAdd, Int.reduceSub, Int.reduceMul, eq_self]
      have e1 : ((S ++ T) ++ DO.lst ((pre.flatMap fun b => [b ++ [false], b ++ [true]]).map sW) :: U) ++ [DO.lst [.str (W (wB b ++ [48])), .str (W (wB b ++ [49]))]] = (S ++ T) ++ DO.lst ((pre.flatMap fun b => [b ++ [false], b ++ [true]]).map sW) :: (U ++ [DO.lst [.str (W (wB b ++ [48])), .str (W (wB b ++ [49]))]]) := by simp
      have hfl : ((pre.flatMap fun b => [b ++ [false], b ++ [true]]).map sW).length ≤ 100 := by
        rw [List.length_map, fl_len]
        omega
      have hl2 : (((S ++ T) ++ DO.lst ((pre.flatMap fun b => [b ++ [false], b ++ [true]]).map sW) :: U) ++ [DO.lst [.str (W (wB b ++ [48])), .str (W (wB b ++ [49]))]])[(S ++ T).length]? = some (.lst ((pre.flatMap fun b => [b ++ [false], b ++ [true]]).map sW)) := by rw [e1]; exact get_mid rfl
      rw [w_extL hl2 get_last (szn (by simp only [List.length_cons, List.length_nil]; omega)), e1, set_mid rfl]
      refine ⟨U ++ [DO.lst [.str (W (wB b ++ [48])), .str (W (wB b ++ [49]))]], some (D.str (W (wB b))), ?_, rfl⟩
      rw [step, List.map_append]
      have e2 : [D.str (W (wB b ++ [48])), D.str (W (wB b ++ [49]))] = [b ++ [false], b ++ [true]].map sW := by simp [sW, wB, cb]
      rw [e2]
theorem allB_nodup : ∀ n : Nat, (allB n).Nodup
  | 0 => by simp [allB]
  | n + 1 => by
    have ih := allB_nodup n
    rw [allB, List.nodup_append]
    refine ⟨List.Pairwise.map _ (fun a b h z => h (List.cons.inj z).2) ih, List.Pairwise.map _ (fun a b h z => h (List.cons.inj z).2) ih, fun a ha b hb z => ?_⟩
    obtain ⟨x, _, rfl⟩ := List.mem_map.mp ha
    obtain ⟨y, _, rfl⟩ := List.mem_map.mp hb
    cases (List.cons.inj z).1
theorem findIdx_at {bs : List (List Bool)} {k : Nat} (hn : bs.Nodup) (hk : k < bs.length) : (bs.findIdx? fun b => decide (b = bs.getD k [])) = some k := by
  rw [List.findIdx?_eq_some_iff_getElem]
  have e : bs.getD k [] = bs[k] := by rw [List.getD_eq_getElem?_getD, List.getElem?_eq_getElem hk]; rfl
  refine ⟨hk, by rw [e]; simp, fun j hj => ?_⟩
  rw [e]
  have := List.pairwise_iff_getElem.mp hn j k (by omega) hk hj
  simpa using this
theorem index_ok {bs : List (List Bool)} {k : Nat} {S : Sto} {Q : D → Sto → Prop} {X : Exc → Sto → Prop} (hn : bs.Nodup) (hk : k < bs.length) : Wp (indexD (.frl (bs.map sW)) [sW (bs.getD k [])] S) Q X = Q (.int ((k : Nat) : Int)) S := by
  have g1 : ∀ b : List Bool, GD 0 (sW b) := fun b => gd_W (wB_ok _)
  have e1 : ∀ b : List Bool, toP S 60 (sW b) = some (.str (W (wB b))) := fun b => rfl
  have e2 : ∀ bs : List (List Bool), mapO (toP S 60) (bs.map sW) = some (bs.map fun b => PyData.str (W (wB b))) := fun bs => by
    induction bs with
    | nil => rfl
    | cons b bs ih => simp only [List.map_cons, mapO, e1, ih]
  have s1 : ∀ b : List Bool, SeqAt.shaped (.str (W (wB b))) = true := fun b => gd_shaped (d := sW b) (g1 b) (by decide)
  have s2 : SeqAt.shaped (.list (bs.map fun b => PyData.str (W (wB b)))) = true := by
    have := gd_shaped (d := .frl (bs.map sW)) (n := 1) (gd_frl (gd_map fun b _ => g1 b)) (by decide)
    have ep : pd (.frl (bs.map sW)) = .list (bs.map fun b => PyData.str (W (wB b))) := by
      show PyData.list (pds (bs.map sW)) = _
      congr 1
      clear hk hn this
      induction bs with
      | nil => rfl
      | cons b bs ih => rw [List.map_cons, List.map_cons, ← ih]; rfl
    rwa [ep] at this
  have e3 : ((bs.map fun b => PyData.str (W (wB b))).findIdx? fun z => PyData.eqv z (.str (W (wB (bs.getD k []))))) = some k := by
    rw [List.findIdx?_map, ← findIdx_at hn hk]
    congr 1
    funext b
    show PyData.eqv (.str (W (wB b))) (.str (W (wB (bs.getD k [])))) = _
    have := eqv_pd (sW b) (sW (bs.getD k [])) (g1 b) (g1 _)
    have e4 : PyData.eqv (.str (W (wB b))) (.str (W (wB (bs.getD k [])))) = decide (sW b = sW (bs.getD k [])) := this
    rw [e4]
    apply decide_eq_decide.mpr
    constructor
    · intro z
      unfold sW at z
      injection z with z
      exact wB_inj (W_inj.mp z)
    · intro z; rw [z]
  simp only [indexD, lsD, e1, e2, s1, s2, Bool.and_self, if_true, e3]
  rfl
def rowAt (rows : List (List En)) (i : Nat) : List En := rows.getD i []
theorem row_mem {rows : List (List En)} {i : Nat} (h : i < rows.length) : rowAt rows i ∈ rows := by
  unfold rowAt
  rw [List.getD_eq_getElem?_getD, List.getElem?_eq_getElem h]
  exact List.getElem_mem h
theorem at_row {rows : List (List En)} {k : Nat} (h : k < rows.length) : atI (rows.map rowD) ((k : Nat) : Int) = some (rowD (rowAt rows k)) := by
  rw [atI_pos (by omega)]
  simp [h, List.getD, rowAt]
def ansAt (rows : List (List En)) (i k : Nat) : En := (rowAt rows i).getD k ([], 0)
theorem at_ans {rows : List (List En)} {i k : Nat} (h : k < (rowAt rows i).length) : atI ((rowAt rows i).map enD) ((k : Nat) : Int) = some (enD (ansAt rows i k)) := by
  rw [atI_pos (by omega)]
  simp [h, List.getD, ansAt]
theorem ans_mem {rows : List (List En)} {i k : Nat} (h : k < (rowAt rows i).length) : ansAt rows i k ∈ rowAt rows i := by
  unfold ansAt
  rw [List.getD_eq_getElem?_getD, List.getElem?_eq_getElem h]
  exact List.getElem_mem h
theorem law_at_ok {ins outs i k : Nat} {rows : List (List En)} {S : Sto} (P : PM ins outs rows) (hi : i < rows.length) (hk : k < 2 ^ ins) : F__law_at [plD ins outs rows, .int ((i : Nat) : Int), sW ((allB ins).getD k [])] S = .ok (enD (ansAt rows i k)) S := by
  have i4 := P.i4
  have hl : (rowAt rows i).length = 2 ^ ins := P.len _ (row_mem hi)
  unfold F__law_at
  refine fn_ok (gd_blw _ (enD_gd _)) ?_
  unfold b__law_at
  have x2 : ∀ {S : Sto}, Wp (ixD (plD ins outs rows) (.int 2) S) = Wp (.ok (.tup (rows.map rowD)) S) := rfl
  have x0 : ∀ {S : Sto}, Wp (ixD (plD ins outs rows) (.int 0) S) = Wp (.ok (.int ((ins : Nat) : Int)) S) := rfl
  have hlb := law_beats_ok (S := S) ins (39 - ins) (by omega)
  rw [show ins + 1 + (39 - ins) = 40 by omega] at hlb
  simp only [z6, z5, wq_a, wq_b, wq_c, wq_d, wq_e, wq_f, wq_g, Int.reduceToNat, Int.reduceLE, Int.reduceLT, Int.reduceNeg, startD, List.replicate, Nat.reduceAdd, Nat.reduceSub, Nat.reduceEqDiff, if_true, if_false, Int.reduceEq, Int.reduceAdd, Int.reduceSub, Int.reduceMul, eq_self, x2, at_row hi, x0, hlb]
  have ity : isTy "list" (.frl ((allB ins).map sW)) S = true := rfl
  rw [zm ity]
  simp only [z6, z5, wq_a, wq_b, wq_c, wq_d, wq_e, wq_f, wq_g, Int.reduceToNat, Int.reduceLE, Int.reduceLT, Int.reduceNeg, startD, List.replicate, Nat.reduceAdd, Nat.reduceSub, Nat.reduceEqDiff, if_true, if_false, Int.reduceEq, Int.reduceAdd, Int.reduceSub, Int.reduceMul, eq_self]
  rw [index_ok (allB_nodup ins) (by rw [allB_many]; exact hk)]
  simp only [z6, z5, wq_a, wq_b, wq_c, wq_d, wq_e, wq_f, wq_g, Int.reduceToNat, Int.reduceLE, Int.reduceLT, Int.reduceNeg, startD, List.replicate, Nat.reduceAdd, Nat.reduceSub, Nat.reduceEqDiff, if_true, if_false, Int.reduceEq, Int.reduceAdd, Int.reduceSub, Int.reduceMul, eq_self, rowD]
  rw [at_ans (by rw [hl]; exact hk)]
  exact ⟨rfl, app_nil S⟩

abbrev Lv : Type := (Nat × Nat) × List (List Bool)
abbrev Kn : Type := List (Nat × Nat) × List Lv
section
variable (r1 r2 : List (List En)) (B : List (List Bool))
def bstep (x : Lv) (k : Nat) (st : Kn) : Except (List (List Bool)) Kn :=
  if (ansAt r1 x.1.1 k).1 = (ansAt r2 x.1.2 k).1 then
    (if ((ansAt r1 x.1.1 k).2, (ansAt r2 x.1.2 k).2) ∈ st.1 then .ok st else .ok (st.1 ++ [((ansAt r1 x.1.1 k).2, (ansAt r2 x.1.2 k).2)], st.2 ++ [(((ansAt r1 x.1.1 k).2, (ansAt r2 x.1.2 k).2), x.2 ++ [B.getD k []])]))
  else .error (x.2 ++ [B.getD k []])
def scanK (x : Lv) : List Nat → Kn → Except (List (List Bool)) Kn
  | [], st => .ok st
  | k :: ks, st => match bstep r1 r2 B x k st with
    | .error r => .error r
    | .ok st' => scanK x ks st'
def scanL : List Lv → Kn → Except (List (List Bool)) Kn
  | [], st => .ok st
  | x :: xs, st => match scanK r1 r2 B x (List.range B.length) st with
    | .error r => .error r
    | .ok st' => scanL xs st'
def btw : Nat → List Lv → List (Nat × Nat) → Option (List (List Bool))
  | 0, _, _ => none
  | _ + 1, [], _ => none
  | n + 1, x :: xs, kn => match scanL r1 r2 B (x :: xs) (kn, []) with
    | .error r => some r
    | .ok st => btw n st.2 st.1
end
structure Kok (n1 n2 : Nat) (kn : List (Nat × Nat)) : Prop where
  nd : kn.Nodup
  lt : ∀ p ∈ kn, p.1 < n1 ∧ p.2 < n2
theorem nodup_le : ∀ (n : Nat) (l : List Nat), l.Nodup → (∀ x ∈ l, x < n) → l.length ≤ n
  | 0, l, _, h => by
    cases l with
    | nil => exact Nat.le_refl _
    | cons a l => exact absurd (h a (by simp)) (by omega)
  | n + 1, l, hn, h => by
    have h2 := nodup_le n (l.erase n) (hn.sublist List.erase_sublist) fun x hx => by
      have hm := (hn.mem_erase_iff).mp hx
      have := h x hm.2
      have := hm.1
      omega
    have := List.length_erase (a := n) (l := l)
    split at this <;> omega
theorem Kok.le {n1 n2 : Nat} {kn : List (Nat × Nat)} (h : Kok n1 n2 kn) : kn.length ≤ n1 * n2 := by
  have key := nodup_le (n1 * n2) (kn.map fun p => p.1 * n2 + p.2) ?_ ?_
  · rwa [List.length_map] at key
  · refine List.pairwise_map.mpr (List.Pairwise.imp_of_mem ?_ h.nd)
    intro p q hp hq hne z
    obtain ⟨_, a2⟩ := h.lt p hp
    obtain ⟨_, b2⟩ := h.lt q hq
    have e1 : (p.1 * n2 + p.2) % n2 = p.2 := by rw [Nat.mul_comm, Nat.mul_add_mod]; exact Nat.mod_eq_of_lt a2
    have e2 : (q.1 * n2 + q.2) % n2 = q.2 := by rw [Nat.mul_comm, Nat.mul_add_mod]; exact Nat.mod_eq_of_lt b2
    have h2 : p.2 = q.2 := by rw [← e1, ← e2, z]
    have h1 : p.1 = q.1 := by
      have hpos : 0 < n2 := by omega
      have z' : p.1 * n2 = q.1 * n2 := by omega
      exact Nat.eq_of_mul_eq_mul_right hpos z'
    exact hne (Prod.ext h1 h2)
  · intro x hx
    obtain ⟨p, hp, rfl⟩ := List.mem_map.mp hx
    obtain ⟨a1, a2⟩ := h.lt p hp
    have : (p.1 + 1) * n2 ≤ n1 * n2 := Nat.mul_le_mul_right _ a1
    have e : (p.1 + 1) * n2 = p.1 * n2 + n2 := by rw [Nat.add_mul, Nat.one_mul]
    omega
theorem Kok.add {n1 n2 a b : Nat} {kn : List (Nat × Nat)} (h : Kok n1 n2 kn) (ha : a < n1) (hb : b < n2) (hn : (a, b) ∉ kn) : Kok n1 n2 (kn ++ [(a, b)]) := by
  refine ⟨?_, fun p hp => ?_⟩
  · rw [List.nodup_append]
    refine ⟨h.nd, by simp, fun x hx y hy z => ?_⟩
    rw [List.mem_singleton] at hy
    subst hy
    subst z
    exact hn hx
  · rcases List.mem_append.mp hp with hp | hp
    · exact h.lt p hp
    · rw [List.mem_singleton] at hp
      subst hp
      exact ⟨ha, hb⟩
def prD (p : Nat × Nat) : D := .tup [.int ((p.1 : Nat) : Int), .int ((p.2 : Nat) : Int)]
theorem prD_inj {p q : Nat × Nat} : (prD p = prD q) = (p = q) := by
  obtain ⟨a, b⟩ := p
  obtain ⟨c, d⟩ := q
  apply propext
  constructor
  · intro z
    unfold prD at z
    simp only [D.tup.injEq, List.cons.injEq, D.int.injEq, and_true] at z
    exact Prod.ext (by simp; omega) (by simp; omega)
  · intro z; rw [z]
theorem prD_ok {p : Nat × Nat} : nokD (prD p) = true := by
  simp only [nokD, prD, nkey, nkeys]
  rfl
def knK (kn : List (Nat × Nat)) : List (D × D) := kn.map fun p => (prD p, .bl true)
theorem getK_kn {p : Nat × Nat} : ∀ kn : List (Nat × Nat), getK (knK kn) (prD p) = if p ∈ kn then some (.bl true) else none
  | [] => rfl
  | q :: kn => by
    have ih := getK_kn (p := p) kn
    unfold getK knK at ih ⊢
    rw [List.map_cons, List.find?_cons]
    by_cases h : q = p
    · subst h; simp
    · have h' : ¬ prD q = prD p := by rw [prD_inj]; exact h
      simp only [h', decide_false]
      rw [ih]
      have : (p ∈ q :: kn) = (p ∈ kn) := by
        apply propext
        rw [List.mem_cons]
        exact ⟨fun z => z.resolve_left fun q => h q.symm, .inr⟩
      simp only [this]
theorem putD_kn {p : Nat × Nat} {kn : List (Nat × Nat)} (h : p ∉ kn) : putD (knK kn) (prD p) (.bl true) = knK (kn ++ [p]) := by
  unfold putD
  have : (knK kn).any (fun q => decide (q.1 = prD p)) = false := by
    rw [List.any_eq_false]
    intro q hq
    obtain ⟨a, ha, rfl⟩ := List.mem_map.mp hq
    show ¬ decide (prD a = prD p) = true
    rw [decide_eq_true_eq, prD_inj]
    intro z
    subst z
    exact h ha
  rw [this]
  simp [knK]
theorem dicN_at {S : Sto} {kvs : List (D × D)} {k : D} {l : Nat} (hl : S[l]? = some (.dic 2 kvs)) (h : nokD k = true) : dicN (.ref l) k S = some (getK kvs k) := by
  simp only [dicN, hl, h]
theorem w_notInN {S : Sto} {k d : D} {r : Option D} {Q : D → Sto → Prop} {X : Exc → Sto → Prop} (h : dicN d k S = some r) : Wp (notInDicN k d S) Q X = Q (.bl (!r.isSome)) S := by
  simp only [notInDicN, h]; rfl
theorem w_setN {l : Nat} {kvs : List (D × D)} {k v : D} {S : Sto} {Q : Unit → Sto → Prop} {X : Exc → Sto → Prop} (hl : S[l]? = some (.dic 2 kvs)) (hk : nokD k = true) (hz : kvs.length ≤ sizeLine) : Wp (setDicN (.ref l) k v S) Q X = Q () (S.set l (.dic 2 (putD kvs k v))) := by
  simp only [setDicN, hl, hk, decide_eq_true hz, Bool.and_self]
  rfl
theorem w_dDispN {fk fv : Sl → Sto → Res D} {sd : Sl} {S : Sto} {Q : D → Sto → Prop} {X : Exc → Sto → Prop} : Wp (dDispN fk fv sd S) Q X = Wp ((fk sd S).bind fun k S1 => (fv sd S1).bind fun v S2 => match nokD k with
  | true => .ok (.ref S2.length) (S2 ++ [.dic 2 [(k, v)]])
  | false => .stuck) Q X := rfl
def btwD : Option (List (List Bool)) → D
  | none => .non
  | some r => .frl (r.map sW)

end Lw

namespace Lw
open PySem PySem.Spec PyProof.Rows L2 DL
def addNew (f : List Nat) (row : List En) : List Nat := row.foldl (fun f e => if e.2 ∈ f then f else f ++ [e.2]) f
def bfs (rows : List (List En)) : Nat → Nat → List Nat → List Nat
  | 0, _, f => f
  | n + 1, k, f => if k < f.length then bfs rows n (k + 1) (addNew f (rowAt rows (f.getD k 0))) else f
def metL (rows : List (List En)) : List Nat := bfs rows (rows.length + 1) 0 [0]
structure Met (rows : List (List En)) (f : List Nat) : Prop where
  nd : f.Nodup
  lt : ∀ r ∈ f, r < rows.length
  hd : f[0]? = some 0
  ld : ∀ j, 0 < j → j < f.length → ∃ i, i < j ∧ ∃ e ∈ rowAt rows (f.getD i 0), e.2 = f.getD j 0
theorem Met.le {rows : List (List En)} {f : List Nat} (h : Met rows f) : f.length ≤ rows.length := nodup_le _ _ h.nd h.lt
theorem Met.pos {rows : List (List En)} {f : List Nat} (h : Met rows f) : 0 < f.length := by
  have := h.hd
  cases f with
  | nil => cases this
  | cons a f => simp
theorem getD_app {f : List Nat} {i x : Nat} (h : i < f.length) : (f ++ [x]).getD i 0 = f.getD i 0 := by
  simp [List.getD, List.getElem?_append_left h]
theorem getD_last {f : List Nat} {x : Nat} : (f ++ [x]).getD f.length 0 = x := by simp [List.getD]
theorem Met.add {rows : List (List En)} {f : List Nat} {k : Nat} {e : En} (h : Met rows f) (hk : k < f.length) (he : e ∈ rowAt rows (f.getD k 0)) (hx : e.2 < rows.length) (hn : e.2 ∉ f) : Met rows (f ++ [e.2]) := by
  refine ⟨?_, fun r hr => ?_, ?_, fun j hj hl => ?_⟩
  · rw [List.nodup_append]
    refine ⟨h.nd, by simp, fun a ha b hb => ?_⟩
    rw [List.mem_singleton] at hb
    subst hb
    intro z
    subst z
    exact hn ha
  · rcases List.mem_append.mp hr with hr | hr
    · exact h.lt r hr
    · rw [List.mem_singleton] at hr
      subst hr
      exact hx
  · rw [List.getElem?_append_left h.pos]
    exact h.hd
  · rw [List.length_append, List.length_singleton] at hl
    by_cases hjl : j < f.length
    · obtain ⟨i, hi, e', he', e2⟩ := h.ld j hj hjl
      exact ⟨i, hi, e', by rw [getD_app (by omega)]; exact he', by rw [getD_app hjl]; exact e2⟩
    · have : j = f.length := by omega
      subst this
      exact ⟨k, hk, e, by rw [getD_app hk]; exact he, by rw [getD_last]⟩
theorem addNew_snoc {f : List Nat} {pre : List En} {e : En} : addNew f (pre ++ [e]) = if e.2 ∈ addNew f pre then addNew f pre else addNew f pre ++ [e.2] := by
  unfold addNew
  rw [List.foldl_append]
  rfl
theorem addNew_keep {f : List Nat} : ∀ (row : List En), ∃ g, addNew f row = f ++ g := by
  intro row
  suffices h : ∀ (row : List En) (f0 : List Nat), (∃ g, f0 = f ++ g) → ∃ g, addNew f0 row = f ++ g from h row f ⟨[], by simp⟩
  intro row
  induction row with
  | nil => intro f0 h; exact h
  | cons e row ih =>
    intro f0 h
    show ∃ g, addNew (if e.2 ∈ f0 then f0 else f0 ++ [e.2]) row = f ++ g
    split
    · exact ih f0 h
    · obtain ⟨g, rfl⟩ := h
      exact ih _ ⟨g ++ [e.2], by rw [List.append_assoc]⟩
theorem getD_keep {f g : List Nat} {k : Nat} (hk : k < f.length) : (f ++ g).getD k 0 = f.getD k 0 := by
  simp [List.getD, List.getElem?_append_left hk]
theorem Met.row {rows : List (List En)} {f : List Nat} {k : Nat} (hm : ∀ r ∈ rows, ∀ e ∈ r, e.2 < rows.length) (h : Met rows f) (hk : k < f.length) (pre post : List En) (hpp : rowAt rows (f.getD k 0) = pre ++ post) : Met rows (addNew f pre) := by
  have key : ∀ n, Met rows (addNew f (pre.take n)) := by
    intro n
    induction n with
    | zero => exact h
    | succ n h1 =>
      by_cases hn : n < pre.length
      · rw [List.take_succ_eq_append_getElem hn, addNew_snoc]
        split
        · exact h1
        · rename_i hnn
          obtain ⟨g, hg⟩ := addNew_keep (f := f) (pre.take n)
          have hk2 : k < (addNew f (pre.take n)).length := by rw [hg, List.length_append]; omega
          have hrow : rowAt rows ((addNew f (pre.take n)).getD k 0) = rowAt rows (f.getD k 0) := by rw [hg, getD_keep hk]
          have hmem : pre[n] ∈ rowAt rows (f.getD k 0) := by rw [hpp]; simp
          refine h1.add hk2 (by rw [hrow]; exact hmem) ?_ hnn
          have hl : f.getD k 0 < rows.length := h.lt _ (by simp [List.getD, hk])
          have hr : rowAt rows (f.getD k 0) ∈ rows := row_mem hl
          exact hm _ hr _ hmem
      · rw [List.take_of_length_le (by omega)] at h1 ⊢
        exact h1
  have := key pre.length
  rwa [List.take_length] at this
theorem metL_met {rows : List (List En)} (hm : ∀ r ∈ rows, ∀ e ∈ r, e.2 < rows.length) (h1 : 1 ≤ rows.length) : Met rows (metL rows) := by
  have key : ∀ (n k : Nat) (f : List Nat), Met rows f → Met rows (bfs rows n k f) := by
    intro n
    induction n with
    | zero => intro k f h; exact h
    | succ n ih =>
      intro k f h
      unfold bfs
      split
      · rename_i hk
        exact ih _ _ (h.row hm hk _ [] (by simp))
      · exact h
  exact key _ _ _ ⟨by simp, fun r hr => by
    have : r = 0 := by simpa using hr
    omega, rfl, fun j hj hl => by simp at hl; omega⟩
theorem met0 {rows : List (List En)} (h1 : 1 ≤ rows.length) : Met rows [0] := ⟨by simp, fun r hr => by
    have : r = 0 := by simpa using hr
    omega, rfl, fun j hj hl => by simp at hl; omega⟩
theorem bfs_end {rows : List (List En)} {n k : Nat} {f : List Nat} (h : ¬ k < f.length) : bfs rows n k f = f := by
  cases n with
  | zero => rfl
  | succ n => unfold bfs; rw [if_neg h]
theorem bfs_step {rows : List (List En)} {n k : Nat} {f : List Nat} (h : k < f.length) : bfs rows (n + 1) k f = bfs rows n (k + 1) (addNew f (rowAt rows (f.getD k 0))) := by
  rw [bfs, if_pos h]
def nI (n : Nat) : D := .int ((n : Nat) : Int)
theorem at_nI {f : List Nat} {k : Nat} (h : k < f.length) : atI (f.map nI) ((k : Nat) : Int) = some (nI (f.getD k 0)) := by
  rw [atI_pos (by omega)]
  simp [h, List.getD]
def trueK (f : List Nat) : List (D × D) := f.map fun r => (nI r, .bl true)
theorem nI_inj {a b : Nat} : (nI a = nI b) = (a = b) := by
  unfold nI
  rw [D.int.injEq]
  exact propext Int.ofNat_inj
theorem getK_true {r : Nat} : ∀ f : List Nat, getK (trueK f) (nI r) = if r ∈ f then some (.bl true) else none
  | [] => rfl
  | a :: f => by
    have ih := getK_true (r := r) f
    unfold getK trueK at ih ⊢
    rw [List.map_cons, List.find?_cons]
    by_cases h : a = r
    · subst h; simp
    · have h' : ¬ nI a = nI r := by rw [nI_inj]; exact h
      simp only [h', decide_false]
      rw [ih]
      have : (r ∈ a :: f) = (r ∈ f) := by
        apply propext
        rw [List.mem_cons]
        exact ⟨fun z => z.resolve_left fun q => h q.symm, .inr⟩
      simp only [this]
theorem putD_true {r : Nat} {f : List Nat} (h : r ∉ f) : putD (trueK f) (nI r) (.bl true) = trueK (f ++ [r]) := by
  unfold putD
  have : (trueK f).any (fun p => decide (p.1 = nI r)) = false := by
    rw [List.any_eq_false]
    intro p hp
    obtain ⟨a, ha, rfl⟩ := List.mem_map.mp hp
    show ¬ decide (nI a = nI r) = true
    rw [decide_eq_true_eq, nI_inj]
    intro z
    subst z
    exact h ha
  rw [this]
  simp [trueK]
theorem w_setDic {l : Nat} {kvs : List (D × D)} {k v : D} {S : Sto} {Q : Unit → Sto → Prop} {X : Exc → Sto → Prop} (hl : S[l]? = some (.dic 0 kvs)) (hk : (key0 k).isSome = true) (hz : kvs.length < sizeLine) : Wp (setDic (.ref l) k v S) Q X = Q () (S.set l (.dic 0 (putD kvs k v))) := by
  simp only [setDic, hl, hk, decide_eq_true hz, Bool.and_self]
  rfl
def Ek (rows : List (List En)) (w : Nat) : Nat → Nat → Nat → Prop
  | 0, _, _ => True
  | k + 1, i, j => Ek rows w k i j ∧ ∀ c, c < w → (ansAt rows i c).1 = (ansAt rows j c).1 ∧ Ek rows w k (ansAt rows i c).2 (ansAt rows j c).2
def Al (rows : List (List En)) (w i j : Nat) : Prop := ∀ k, Ek rows w k i j
section
variable {rows : List (List En)} {w : Nat}
theorem Ek.refl : ∀ (k i : Nat), Ek rows w k i i
  | 0, _ => trivial
  | k + 1, i => ⟨Ek.refl k i, fun c _ => ⟨rfl, Ek.refl k _⟩⟩
theorem Ek.symm : ∀ {k i j : Nat}, Ek rows w k i j → Ek rows w k j i
  | 0, _, _, _ => trivial
  | k + 1, i, j, h => ⟨h.1.symm, fun c hc => ⟨(h.2 c hc).1.symm, (h.2 c hc).2.symm⟩⟩
theorem Ek.trans : ∀ {k i j l : Nat}, Ek rows w k i j → Ek rows w k j l → Ek rows w k i l
  | 0, _, _, _, _, _ => trivial
  | k + 1, i, j, l, h, g => ⟨h.1.trans g.1, fun c hc => ⟨(h.2 c hc).1.trans (g.2 c hc).1, (h.2 c hc).2.trans (g.2 c hc).2⟩⟩
theorem Al.refl (i : Nat) : Al rows w i i := fun k => Ek.refl k i
theorem Al.symm {i j : Nat} (h : Al rows w i j) : Al rows w j i := fun k => (h k).symm
theorem Al.trans {i j l : Nat} (h : Al rows w i j) (g : Al rows w j l) : Al rows w i l := fun k => (h k).trans (g k)
theorem Al.step {i j : Nat} (h : Al rows w i j) {c : Nat} (hc : c < w) : (ansAt rows i c).1 = (ansAt rows j c).1 ∧ Al rows w (ansAt rows i c).2 (ansAt rows j c).2 :=
  ⟨((h 1).2 c hc).1, fun k => ((h (k + 1)).2 c hc).2⟩
noncomputable def rep (rows : List (List En)) (w i : Nat) : Nat := ((List.range i).find? fun j => @decide (Al rows w j i) (Classical.propDecidable _)).getD i
end
theorem PM.nx {ins outs : Nat} {rows : List (List En)} (P : PM ins outs rows) : ∀ i c, i < rows.length → c < 2 ^ ins → (ansAt rows i c).2 < rows.length := fun i c hi hc =>
  P.nxt _ (row_mem hi) _ (ans_mem (by rw [P.len _ (row_mem hi)]; exact hc))
def cnt (p : List Nat) : Nat := (ddL (p.map fun (n : Nat) => (n : Int))).length
theorem met_from_ok {ins outs : Nat} {rows : List (List En)} {S : Sto} (P : PM ins outs rows) : F_met_from [(.tup (rows.map rowD)), .int 0] S = .ok (.frl ((metL rows).map nI)) S := by
  have n200 := P.n200
  unfold F_met_from
  refine fn_ok (gd_blw (n := 1) _ (gd_frl (gd_map fun _ _ => gd_int))) ?_
  unfold b_met_from
  simp only [z6, z5, wq_a, wq_b, wq_c, wq_d, wq_e, wq_f, wq_g, Int.reduceToNat, Int.reduceLE, Int.reduceLT, Int.reduceNeg, startD, List.replicate, Nat.reduceAdd, Nat.reduceSub, Nat.reduceEqDiff, if_true, if_false, Int.reduceEq, Int.reduceAdd, Int.reduceSub, Int.reduceMul, eq_self, Bool.true_and, Nat.reduceLeDiff, List.length_append, mergeD, putD, List.foldl_cons, List.foldl_nil, List.any_nil]
  rw [List.append_assoc]
  refine w_while (fun m sd S' => ∃ (f : List Nat) (k : Nat) (a5 a6 : Option D), S' = S ++ [.lst (f.map nI), .dic 0 (trueK f)] ∧ Met rows f ∧ k ≤ f.length ∧ bfs rows (rows.length + 1 - k) k f = metL rows ∧ m = rows.length + 1 - k ∧ sd = [some ((.tup (rows.map rowD))), some (.int 0), some (.ref S.length), some (.ref (S.length + 1)), some (nI k), a5, a6]) ?_ fuelW (rows.length + 1) _ _ (by unfold fuelW; omega) ⟨[0], 0, _, _, rfl, met0 P.n1, by simp, rfl, rfl, rfl⟩
  rintro m sd S' ⟨f, k, a5, a6, rfl, hM, hk, hb, rfl, rfl⟩
  have hl : (S ++ [DO.lst (f.map nI), .dic 0 (trueK f)])[S.length]? = some (.lst (f.map nI)) := get_mid rfl
  have hlenL : ∀ {Q : D → Sto → Prop} {X : Exc → Sto → Prop}, Wp (lenD [.ref S.length] (S ++ [DO.lst (f.map nI), .dic 0 (trueK f)])) Q X = Q (.int ((f.length : Nat) : Int)) (S ++ [DO.lst (f.map nI), .dic 0 (trueK f)]) := by
    intro Q X
    simp only [lenD, hl, List.length_map]
    rfl
  have hle := hM.le
  by_cases hkl : k < f.length
  · have hkI : ((k : Nat) : Int) < ((f.length : Nat) : Int) := by omega
    have hrl : f.getD k 0 < rows.length := hM.lt _ (by simp [List.getD, hkl])
    simp only [z6, z5, wq_a, wq_b, wq_c, wq_d, wq_e, wq_f, wq_g, Int.reduceToNat, Int.reduceLE, Int.reduceLT, Int.reduceNeg, startD, List.replicate, Nat.reduceAdd, Nat.reduceSub, Nat.reduceEqDiff, if_true, if_false, Int.reduceEq, Int.reduceAdd, Int.reduceSub, Int.reduceMul, eq_self, nI, hlenL, hkI]
    rw [w_ixL2 hl, at_nI hkl]
    simp only [z6, z5, wq_a, wq_b, wq_c, wq_d, wq_e, wq_f, wq_g, Int.reduceToNat, Int.reduceLE, Int.reduceLT, Int.reduceNeg, startD, List.replicate, Nat.reduceAdd, Nat.reduceSub, Nat.reduceEqDiff, if_true, if_false, Int.reduceEq, Int.reduceAdd, Int.reduceSub, Int.reduceMul, eq_self, nI, at_row hrl, itemsD, rowD]
    refine w_loopP enD (fun pre sd S' => ∃ (a5 a6 : Option D), S' = S ++ [.lst ((addNew f pre).map nI), .dic 0 (trueK (addNew f pre))] ∧ sd = [some ((.tup (rows.map rowD))), some (.int 0), some (.ref S.length), some (.ref (S.length + 1)), some (nI k), a5, a6]) (rowAt rows (f.getD k 0)) (fun _ _ _ _ _ _ => rfl) ⟨_, _, rfl, rfl⟩ ?_ ?_
    · rintro sd S' ⟨b5, b6, rfl, rfl⟩
      simp only [z6, z5, wq_a, wq_b, wq_c, wq_d, wq_e, wq_f, wq_g, Int.reduceToNat, Int.reduceLE, Int.reduceLT, Int.reduceNeg, startD, List.replicate, Nat.reduceAdd, Nat.reduceSub, Nat.reduceEqDiff, if_true, if_false, Int.reduceEq, Int.reduceAdd, Int.reduceSub, Int.reduceMul, eq_self, nI]
      have hM2 := hM.row P.nxt hkl (rowAt rows (f.getD k 0)) [] (by simp)
      obtain ⟨g, hg⟩ := addNew_keep (f := f) (rowAt rows (f.getD k 0))
      refine ⟨rows.length + 1 - (k + 1), by omega, addNew f (rowAt rows (f.getD k 0)), k + 1, _, _, rfl, hM2, by rw [hg, List.length_append]; omega, ?_, rfl, rfl⟩
      rw [← hb, show rows.length + 1 - k = (rows.length + 1 - (k + 1)) + 1 by omega, bfs_step hkl]
    · rintro pre e post sd S' epp ⟨b5, b6, rfl, rfl⟩
      have hM1 := hM.row P.nxt hkl pre (e :: post) epp
      have hle1 := hM1.le
      generalize hf1 : addNew f pre = f1 at hM1 hle1
      have hl1 : (S ++ [DO.lst (f1.map nI), .dic 0 (trueK f1)])[S.length]? = some (.lst (f1.map nI)) := get_mid rfl
      have e1 : S ++ [DO.lst (f1.map nI), .dic 0 (trueK f1)] = (S ++ [DO.lst (f1.map nI)]) ++ [.dic 0 (trueK f1)] := by simp
      have hd1 : (S ++ [DO.lst (f1.map nI), .dic 0 (trueK f1)])[S.length + 1]? = some (.dic 0 (trueK f1)) := by
        rw [e1]; exact get_mid (by simp)
      simp only [z6, z5, wq_a, wq_b, wq_c, wq_d, wq_e, wq_f, wq_g, Int.reduceToNat, Int.reduceLE, Int.reduceLT, Int.reduceNeg, startD, List.replicate, Nat.reduceAdd, Nat.reduceSub, Nat.reduceEqDiff, if_true, if_false, Int.reduceEq, Int.reduceAdd, Int.reduceSub, Int.reduceMul, eq_self, enD, gTupD]
      rw [w_notInDic (dic_at hd1 (show (key0 (D.int ((e.2 : Nat) : Int))).isSome = true from rfl)), show getK (trueK f1) (D.int ((e.2 : Nat) : Int)) = _ from getK_true f1]
      by_cases hin : e.2 ∈ f1
      · simp only [hin, z6, z5, wq_a, wq_b, wq_c, wq_d, wq_e, wq_f, wq_g, Int.reduceToNat, Int.reduceLE, Int.reduceLT, Int.reduceNeg, startD, List.replicate, Nat.reduceAdd, Nat.reduceSub, Nat.reduceEqDiff, if_true, if_false, Int.reduceEq, Int.reduceAdd, Int.reduceSub, Int.reduceMul, eq_self, Option.isSome_some]
        exact ⟨_, _, by rw [addNew_snoc, hf1, if_pos hin], rfl⟩
      · simp only [hin, z6, z5, wq_a, wq_b, wq_c, wq_d, wq_e, wq_f, wq_g, Int.reduceToNat, Int.reduceLE, Int.reduceLT, Int.reduceNeg, startD, List.replicate, Nat.reduceAdd, Nat.reduceSub, Nat.reduceEqDiff, if_true, if_false, Int.reduceEq, Int.reduceAdd, Int.reduceSub, Int.reduceMul, eq_self, Option.isSome_none]
        rw [w_setDic hd1 rfl (by simp [trueK]; rw [sizeLine_eq]; omega), show (D.int ((e.2 : Nat) : Int)) = nI e.2 from rfl, putD_true hin]
        simp only [z6, z5, wq_a, wq_b, wq_c, wq_d, wq_e, wq_f, wq_g, Int.reduceToNat, Int.reduceLE, Int.reduceLT, Int.reduceNeg, startD, List.replicate, Nat.reduceAdd, Nat.reduceSub, Nat.reduceEqDiff, if_true, if_false, Int.reduceEq, Int.reduceAdd, Int.reduceSub, Int.reduceMul, eq_self]
        have e2 : (S ++ [DO.lst (f1.map nI), .dic 0 (trueK f1)]).set (S.length + 1) (.dic 0 (trueK (f1 ++ [e.2]))) = S ++ [DO.lst (f1.map nI), .dic 0 (trueK (f1 ++ [e.2]))] := by
          rw [e1, set_mid (by simp)]; simp
        rw [e2]
        have hl2 : (S ++ [DO.lst (f1.map nI), .dic 0 (trueK (f1 ++ [e.2]))])[S.length]? = some (.lst (f1.map nI)) := get_mid rfl
        rw [zm (isTy_lst hl2)]
        simp only [z6, z5, wq_a, wq_b, wq_c, wq_d, wq_e, wq_f, wq_g, Int.reduceToNat, Int.reduceLE, Int.reduceLT, Int.reduceNeg, startD, List.replicate, Nat.reduceAdd, Nat.reduceSub, Nat.reduceEqDiff, if_true, if_false, Int.reduceEq, Int.reduceAdd, Int.reduceSub, Int.reduceMul, eq_self]
        rw [w_appL hl2 (by rw [List.length_map, sizeLine_eq]; omega), set_mid rfl]
        exact ⟨_, _, by rw [addNew_snoc, hf1, if_neg hin, List.map_append]; rfl, rfl⟩
  · have hkI : ¬ ((k : Nat) : Int) < ((f.length : Nat) : Int) := by omega
    simp only [z6, z5, wq_a, wq_b, wq_c, wq_d, wq_e, wq_f, wq_g, Int.reduceToNat, Int.reduceLE, Int.reduceLT, Int.reduceNeg, startD, List.replicate, Nat.reduceAdd, Nat.reduceSub, Nat.reduceEqDiff, if_true, if_false, Int.reduceEq, Int.reduceAdd, Int.reduceSub, Int.reduceMul, eq_self, nI, hlenL, hkI, w_dFrz]
    rw [frz_at hl]
    have := bfs_end (rows := rows) (n := rows.length + 1 - k) hkl
    rw [hb] at this
    rw [this]
    refine ⟨rfl, _, set_mid rfl⟩

theorem int_0 : PySem.intText? (W [48]) = some 0 := by decide +kernel
theorem int_1 : PySem.intText? (W [49]) = some 1 := by decide +kernel
theorem int_sign {S : Sto} (c : Bool) : DL.intD [.str (W [cb c])] S = .ok (.int (if c then 1 else 0)) S := by
  simp only [DL.intD]
  cases c with
  | true =>
    show (match PySem.intText? (W [49]) with | some n => if (W [49]).length ≤ 640 then Res.ok (D.int n) S else .stuck | none => .stuck) = _
    rw [int_1]
    simp only
    rw [if_pos (by rw [W_len]; decide)]
    rfl
  | false =>
    show (match PySem.intText? (W [48]) with | some n => if (W [48]).length ≤ 640 then Res.ok (D.int n) S else .stuck | none => .stuck) = _
    rw [int_0]
    simp only
    rw [if_pos (by rw [W_len]; decide)]
    rfl

def nb : List Bool → Nat
  | [] => 0
  | x :: b => (if x then 2 ^ b.length else 0) + nb b
theorem nb_lt : ∀ b : List Bool, nb b < 2 ^ b.length
  | [] => by simp [nb]
  | x :: b => by
    have := nb_lt b
    rw [List.length_cons, Nat.pow_succ]
    unfold nb
    cases x <;> simp <;> omega
theorem nb_snoc {x : Bool} : ∀ b : List Bool, nb (b ++ [x]) = 2 * nb b + (if x then 1 else 0)
  | [] => by cases x <;> rfl
  | y :: b => by
    have := nb_snoc (x := x) b
    show (if y then 2 ^ (b ++ [x]).length else 0) + nb (b ++ [x]) = 2 * ((if y then 2 ^ b.length else 0) + nb b) + _
    rw [this, List.length_append, List.length_singleton, Nat.pow_succ]
    cases y <;> simp <;> omega
theorem allB_nb : ∀ b : List Bool, (allB b.length)[nb b]? = some b
  | [] => rfl
  | x :: b => by
    have ih := allB_nb b
    have hl := nb_lt b
    show ((allB b.length).map (false :: ·) ++ (allB b.length).map (true :: ·))[(if x then 2 ^ b.length else 0) + nb b]? = _
    cases x with
    | false =>
      rw [if_neg (by simp), Nat.zero_add, List.getElem?_append_left (by rw [List.length_map, allB_many]; exact hl), List.getElem?_map, ih]
      rfl
    | true =>
      rw [if_pos rfl, List.getElem?_append_right (by rw [List.length_map, allB_many]; omega), List.length_map, allB_many, Nat.add_sub_cancel_left, List.getElem?_map, ih]
      rfl
theorem allB_getD {ins : Nat} {b : List Bool} (h : b.length = ins) : (allB ins).getD (nb b) [] = b := by
  rw [← h, List.getD_eq_getElem?_getD, allB_nb]; rfl
theorem nb_of {ins k : Nat} (h : k < 2 ^ ins) : nb ((allB ins).getD k []) = k := by
  have hk : k < (allB ins).length := by rw [allB_many]; exact h
  have hb : (allB ins)[k]? = some ((allB ins).getD k []) := by rw [List.getD_eq_getElem?_getD, List.getElem?_eq_getElem hk]; rfl
  have hl := allB_len ins _ (List.mem_of_getElem? hb)
  have h2 := allB_nb ((allB ins).getD k [])
  rw [hl] at h2
  have nd := allB_nodup ins
  have hlt : nb ((allB ins).getD k []) < (allB ins).length := (List.getElem?_eq_some_iff.mp h2).1
  by_cases e : nb ((allB ins).getD k []) = k
  · exact e
  · exfalso
    rw [List.getElem?_eq_getElem hlt] at h2
    rw [List.getElem?_eq_getElem hk] at hb
    have h3 : (allB ins)[nb ((allB ins).getD k [])] = (allB ins)[k] := by rw [Option.some.inj h2, Option.some.inj hb]
    rcases Nat.lt_or_gt_of_ne e with z | z
    · exact List.pairwise_iff_getElem.mp nd _ _ hlt hk z h3
    · exact List.pairwise_iff_getElem.mp nd _ _ hk hlt z h3.symm

theorem number_ok {b : List Bool} {S : Sto} (h : b.length ≤ 20) : F_number_of [sW b] S = .ok (.int ((nb b : Nat) : Int)) S := by
  unfold F_number_of
  refine fn_ok rfl ?_
  unfold b_number_of
  have esg : signsD (W (wB b)) = b.map fun x => D.str (W [cb x]) := by
    unfold signsD
    rw [W_cps]
    simp [wB, W]
  simp only [z6, z5, wq_a, wq_b, wq_c, wq_d, wq_e, wq_f, wq_g, Int.reduceToNat, Int.reduceLE, Int.reduceLT, Int.reduceNeg, startD, List.replicate, Nat.reduceAdd, Nat.reduceSub, Nat.reduceEqDiff, if_true, if_false, Int.reduceEq, Int.reduceAdd, Int.reduceSub, Int.reduceMul, eq_self, sW, itemsD, esg]
  refine w_loopP (fun x : Bool => D.str (W [cb x])) (fun pre sd S' => S' = S ∧ ∃ a2, sd = [some (.str (W (wB b))), some (.int ((nb pre : Nat) : Int)), a2]) b (fun _ _ _ _ _ _ => rfl) ⟨rfl, _, rfl⟩ ?_ ?_
  · rintro sd S' ⟨rfl, a2, rfl⟩
    simp only [z6, z5, wq_a, wq_b, wq_c, wq_d, wq_e, wq_f, wq_g, Int.reduceToNat, Int.reduceLE, Int.reduceLT, Int.reduceNeg, startD, List.replicate, Nat.reduceAdd, Nat.reduceSub, Nat.reduceEqDiff, if_true, if_false, Int.reduceEq, Int.reduceAdd, Int.reduceSub, Int.reduceMul, eq_self]
    exact ⟨trivial, app_nil _⟩
  · rintro pre x post sd S' e ⟨rfl, a2, rfl⟩
    have hb := nb_lt pre
    have hpl : pre.length ≤ 20 := by have := congrArg List.length e; simp at this; omega
    have h2 : 2 ^ pre.length ≤ 2 ^ 20 := Nat.pow_le_pow_right (by decide) hpl
    have h3 : (2 : Nat) ^ 20 = 1048576 := rfl
    simp only [z6, z5, wq_a, wq_b, wq_c, wq_d, wq_e, wq_f, wq_g, Int.reduceToNat, Int.reduceLE, Int.reduceLT, Int.reduceNeg, startD, List.replicate, Nat.reduceAdd, Nat.reduceSub, Nat.reduceEqDiff, if_true, if_false, Int.reduceEq, Int.reduceAdd, Int.reduceSub, Int.reduceMul, eq_self, w_mulI (a := 2) (b := ((nb pre : Nat) : Int)) (mul_l (mul_okI (by decide) (by decide))), int_sign]
    have e9 : 2 * ((nb pre : Nat) : Int) + (if x = true then 1 else 0) = ((nb (pre ++ [x]) : Nat) : Int) := by
      rw [nb_snoc]
      cases x <;> simp
    rw [e9]
    exact ⟨trivial, _, rfl⟩
def prun (rows : List (List En)) : Nat → List (List Bool) → List (List Bool)
  | _, [] => []
  | i, b :: bs => (ansAt rows i (nb b)).1 :: prun rows (ansAt rows i (nb b)).2 bs
def pend (rows : List (List En)) : Nat → List (List Bool) → Nat
  | i, [] => i
  | i, b :: bs => pend rows (ansAt rows i (nb b)).2 bs
theorem pend_snoc {rows : List (List En)} {b : List Bool} : ∀ (bs : List (List Bool)) (i : Nat), pend rows i (bs ++ [b]) = (ansAt rows (pend rows i bs) (nb b)).2
  | [], _ => rfl
  | _ :: bs, i => pend_snoc bs _
theorem prun_snoc {rows : List (List En)} {b : List Bool} : ∀ (bs : List (List Bool)) (i : Nat), prun rows i (bs ++ [b]) = prun rows i bs ++ [(ansAt rows (pend rows i bs) (nb b)).1]
  | [], _ => rfl
  | c :: bs, i => by
    show _ :: prun rows _ (bs ++ [b]) = _ :: (prun rows _ bs ++ _)
    rw [prun_snoc bs]
    rfl
theorem prun_len {rows : List (List En)} : ∀ (bs : List (List Bool)) (i : Nat), (prun rows i bs).length = bs.length
  | [], _ => rfl
  | _ :: bs, i => by
    show (prun rows _ bs).length + 1 = _
    rw [prun_len bs]
    rfl
theorem PM.ans {ins outs : Nat} {rows : List (List En)} (P : PM ins outs rows) {i : Nat} (hi : i < rows.length) {b : List Bool} (hb : b.length = ins) : nb b < (rowAt rows i).length ∧ (ansAt rows i (nb b)).1.length = outs ∧ (ansAt rows i (nb b)).2 < rows.length := by
  have hl := P.len _ (row_mem hi)
  have hn : nb b < (rowAt rows i).length := by rw [hl, ← hb]; exact nb_lt b
  exact ⟨hn, P.deed _ (row_mem hi) _ (ans_mem hn), P.nxt _ (row_mem hi) _ (ans_mem hn)⟩
theorem pend_lt {ins outs : Nat} {rows : List (List En)} (P : PM ins outs rows) : ∀ {bs : List (List Bool)} {i : Nat}, i < rows.length → (∀ b ∈ bs, b.length = ins) → pend rows i bs < rows.length
  | [], _, hi, _ => hi
  | b :: bs, i, hi, hb => pend_lt P (bs := bs) (P.ans hi (hb b (by simp))).2.2 fun x hx => hb x (List.mem_cons_of_mem _ hx)
theorem sWs_blw {k : Nat} {bs : List (List Bool)} : (D.frl (bs.map sW)).blw k = true := gd_blw (n := 1) _ (gd_frl (gd_map fun _ _ => gd_W (wB_ok _)))
theorem deeds_ok {ins outs : Nat} {rows : List (List En)} {bs : List (List Bool)} {S : Sto} (P : PM ins outs rows) (hb : ∀ b ∈ bs, b.length = ins) (hl : bs.length ≤ 100000) : F_deeds_of [plD ins outs rows, .frl (bs.map sW)] S = .ok (.frl ((prun rows 0 bs).map sW)) S := by
  unfold F_deeds_of
  refine fn_ok sWs_blw ?_
  unfold b_deeds_of
  have x2 : ∀ {S : Sto}, Wp (ixD (plD ins outs rows) (.int 2) S) = Wp (.ok (.tup (rows.map rowD)) S) := rfl
  generalize plD ins outs rows = PP at x2 ⊢
  simp only [z6, z5, wq_a, wq_b, wq_c, wq_d, wq_e, wq_f, wq_g, Int.reduceToNat, Int.reduceLE, Int.reduceLT, Int.reduceNeg, startD, List.replicate, Nat.reduceAdd, Nat.reduceSub, Nat.reduceEqDiff, if_true, if_false, Int.reduceEq, Int.reduceAdd, Int.reduceSub, Int.reduceMul, eq_self, itemsD]
  refine w_loopP sW (fun pre sd S' => ∃ (a4 a5 : Option D), S' = S ++ [.lst ((prun rows 0 pre).map sW)] ∧ sd = [some PP, some (.frl (bs.map sW)), some (.int ((pend rows 0 pre : Nat) : Int)), some (.ref S.length), a4, a5]) bs (fun _ _ _ _ _ _ => rfl) ⟨_, _, rfl, rfl⟩ ?_ ?_
  · rintro sd S' ⟨a4, a5, rfl, rfl⟩
    simp only [z6, z5, wq_a, wq_b, wq_c, wq_d, wq_e, wq_f, wq_g, Int.reduceToNat, Int.reduceLE, Int.reduceLT, Int.reduceNeg, startD, List.replicate, Nat.reduceAdd, Nat.reduceSub, Nat.reduceEqDiff, if_true, if_false, Int.reduceEq, Int.reduceAdd, Int.reduceSub, Int.reduceMul, eq_self, w_dFrz]
    rw [frz_at (get_mid rfl)]
    exact ⟨rfl, [.dead], by rw [set_mid rfl]⟩
  · rintro pre b post sd S' e ⟨a4, a5, rfl, rfl⟩
    have hbl := hb b (by rw [e]; simp)
    have hpe := pend_lt P (bs := pre) (i := 0) (by have := P.n1; omega) fun x hx => hb x (by rw [e]; simp [hx])
    have ha := P.ans hpe hbl
    have hpl : pre.length ≤ 100000 := by have := congrArg List.length e; simp at this; omega
    simp only [z6, z5, wq_a, wq_b, wq_c, wq_d, wq_e, wq_f, wq_g, Int.reduceToNat, Int.reduceLE, Int.reduceLT, Int.reduceNeg, startD, List.replicate, Nat.reduceAdd, Nat.reduceSub, Nat.reduceEqDiff, if_true, if_false, Int.reduceEq, Int.reduceAdd, Int.reduceSub, Int.reduceMul, eq_self, x2, at_row hpe, rowD, number_ok (show b.length ≤ 20 by have := P.i4; omega), at_ans ha.1, enD, gTupD]
    rw [zm (isTy_lst get_last)]
    simp only [z6, z5, wq_a, wq_b, wq_c, wq_d, wq_e, wq_f, wq_g, Int.reduceToNat, Int.reduceLE, Int.reduceLT, Int.reduceNeg, startD, List.replicate, Nat.reduceAdd, Nat.reduceSub, Nat.reduceEqDiff, if_true, if_false, Int.reduceEq, Int.reduceAdd, Int.reduceSub, Int.reduceMul, eq_self]
    rw [w_appL get_last (by rw [sizeLine_eq, List.length_map, prun_len]; omega), set_last]
    refine ⟨_, _, ?_, by rw [pend_snoc]⟩
    rw [prun_snoc, List.map_append]
    rfl
end Lw

namespace Lw
open PySem PySem.Spec PyProof.Rows L2 DL
def lvL (x : Lv) : D := .tup [.frl (x.2.map sW), .int ((x.1.1 : Nat) : Int), .int ((x.1.2 : Nat) : Int)]
theorem sWs_gd {r : List (List Bool)} : GD 1 (.frl (r.map sW)) := gd_frl (gd_map fun _ _ => gd_W (wB_ok _))
theorem lvL_gd (x : Lv) : GD 2 (lvL x) := gd_tup fun d hd => by
  have : d = .frl (x.2.map sW) ∨ d = .int ((x.1.1 : Nat) : Int) ∨ d = .int ((x.1.2 : Nat) : Int) := by simpa using hd
  rcases this with rfl | rfl | rfl
  · exact sWs_gd
  · exact gd_int
  · exact gd_int
theorem btwD_blw {k : Nat} : ∀ o, (btwD o).blw k = true
  | none => rfl
  | some r => gd_blw (n := 1) _ sWs_gd
structure Lok (n1 n2 : Nat) (kn : List (Nat × Nat)) (lv : List Lv) : Prop where
  lt : ∀ x ∈ lv, x.1.1 < n1 ∧ x.1.2 < n2
  len : ∀ x ∈ lv, x.2.length < kn.length
theorem scan_one {r1 r2 : List (List En)} {B : List (List Bool)} {x : Lv} {k n : Nat} {st : Kn} : scanK r1 r2 B x (List.range' k (n + 1)) st = match bstep r1 r2 B x k st with
    | .error r => .error r
    | .ok st' => scanK r1 r2 B x (List.range' (k + 1) n) st' := by
  rw [List.range'_succ]
  rfl
theorem wEq {a b : List Bool} : (W (wB a) = W (wB b)) = (a = b) := propext ⟨fun z => wB_inj (W_inj.mp z), fun z => by rw [z]⟩
theorem law_btw_ok {ins o1 o2 a b : Nat} {r1 r2 : List (List En)} {S : Sto} (P1 : PM ins o1 r1) (P2 : PM ins o2 r2) (ha : a < r1.length) (hb : b < r2.length) :
    F__law_between [plD ins o1 r1, plD ins o2 r2, .int ((a : Nat) : Int), .int ((b : Nat) : Int)] S = .ok (btwD (btw r1 r2 (allB ins) (2 * (r1.length * r2.length) + 3) [((a, b), [])] [(a, b)])) S := by
  have i4 := P1.i4
  have p16 := pow_le i4
  have hN1 := P1.n200
  have hN2 := P2.n200
  have hNN : r1.length * r2.length ≤ 40000 := Nat.le_trans (Nat.mul_le_mul hN1 hN2) (by decide)
  have x0 : ∀ {S : Sto}, Wp (ixD (plD ins o1 r1) (.int 0) S) = Wp (.ok (.int ((ins : Nat) : Int)) S) := rfl
  have hlb := fun S : Sto => law_beats_ok (S := S) ins (39 - ins) (by omega)
  rw [show ins + 1 + (39 - ins) = 40 by omega] at hlb
  have at1 := fun (S : Sto) (i k : Nat) => law_at_ok (S := S) (i := i) (k := k) P1
  have at2 := fun (S : Sto) (i k : Nat) => law_at_ok (S := S) (i := i) (k := k) P2
  unfold F__law_between
  refine fn_ok (btwD_blw _) ?_
  unfold b__law_between
  generalize hC1 : plD ins o1 r1 = C1 at *
  generalize hC2 : plD ins o2 r2 = C2 at *
  generalize hR : btw r1 r2 (allB ins) (2 * (r1.length * r2.length) + 3) [((a, b), [])] [(a, b)] = R0
  have hnd := allB_nodup ins
  have hBl := allB_many ins
  have hBm : ∀ bt ∈ allB ins, bt.length = ins := allB_len ins
  generalize hB : allB ins = B at *
  have pk0 : nokD (.tup [.int ((a : Nat) : Int), .int ((b : Nat) : Int)]) = true := prD_ok (p := (a, b))
  simp only [z6, z5, wq_a, wq_b, wq_c, wq_d, wq_e, wq_f, wq_g, Int.reduceToNat, Int.reduceLE, Int.reduceLT, Int.reduceNeg, startD, List.replicate, Nat.reduceAdd, Nat.reduceSub, Nat.reduceEqDiff, if_true, if_false, Int.reduceEq, Int.reduceAdd, Int.reduceSub, Int.reduceMul, eq_self, x0, hlb, w_dDispN, pk0]
  have k0 : Kok r1.length r2.length [(a, b)] := ⟨by simp, fun p hp => by
    have : p = (a, b) := by simpa using hp
    subst this
    exact ⟨ha, hb⟩⟩
  refine w_while (fun m sd S' => ∃ (level : List Lv) (kn : List (Nat × Nat)) (T : Sto) (f : Nat) (a7 a8 a9 a10 a11 a12 a13 : Option D), S' = S ++ .dic 2 (knK kn) :: T ∧ Kok r1.length r2.length kn ∧ Lok r1.length r2.length kn level ∧ level.length ≤ kn.length ∧ btw r1 r2 B f level kn = R0 ∧ m = 2 * (r1.length * r2.length - kn.length) + (if level = [] then 0 else 1) ∧ m < f ∧ sd = [some C1, some C2, some (.int ((a : Nat) : Int)), some (.int ((b : Nat) : Int)), some (.frl (B.map sW)), some (.frl (level.map lvL)), some (.ref S.length), a7, a8, a9, a10, a11, a12, a13]) ?_ fuelW (2 * (r1.length * r2.length - 1) + 1) _ _ (by unfold fuelW; omega) ⟨[((a, b), [])], [(a, b)], [], _, _, _, _, _, _, _, _, rfl, k0, ⟨fun x hx => by
    have : x = ((a, b), []) := by simpa using hx
    subst this
    exact ⟨ha, hb⟩, fun x hx => by
    have : x = ((a, b), []) := by simpa using hx
    subst this
    simp⟩, by simp, hR, rfl, by omega, rfl⟩
  rintro m sd S' ⟨level, kn, T, f, a7, a8, a9, a10, a11, a12, a13, rfl, hk, hlv, hll, hrun, rfl, hmf, rfl⟩
  have hkle := hk.le
  simp only [z6, z5, wq_a, wq_b, wq_c, wq_d, wq_e, wq_f, wq_g, Int.reduceToNat, Int.reduceLE, Int.reduceLT, Int.reduceNeg, startD, List.replicate, Nat.reduceAdd, Nat.reduceSub, Nat.reduceEqDiff, if_true, if_false, Int.reduceEq, Int.reduceAdd, Int.reduceSub, Int.reduceMul, eq_self]
  rw [w_neG (gd_frl (n := 2) (gd_map fun x _ => lvL_gd x)) (gd_nil.le (m := 3) (by decide))]
  cases level with
  | nil =>
    simp only [z6, z5, wq_a, wq_b, wq_c, wq_d, wq_e, wq_f, wq_g, Int.reduceToNat, Int.reduceLE, Int.reduceLT, Int.reduceNeg, startD, List.replicate, Nat.reduceAdd, Nat.reduceSub, Nat.reduceEqDiff, if_true, if_false, Int.reduceEq, Int.reduceAdd, Int.reduceSub, Int.reduceMul, eq_self]
    have : R0 = none := by
      rw [← hrun]
      cases f <;> rfl
    rw [this]
    exact ⟨rfl, _, rfl⟩
  | cons x0' xs0 =>
    obtain ⟨f, rfl⟩ : ∃ f', f = f' + 1 := ⟨f - 1, by omega⟩
    have hR0 : R0 = (match scanL r1 r2 B (x0' :: xs0) (kn, []) with
      | .error r => some r
      | .ok st => btw r1 r2 B f st.2 st.1) := by rw [← hrun]; rfl
    have hne : (D.frl ((x0' :: xs0).map lvL) = D.frl []) = False := by simp
    rw [show decide (D.frl ((x0' :: xs0).map lvL) = D.frl []) = false from decide_eq_false (by rw [hne]; exact id)]
    have hif : (if x0' :: xs0 = [] then 0 else 1) = 1 := if_neg (by nofun)
    rw [hif] at hmf ⊢
    generalize hlevel : x0' :: xs0 = level at *
    simp only [z6, z5, wq_a, wq_b, wq_c, wq_d, wq_e, wq_f, wq_g, Int.reduceToNat, Int.reduceLE, Int.reduceLT, Int.reduceNeg, startD, List.replicate, Nat.reduceAdd, Nat.reduceSub, Nat.reduceEqDiff, if_true, if_false, Int.reduceEq, Int.reduceAdd, Int.reduceSub, Int.reduceMul, eq_self, itemsD]
    have eL : (S ++ DO.dic 2 (knK kn) :: T).length = S.length + 1 + T.length := by simp; omega
    rw [eL]
    refine w_loopP lvL (fun pre sd S' => ∃ (post : List Lv) (kn' : List (Nat × Nat)) (later : List Lv) (a8 a9 a10 a11 a12 a13 : Option D), level = pre ++ post ∧ S' = S ++ .dic 2 (knK kn') :: (T ++ [.lst (later.map lvL)]) ∧ scanL r1 r2 B level (kn, []) = scanL r1 r2 B post (kn', later) ∧ Kok r1.length r2.length kn' ∧ Lok r1.length r2.length kn' later ∧ kn.length + later.length ≤ kn'.length ∧ sd = [some C1, some C2, some (.int ((a : Nat) : Int)), some (.int ((b : Nat) : Int)), some (.frl (B.map sW)), some (.frl (level.map lvL)), some (.ref S.length), some (.ref (S.length + 1 + T.length)), a8, a9, a10, a11, a12, a13]) level (fun _ _ _ _ _ _ => rfl) ⟨level, kn, [], _, _, _, _, _, _, rfl, by simp, rfl, hk, ⟨(fun _ h => by cases h), (fun _ h => by cases h)⟩, by simp, rfl⟩ ?_ ?_
    · rintro sd S' ⟨post, kn', later, b8, b9, b10, b11, b12, b13, hpp, rfl, hsc, hk', hl', hlen, rfl⟩
      have : post = [] := by
        have := congrArg List.length hpp
        simp at this
        cases post with
        | nil => rfl
        | cons _ _ => simp at this
      subst this
      have eX : S ++ DO.dic 2 (knK kn') :: (T ++ [.lst (later.map lvL)]) = (S ++ DO.dic 2 (knK kn') :: T) ++ [.lst (later.map lvL)] := by simp
      have eY : (S ++ DO.dic 2 (knK kn') :: T).length = S.length + 1 + T.length := by simp; omega
      have hget : (S ++ DO.dic 2 (knK kn') :: (T ++ [.lst (later.map lvL)]))[S.length + 1 + T.length]? = some (.lst (later.map lvL)) := by rw [eX, ← eY]; exact get_last
      simp only [z6, z5, wq_a, wq_b, wq_c, wq_d, wq_e, wq_f, wq_g, Int.reduceToNat, Int.reduceLE, Int.reduceLT, Int.reduceNeg, startD, List.replicate, Nat.reduceAdd, Nat.reduceSub, Nat.reduceEqDiff, if_true, if_false, Int.reduceEq, Int.reduceAdd, Int.reduceSub, Int.reduceMul, eq_self, w_dFrz]
      rw [frz_at hget]
      have hk'le := hk'.le
      rw [hsc] at hR0
      have hR1 : btw r1 r2 B f later kn' = R0 := by rw [hR0]; rfl
      refine ⟨2 * (r1.length * r2.length - kn'.length) + (if later = [] then 0 else 1), ?_, later, kn', T ++ [.dead], f, _, _, _, _, _, _, _, ?_, hk', hl', by omega, hR1, rfl, ?_, rfl⟩
      · by_cases z : later = []
        · rw [if_pos z]; omega
        · rw [if_neg z]
          have : 0 < later.length := List.length_pos_iff.mpr z
          omega
      · rw [eX, ← eY, set_last]; simp
      · by_cases z : later = []
        · rw [if_pos z]; omega
        · rw [if_neg z]
          have : 0 < later.length := List.length_pos_iff.mpr z
          omega
    · rintro pre x post0 sd S' epp ⟨post, kn', later, b8, b9, b10, b11, b12, b13, hpp, rfl, hsc, hk', hl', hlen, rfl⟩
      have hpost : post = x :: post0 := (List.append_cancel_left (epp.symm.trans hpp)).symm
      subst hpost
      have hxm : x ∈ level := by rw [epp]; simp
      obtain ⟨hx1, hx2⟩ := hlv.lt x hxm
      have hxl := hlv.len x hxm
      simp only [z6, z5, wq_a, wq_b, wq_c, wq_d, wq_e, wq_f, wq_g, Int.reduceToNat, Int.reduceLE, Int.reduceLT, Int.reduceNeg, startD, List.replicate, Nat.reduceAdd, Nat.reduceSub, Nat.reduceEqDiff, if_true, if_false, Int.reduceEq, Int.reduceAdd, Int.reduceSub, Int.reduceMul, eq_self, gTupD, lvL, itemsD]
      refine w_loopP sW (fun pre2 sd S' => ∃ (kn2 : List (Nat × Nat)) (later2 : List Lv) (a11 a12 a13 : Option D), S' = S ++ .dic 2 (knK kn2) :: (T ++ [.lst (later2.map lvL)]) ∧ scanK r1 r2 B x (List.range B.length) (kn', later) = scanK r1 r2 B x (List.range' pre2.length (B.length - pre2.length)) (kn2, later2) ∧ Kok r1.length r2.length kn2 ∧ Lok r1.length r2.length kn2 later2 ∧ kn.length + later2.length ≤ kn2.length ∧ sd = [some C1, some C2, some (.int ((a : Nat) : Int)), some (.int ((b : Nat) : Int)), some (.frl (B.map sW)), some (.frl (level.map lvL)), some (.ref S.length), some (.ref (S.length + 1 + T.length)), some (.frl (x.2.map sW)), some (.int ((x.1.1 : Nat) : Int)), some (.int ((x.1.2 : Nat) : Int)), a11, a12, a13]) B (fun _ _ _ _ _ _ => rfl) ⟨kn', later, _, _, _, rfl, by rw [List.range_eq_range']; rfl, hk', hl', hlen, rfl⟩ ?_ ?_
      · rintro sd S' ⟨kn2, later2, c11, c12, c13, rfl, hscK, hk2, hl2, hlen2, rfl⟩
        have hK : scanK r1 r2 B x (List.range B.length) (kn', later) = .ok (kn2, later2) := by rw [hscK, Nat.sub_self]; rfl
        refine ⟨post0, kn2, later2, _, _, _, _, _, _, by rw [epp]; simp, rfl, ?_, hk2, hl2, hlen2, rfl⟩
        rw [hsc, scanL, hK]
      · rintro pre2 bt post2 sd S' epp2 ⟨kn2, later2, c11, c12, c13, rfl, hscK, hk2, hl2, hlen2, rfl⟩
        have hbt : bt = B.getD pre2.length [] := by
          rw [List.getD_eq_getElem?_getD]
          conv => rhs; rw [epp2]
          simp
        have hkB : pre2.length < B.length := by rw [epp2]; simp
        have hk2i : pre2.length < 2 ^ ins := by omega
        generalize hk0 : pre2.length = k at *
        obtain ⟨n, hn⟩ : ∃ n, B.length - k = n + 1 := ⟨B.length - k - 1, by omega⟩
        rw [hn, scan_one] at hscK
        have hn' : ∀ z : List Bool, B.length - (pre2 ++ [z]).length = n := fun z => by simp; omega
        have hkn : ∀ z : List Bool, (pre2 ++ [z]).length = k + 1 := fun z => by simp; omega
        simp only [z6, z5, wq_a, wq_b, wq_c, wq_d, wq_e, wq_f, wq_g, Int.reduceToNat, Int.reduceLE, Int.reduceLT, Int.reduceNeg, startD, List.replicate, Nat.reduceAdd, Nat.reduceSub, Nat.reduceEqDiff, if_true, if_false, Int.reduceEq, Int.reduceAdd, Int.reduceSub, Int.reduceMul, eq_self]
        rw [hbt, at1 _ _ _ hx1 hk2i]
        simp only [z6, z5, wq_a, wq_b, wq_c, wq_d, wq_e, wq_f, wq_g, Int.reduceToNat, Int.reduceLE, Int.reduceLT, Int.reduceNeg, startD, List.replicate, Nat.reduceAdd, Nat.reduceSub, Nat.reduceEqDiff, if_true, if_false, Int.reduceEq, Int.reduceAdd, Int.reduceSub, Int.reduceMul, eq_self]
        rw [at2 _ _ _ hx2 hk2i]
        simp only [z6, z5, wq_a, wq_b, wq_c, wq_d, wq_e, wq_f, wq_g, Int.reduceToNat, Int.reduceLE, Int.reduceLT, Int.reduceNeg, startD, List.replicate, Nat.reduceAdd, Nat.reduceSub, Nat.reduceEqDiff, if_true, if_false, Int.reduceEq, Int.reduceAdd, Int.reduceSub, Int.reduceMul, eq_self, enD, wEq]
        by_cases e : (ansAt r1 x.1.1 k).1 = (ansAt r2 x.1.2 k).1
        · simp only [e, z6, z5, wq_a, wq_b, wq_c, wq_d, wq_e, wq_f, wq_g, Int.reduceToNat, Int.reduceLE, Int.reduceLT, Int.reduceNeg, startD, List.replicate, Nat.reduceAdd, Nat.reduceSub, Nat.reduceEqDiff, if_true, if_false, Int.reduceEq, Int.reduceAdd, Int.reduceSub, Int.reduceMul, eq_self]
          have hdg : (S ++ DO.dic 2 (knK kn2) :: (T ++ [.lst (later2.map lvL)]))[S.length]? = some (.dic 2 (knK kn2)) := get_mid rfl
          have hpr : ∀ p : Nat × Nat, D.tup [.int ((p.1 : Nat) : Int), .int ((p.2 : Nat) : Int)] = prD p := fun p => rfl
          have hm1 := P1.nxt _ (row_mem hx1) _ (ans_mem (by rw [P1.len _ (row_mem hx1)]; exact hk2i))
          have hm2 := P2.nxt _ (row_mem hx2) _ (ans_mem (by rw [P2.len _ (row_mem hx2)]; exact hk2i))
          have hk2le := hk2.le
          rw [hpr ((ansAt r1 x.1.1 k).2, (ansAt r2 x.1.2 k).2), w_notInN (dicN_at hdg prD_ok), getK_kn]
          by_cases hin : ((ansAt r1 x.1.1 k).2, (ansAt r2 x.1.2 k).2) ∈ kn2
          · simp only [hin, z6, z5, wq_a, wq_b, wq_c, wq_d, wq_e, wq_f, wq_g, Int.reduceToNat, Int.reduceLE, Int.reduceLT, Int.reduceNeg, startD, List.replicate, Nat.reduceAdd, Nat.reduceSub, Nat.reduceEqDiff, if_true, if_false, Int.reduceEq, Int.reduceAdd, Int.reduceSub, Int.reduceMul, eq_self, Option.isSome_some]
            refine ⟨kn2, later2, _, _, _, rfl, ?_, hk2, hl2, hlen2, rfl⟩
            rw [hscK, hn', hkn, bstep, if_pos e, if_pos hin]
          · simp only [hin, z6, z5, wq_a, wq_b, wq_c, wq_d, wq_e, wq_f, wq_g, Int.reduceToNat, Int.reduceLE, Int.reduceLT, Int.reduceNeg, startD, List.replicate, Nat.reduceAdd, Nat.reduceSub, Nat.reduceEqDiff, if_true, if_false, Int.reduceEq, Int.reduceAdd, Int.reduceSub, Int.reduceMul, eq_self, Option.isSome_none]
            rw [hpr ((ansAt r1 x.1.1 k).2, (ansAt r2 x.1.2 k).2), w_setN hdg prD_ok (szn (by simp [knK]; omega)), putD_kn hin, set_mid rfl]
            simp only [z6, z5, wq_a, wq_b, wq_c, wq_d, wq_e, wq_f, wq_g, Int.reduceToNat, Int.reduceLE, Int.reduceLT, Int.reduceNeg, startD, List.replicate, Nat.reduceAdd, Nat.reduceSub, Nat.reduceEqDiff, if_true, if_false, Int.reduceEq, Int.reduceAdd, Int.reduceSub, Int.reduceMul, eq_self]
            generalize hpq : ((ansAt r1 x.1.1 k).2, (ansAt r2 x.1.2 k).2) = pq at *
            have hpq1 : (ansAt r1 x.1.1 k).2 = pq.1 := by rw [← hpq]
            have hpq2 : (ansAt r2 x.1.2 k).2 = pq.2 := by rw [← hpq]
            have eX : ∀ o, S ++ DO.dic 2 (knK (kn2 ++ [pq])) :: (T ++ [o]) = (S ++ DO.dic 2 (knK (kn2 ++ [pq])) :: T) ++ [o] := fun o => by simp
            have eY : (S ++ DO.dic 2 (knK (kn2 ++ [pq])) :: T).length = S.length + 1 + T.length := by simp; omega
            have hget : ∀ o, (S ++ DO.dic 2 (knK (kn2 ++ [pq])) :: (T ++ [o]))[S.length + 1 + T.length]? = some o := fun o => by rw [eX, ← eY]; exact get_last
            rw [zm (isTy_lst (hget _))]
            simp only [z6, z5, wq_a, wq_b, wq_c, wq_d, wq_e, wq_f, wq_g, Int.reduceToNat, Int.reduceLE, Int.reduceLT, Int.reduceNeg, startD, List.replicate, Nat.reduceAdd, Nat.reduceSub, Nat.reduceEqDiff, if_true, if_false, Int.reduceEq, Int.reduceAdd, Int.reduceSub, Int.reduceMul, eq_self]
            rw [zm (szn (by simp; omega))]
            simp only [z6, z5, wq_a, wq_b, wq_c, wq_d, wq_e, wq_f, wq_g, Int.reduceToNat, Int.reduceLE, Int.reduceLT, Int.reduceNeg, startD, List.replicate, Nat.reduceAdd, Nat.reduceSub, Nat.reduceEqDiff, if_true, if_false, Int.reduceEq, Int.reduceAdd, Int.reduceSub, Int.reduceMul, eq_self]
            rw [w_appL (hget _) (by rw [List.length_map, sizeLine_eq]; omega), eX, ← eY, set_last, ← eX, eY]
            refine ⟨kn2 ++ [pq], later2 ++ [(pq, x.2 ++ [B.getD k []])], _, _, _, ?_, ?_, hk2.add (by rw [← hpq1]; exact hm1) (by rw [← hpq2]; exact hm2) hin, ?_, by simp; omega, rfl⟩
            · rw [List.map_append, hpq1, hpq2]
              simp [lvL]
            · rw [hscK, hn', hkn, bstep, if_pos e, hpq, if_neg hin]
            · refine ⟨fun y hy => ?_, fun y hy => ?_⟩
              · rcases List.mem_append.mp hy with hy | hy
                · exact hl2.lt y hy
                · rw [List.mem_singleton] at hy
                  subst hy
                  exact ⟨by show pq.1 < _; rw [← hpq1]; exact hm1, by show pq.2 < _; rw [← hpq2]; exact hm2⟩
              · rcases List.mem_append.mp hy with hy | hy
                · have := hl2.len y hy
                  simp; omega
                · rw [List.mem_singleton] at hy
                  subst hy
                  simp
                  omega
        · simp only [e, z6, z5, wq_a, wq_b, wq_c, wq_d, wq_e, wq_f, wq_g, Int.reduceToNat, Int.reduceLE, Int.reduceLT, Int.reduceNeg, startD, List.replicate, Nat.reduceAdd, Nat.reduceSub, Nat.reduceEqDiff, if_true, if_false, Int.reduceEq, Int.reduceAdd, Int.reduceSub, Int.reduceMul, eq_self]
          rw [zm (szn (by simp; omega))]
          simp only [z6, z5, wq_a, wq_b, wq_c, wq_d, wq_e, wq_f, wq_g, Int.reduceToNat, Int.reduceLE, Int.reduceLT, Int.reduceNeg, startD, List.replicate, Nat.reduceAdd, Nat.reduceSub, Nat.reduceEqDiff, if_true, if_false, Int.reduceEq, Int.reduceAdd, Int.reduceSub, Int.reduceMul, eq_self]
          have : R0 = some (x.2 ++ [B.getD k []]) := by
            rw [hR0, hsc, scanL, hscK, bstep, if_neg e]
          rw [this]
          exact ⟨by simp [btwD], _, rfl⟩

def lvP (x : Lv) : D := .tup [prD x.1, .frl (x.2.map sW)]
theorem prD_gd (p : Nat × Nat) : GD 1 (prD p) := gd_tup fun d hd => by
  have : d = .int ((p.1 : Nat) : Int) ∨ d = .int ((p.2 : Nat) : Int) := by simpa using hd
  rcases this with rfl | rfl <;> exact gd_int
theorem lvP_gd (x : Lv) : GD 2 (lvP x) := gd_tup fun d hd => by
  have : d = prD x.1 ∨ d = .frl (x.2.map sW) := by simpa using hd
  rcases this with rfl | rfl
  · exact prD_gd _
  · exact sWs_gd
theorem row_core {ins o1 o2 a b : Nat} {r1 r2 : List (List En)} {S : Sto} (P1 : PM ins o1 r1) (P2 : PM ins o2 r2) (ha : a < r1.length) (hb : b < r2.length) :
    Wp (b_row_between (startD 17 [.int ((ins : Nat) : Int), .tup (r1.map rowD), .tup (r2.map rowD), .int ((a : Nat) : Int), .int ((b : Nat) : Int)]) S) (kFn fun d S' => match btw r1 r2 (allB ins) (2 * (r1.length * r2.length) + 3) [((a, b), [])] [(a, b)] with
      | none => d = .non ∧ ∃ T, S' = S ++ T
      | some r => d = .frl (r.map sW) ∧ ∃ T, S' = S ++ T) NX := by
  have i4 := P1.i4
  have p16 := pow_le i4
  have hN1 := P1.n200
  have hN2 := P2.n200
  have hNN : r1.length * r2.length ≤ 40000 := Nat.le_trans (Nat.mul_le_mul hN1 hN2) (by decide)
  have hlb := fun S : Sto => all_beats_ok (S := S) i4
  unfold b_row_between
  generalize hR : btw r1 r2 (allB ins) (2 * (r1.length * r2.length) + 3) [((a, b), [])] [(a, b)] = R0
  have hBl := allB_many ins
  generalize hB : allB ins = B at *
  have pk0 : nokD (.tup [.int ((a : Nat) : Int), .int ((b : Nat) : Int)]) = true := prD_ok (p := (a, b))
  simp only [z6, z5, wq_a, wq_b, wq_c, wq_d, wq_e, wq_f, wq_g, Int.reduceToNat, Int.reduceLE, Int.reduceLT, Int.reduceNeg, startD, List.replicate, Nat.reduceAdd, Nat.reduceSub, Nat.reduceEqDiff, if_true, if_false, Int.reduceEq, Int.reduceAdd, Int.reduceSub, Int.reduceMul, eq_self, hlb, w_dDispN, pk0]
  have k0 : Kok r1.length r2.length [(a, b)] := ⟨by simp, fun p hp => by
    have : p = (a, b) := by simpa using hp
    subst this
    exact ⟨ha, hb⟩⟩
  refine w_while (fun m sd S' => ∃ (level : List Lv) (kn : List (Nat × Nat)) (T : Sto) (f : Nat) (a8 a9 a10 a11 a12 a13 a14 a15 a16 : Option D), S' = S ++ .dic 2 (knK kn) :: T ∧ Kok r1.length r2.length kn ∧ Lok r1.length r2.length kn level ∧ level.length ≤ kn.length ∧ btw r1 r2 B f level kn = R0 ∧ m = 2 * (r1.length * r2.length - kn.length) + (if level = [] then 0 else 1) ∧ m < f ∧ sd = [some (.int ((ins : Nat) : Int)), some (.tup (r1.map rowD)), some (.tup (r2.map rowD)), some (.int ((a : Nat) : Int)), some (.int ((b : Nat) : Int)), some (.frl (B.map sW)), some (.frl (level.map lvP)), some (.ref S.length), a8, a9, a10, a11, a12, a13, a14, a15, a16]) ?_ fuelW (2 * (r1.length * r2.length - 1) + 1) _ _ (by unfold fuelW; omega) ⟨[((a, b), [])], [(a, b)], [], _, _, _, _, _, _, _, _, _, _, rfl, k0, ⟨fun x hx => by
    have : x = ((a, b), []) := by simpa using hx
    subst this
    exact ⟨ha, hb⟩, fun x hx => by
    have : x = ((a, b), []) := by simpa using hx
    subst this
    simp⟩, by simp, hR, rfl, by omega, rfl⟩
  rintro m sd S' ⟨level, kn, T, f, a8, a9, a10, a11, a12, a13, a14, a15, a16, rfl, hk, hlv, hll, hrun, rfl, hmf, rfl⟩
  have hkle := hk.le
  simp only [z6, z5, wq_a, wq_b, wq_c, wq_d, wq_e, wq_f, wq_g, Int.reduceToNat, Int.reduceLE, Int.reduceLT, Int.reduceNeg, startD, List.replicate, Nat.reduceAdd, Nat.reduceSub, Nat.reduceEqDiff, if_true, if_false, Int.reduceEq, Int.reduceAdd, Int.reduceSub, Int.reduceMul, eq_self]
  rw [w_neG (gd_frl (n := 2) (gd_map fun x _ => lvP_gd x)) (gd_nil.le (m := 3) (by decide))]
  cases level with
  | nil =>
    simp only [z6, z5, wq_a, wq_b, wq_c, wq_d, wq_e, wq_f, wq_g, Int.reduceToNat, Int.reduceLE, Int.reduceLT, Int.reduceNeg, startD, List.replicate, Nat.reduceAdd, Nat.reduceSub, Nat.reduceEqDiff, if_true, if_false, Int.reduceEq, Int.reduceAdd, Int.reduceSub, Int.reduceMul, eq_self]
    have : R0 = none := by
      rw [← hrun]
      cases f <;> rfl
    rw [this]
    exact ⟨trivial, _, rfl⟩
  | cons x0' xs0 =>
    obtain ⟨f, rfl⟩ : ∃ f', f = f' + 1 := ⟨f - 1, by omega⟩
    have hR0 : R0 = (match scanL r1 r2 B (x0' :: xs0) (kn, []) with
      | .error r => some r
      | .ok st => btw r1 r2 B f st.2 st.1) := by rw [← hrun]; rfl
    have hne : (D.frl ((x0' :: xs0).map lvP) = D.frl []) = False := by simp
    rw [show decide (D.frl ((x0' :: xs0).map lvP) = D.frl []) = false from decide_eq_false (by rw [hne]; exact id)]
    have hif : (if x0' :: xs0 = [] then 0 else 1) = 1 := if_neg (by nofun)
    rw [hif] at hmf ⊢
    generalize hlevel : x0' :: xs0 = level at *
    simp only [z6, z5, wq_a, wq_b, wq_c, wq_d, wq_e, wq_f, wq_g, Int.reduceToNat, Int.reduceLE, Int.reduceLT, Int.reduceNeg, startD, List.replicate, Nat.reduceAdd, Nat.reduceSub, Nat.reduceEqDiff, if_true, if_false, Int.reduceEq, Int.reduceAdd, Int.reduceSub, Int.reduceMul, eq_self, itemsD]
    have eL : (S ++ DO.dic 2 (knK kn) :: T).length = S.length + 1 + T.length := by simp; omega
    rw [eL]
    refine w_loopP lvP (fun pre sd S' => ∃ (post : List Lv) (kn' : List (Nat × Nat)) (later : List Lv) (a9 a10 a11 a12 a13 a14 a15 a16 : Option D), level = pre ++ post ∧ S' = S ++ .dic 2 (knK kn') :: (T ++ [.lst (later.map lvP)]) ∧ scanL r1 r2 B level (kn, []) = scanL r1 r2 B post (kn', later) ∧ Kok r1.length r2.length kn' ∧ Lok r1.length r2.length kn' later ∧ kn.length + later.length ≤ kn'.length ∧ sd = [some (.int ((ins : Nat) : Int)), some (.tup (r1.map rowD)), some (.tup (r2.map rowD)), some (.int ((a : Nat) : Int)), some (.int ((b : Nat) : Int)), some (.frl (B.map sW)), some (.frl (level.map lvP)), some (.ref S.length), some (.ref (S.length + 1 + T.length)), a9, a10, a11, a12, a13, a14, a15, a16]) level (fun _ _ _ _ _ _ => rfl) ⟨level, kn, [], _, _, _, _, _, _, _, _, rfl, by simp, rfl, hk, ⟨(fun _ h => by cases h), (fun _ h => by cases h)⟩, by simp, rfl⟩ ?_ ?_
    · rintro sd S' ⟨post, kn', later, b9, b10, b11, b12, b13, b14, b15, b16, hpp, rfl, hsc, hk', hl', hlen, rfl⟩
      have : post = [] := by
        have := congrArg List.length hpp
        simp at this
        cases post with
        | nil => rfl
        | cons _ _ => simp at this
      subst this
      have eX : S ++ DO.dic 2 (knK kn') :: (T ++ [.lst (later.map lvP)]) = (S ++ DO.dic 2 (knK kn') :: T) ++ [.lst (later.map lvP)] := by simp
      have eY : (S ++ DO.dic 2 (knK kn') :: T).length = S.length + 1 + T.length := by simp; omega
      have hget : (S ++ DO.dic 2 (knK kn') :: (T ++ [.lst (later.map lvP)]))[S.length + 1 + T.length]? = some (.lst (later.map lvP)) := by rw [eX, ← eY]; exact get_last
      simp only [z6, z5, wq_a, wq_b, wq_c, wq_d, wq_e, wq_f, wq_g, Int.reduceToNat, Int.reduceLE, Int.reduceLT, Int.reduceNeg, startD, List.replicate, Nat.reduceAdd, Nat.reduceSub, Nat.reduceEqDiff, if_true, if_false, Int.reduceEq, Int.reduceAdd, Int.reduceSub, Int.reduceMul, eq_self, w_dFrz]
      rw [frz_at hget]
      have hk'le := hk'.le
      rw [hsc] at hR0
      have hR1 : btw r1 r2 B f later kn' = R0 := by rw [hR0]; rfl
      refine ⟨2 * (r1.length * r2.length - kn'.length) + (if later = [] then 0 else 1), ?_, later, kn', T ++ [.dead], f, _, _, _, _, _, _, _, _, _, ?_, hk', hl', by omega, hR1, rfl, ?_, rfl⟩
      · by_cases z : later = []
        · rw [if_pos z]; omega
        · rw [if_neg z]
          have : 0 < later.length := List.length_pos_iff.mpr z
          omega
      · rw [eX, ← eY, set_last]; simp
      · by_cases z : later = []
        · rw [if_pos z]; omega
        · rw [if_neg z]
          have : 0 < later.length := List.length_pos_iff.mpr z
          omega
    · rintro pre x post0 sd S' epp ⟨post, kn', later, b9, b10, b11, b12, b13, b14, b15, b16, hpp, rfl, hsc, hk', hl', hlen, rfl⟩
      have hpost : post = x :: post0 := (List.append_cancel_left (epp.symm.trans hpp)).symm
      subst hpost
      have hxm : x ∈ level := by rw [epp]; simp
      obtain ⟨hx1, hx2⟩ := hlv.lt x hxm
      have hxl := hlv.len x hxm
      simp only [z6, z5, wq_a, wq_b, wq_c, wq_d, wq_e, wq_f, wq_g, Int.reduceToNat, Int.reduceLE, Int.reduceLT, Int.reduceNeg, startD, List.replicate, Nat.reduceAdd, Nat.reduceSub, Nat.reduceEqDiff, if_true, if_false, Int.reduceEq, Int.reduceAdd, Int.reduceSub, Int.reduceMul, eq_self, gTupD, lvP, prD, itemsD]
      refine w_enumP sW (fun pre2 sd S' => ∃ (kn2 : List (Nat × Nat)) (later2 : List Lv) (a12 a13 a14 a15 a16 : Option D), S' = S ++ .dic 2 (knK kn2) :: (T ++ [.lst (later2.map lvP)]) ∧ scanK r1 r2 B x (List.range B.length) (kn', later) = scanK r1 r2 B x (List.range' pre2.length (B.length - pre2.length)) (kn2, later2) ∧ Kok r1.length r2.length kn2 ∧ Lok r1.length r2.length kn2 later2 ∧ kn.length + later2.length ≤ kn2.length ∧ sd = [some (.int ((ins : Nat) : Int)), some (.tup (r1.map rowD)), some (.tup (r2.map rowD)), some (.int ((a : Nat) : Int)), some (.int ((b : Nat) : Int)), some (.frl (B.map sW)), some (.frl (level.map lvP)), some (.ref S.length), some (.ref (S.length + 1 + T.length)), some (.frl (x.2.map sW)), some (.int ((x.1.1 : Nat) : Int)), some (.int ((x.1.2 : Nat) : Int)), a12, a13, a14, a15, a16]) B (fun _ _ _ _ _ _ => rfl) ⟨kn', later, _, _, _, _, _, rfl, by rw [List.range_eq_range']; rfl, hk', hl', hlen, rfl⟩ ?_ ?_
      · rintro sd S' ⟨kn2, later2, c12, c13, c14, c15, c16, rfl, hscK, hk2, hl2, hlen2, rfl⟩
        have hK : scanK r1 r2 B x (List.range B.length) (kn', later) = .ok (kn2, later2) := by rw [hscK, Nat.sub_self]; rfl
        refine ⟨post0, kn2, later2, _, _, _, _, _, _, _, _, by rw [epp]; simp, rfl, ?_, hk2, hl2, hlen2, rfl⟩
        rw [hsc, scanL, hK]
      · rintro pre2 bt post2 sd S' epp2 ⟨kn2, later2, c12, c13, c14, c15, c16, rfl, hscK, hk2, hl2, hlen2, rfl⟩
        have hbt : bt = B.getD pre2.length [] := by
          rw [List.getD_eq_getElem?_getD]
          conv => rhs; rw [epp2]
          simp
        have hkB : pre2.length < B.length := by rw [epp2]; simp
        have hk2i : pre2.length < 2 ^ ins := by omega
        generalize hk0 : pre2.length = k at *
        obtain ⟨n, hn⟩ : ∃ n, B.length - k = n + 1 := ⟨B.length - k - 1, by omega⟩
        rw [hn, scan_one] at hscK
        have hn' : ∀ z : List Bool, B.length - (pre2 ++ [z]).length = n := fun z => by simp; omega
        have hkn : ∀ z : List Bool, (pre2 ++ [z]).length = k + 1 := fun z => by simp; omega
        have hl1 := P1.len _ (row_mem hx1)
        have hl2' := P2.len _ (row_mem hx2)
        simp only [z6, z5, wq_a, wq_b, wq_c, wq_d, wq_e, wq_f, wq_g, Int.reduceToNat, Int.reduceLE, Int.reduceLT, Int.reduceNeg, startD, List.replicate, Nat.reduceAdd, Nat.reduceSub, Nat.reduceEqDiff, if_true, if_false, Int.reduceEq, Int.reduceAdd, Int.reduceSub, Int.reduceMul, eq_self, gTupD, at_row hx1, at_row hx2, rowD, at_ans (show k < (rowAt r1 x.1.1).length by omega), at_ans (show k < (rowAt r2 x.1.2).length by omega)]
        rw [hbt]
        simp only [z6, z5, wq_a, wq_b, wq_c, wq_d, wq_e, wq_f, wq_g, Int.reduceToNat, Int.reduceLE, Int.reduceLT, Int.reduceNeg, startD, List.replicate, Nat.reduceAdd, Nat.reduceSub, Nat.reduceEqDiff, if_true, if_false, Int.reduceEq, Int.reduceAdd, Int.reduceSub, Int.reduceMul, eq_self, enD, wEq]
        by_cases e : (ansAt r1 x.1.1 k).1 = (ansAt r2 x.1.2 k).1
        · simp only [e, z6, z5, wq_a, wq_b, wq_c, wq_d, wq_e, wq_f, wq_g, Int.reduceToNat, Int.reduceLE, Int.reduceLT, Int.reduceNeg, startD, List.replicate, Nat.reduceAdd, Nat.reduceSub, Nat.reduceEqDiff, if_true, if_false, Int.reduceEq, Int.reduceAdd, Int.reduceSub, Int.reduceMul, eq_self]
          have hdg : (S ++ DO.dic 2 (knK kn2) :: (T ++ [.lst (later2.map lvP)]))[S.length]? = some (.dic 2 (knK kn2)) := get_mid rfl
          have hpr : ∀ p : Nat × Nat, D.tup [.int ((p.1 : Nat) : Int), .int ((p.2 : Nat) : Int)] = prD p := fun p => rfl
          have hm1 := P1.nxt _ (row_mem hx1) _ (ans_mem (k := k) (by omega))
          have hm2 := P2.nxt _ (row_mem hx2) _ (ans_mem (k := k) (by omega))
          have hk2le := hk2.le
          rw [hpr ((ansAt r1 x.1.1 k).2, (ansAt r2 x.1.2 k).2), w_notInN (dicN_at hdg prD_ok), getK_kn]
          by_cases hin : ((ansAt r1 x.1.1 k).2, (ansAt r2 x.1.2 k).2) ∈ kn2
          · simp only [hin, z6, z5, wq_a, wq_b, wq_c, wq_d, wq_e, wq_f, wq_g, Int.reduceToNat, Int.reduceLE, Int.reduceLT, Int.reduceNeg, startD, List.replicate, Nat.reduceAdd, Nat.reduceSub, Nat.reduceEqDiff, if_true, if_false, Int.reduceEq, Int.reduceAdd, Int.reduceSub, Int.reduceMul, eq_self, Option.isSome_some]
            refine ⟨kn2, later2, _, _, _, _, _, rfl, ?_, hk2, hl2, hlen2, rfl⟩
            rw [hscK, hn', hkn, bstep, if_pos e, if_pos hin]
          · simp only [hin, z6, z5, wq_a, wq_b, wq_c, wq_d, wq_e, wq_f, wq_g, Int.reduceToNat, Int.reduceLE, Int.reduceLT, Int.reduceNeg, startD, List.replicate, Nat.reduceAdd, Nat.reduceSub, Nat.reduceEqDiff, if_true, if_false, Int.reduceEq, Int.reduceAdd, Int.reduceSub, Int.reduceMul, eq_self, Option.isSome_none]
            rw [w_setN hdg prD_ok (szn (by simp [knK]; omega)), putD_kn hin, set_mid rfl]
            simp only [z6, z5, wq_a, wq_b, wq_c, wq_d, wq_e, wq_f, wq_g, Int.reduceToNat, Int.reduceLE, Int.reduceLT, Int.reduceNeg, startD, List.replicate, Nat.reduceAdd, Nat.reduceSub, Nat.reduceEqDiff, if_true, if_false, Int.reduceEq, Int.reduceAdd, Int.reduceSub, Int.reduceMul, eq_self]
            generalize hpq : ((ansAt r1 x.1.1 k).2, (ansAt r2 x.1.2 k).2) = pq at *
            have hpq1 : (ansAt r1 x.1.1 k).2 = pq.1 := by rw [← hpq]
            have hpq2 : (ansAt r2 x.1.2 k).2 = pq.2 := by rw [← hpq]
            have eX : ∀ o, S ++ DO.dic 2 (knK (kn2 ++ [pq])) :: (T ++ [o]) = (S ++ DO.dic 2 (knK (kn2 ++ [pq])) :: T) ++ [o] := fun o => by simp
            have eY : (S ++ DO.dic 2 (knK (kn2 ++ [pq])) :: T).length = S.length + 1 + T.length := by simp; omega
            have hget : ∀ o, (S ++ DO.dic 2 (knK (kn2 ++ [pq])) :: (T ++ [o]))[S.length + 1 + T.length]? = some o := fun o => by rw [eX, ← eY]; exact get_last
            rw [zm (isTy_lst (hget _))]
            simp only [z6, z5, wq_a, wq_b, wq_c, wq_d, wq_e, wq_f, wq_g, Int.reduceToNat, Int.reduceLE, Int.reduceLT, Int.reduceNeg, startD, List.replicate, Nat.reduceAdd, Nat.reduceSub, Nat.reduceEqDiff, if_true, if_false, Int.reduceEq, Int.reduceAdd, Int.reduceSub, Int.reduceMul, eq_self]
            rw [zm (szn (by simp; omega))]
            simp only [z6, z5, wq_a, wq_b, wq_c, wq_d, wq_e, wq_f, wq_g, Int.reduceToNat, Int.reduceLE, Int.reduceLT, Int.reduceNeg, startD, List.replicate, Nat.reduceAdd, Nat.reduceSub, Nat.reduceEqDiff, if_true, if_false, Int.reduceEq, Int.reduceAdd, Int.reduceSub, Int.reduceMul, eq_self]
            rw [w_appL (hget _) (by rw [List.length_map, sizeLine_eq]; omega), eX, ← eY, set_last, ← eX, eY]
            refine ⟨kn2 ++ [pq], later2 ++ [(pq, x.2 ++ [B.getD k []])], _, _, _, _, _, ?_, ?_, hk2.add (by rw [← hpq1]; exact hm1) (by rw [← hpq2]; exact hm2) hin, ?_, by simp; omega, rfl⟩
            · rw [List.map_append]
              simp [lvP]
            · rw [hscK, hn', hkn, bstep, if_pos e, hpq, if_neg hin]
            · refine ⟨fun y hy => ?_, fun y hy => ?_⟩
              · rcases List.mem_append.mp hy with hy | hy
                · exact hl2.lt y hy
                · rw [List.mem_singleton] at hy
                  subst hy
                  exact ⟨by show pq.1 < _; rw [← hpq1]; exact hm1, by show pq.2 < _; rw [← hpq2]; exact hm2⟩
              · rcases List.mem_append.mp hy with hy | hy
                · have := hl2.len y hy
                  simp; omega
                · rw [List.mem_singleton] at hy
                  subst hy
                  simp
                  omega
        · simp only [e, z6, z5, wq_a, wq_b, wq_c, wq_d, wq_e, wq_f, wq_g, Int.reduceToNat, Int.reduceLE, Int.reduceLT, Int.reduceNeg, startD, List.replicate, Nat.reduceAdd, Nat.reduceSub, Nat.reduceEqDiff, if_true, if_false, Int.reduceEq, Int.reduceAdd, Int.reduceSub, Int.reduceMul, eq_self]
          rw [zm (szn (by simp; omega))]
          simp only [z6, z5, wq_a, wq_b, wq_c, wq_d, wq_e, wq_f, wq_g, Int.reduceToNat, Int.reduceLE, Int.reduceLT, Int.reduceNeg, startD, List.replicate, Nat.reduceAdd, Nat.reduceSub, Nat.reduceEqDiff, if_true, if_false, Int.reduceEq, Int.reduceAdd, Int.reduceSub, Int.reduceMul, eq_self]
          have : R0 = some (x.2 ++ [B.getD k []]) := by
            rw [hR0, hsc, scanL, hscK, bstep, if_neg e]
          rw [this]
          exact ⟨by simp, _, rfl⟩
def Rb (ins : Nat) (r1 r2 : List (List En)) (a b : Nat) : Option (List (List Bool)) := btw r1 r2 (allB ins) (2 * (r1.length * r2.length) + 3) [((a, b), [])] [(a, b)]
theorem rowb_none {ins o1 o2 a b : Nat} {r1 r2 : List (List En)} {S : Sto} (P1 : PM ins o1 r1) (P2 : PM ins o2 r2) (ha : a < r1.length) (hb : b < r2.length) (h : Rb ins r1 r2 a b = none) :
    F_row_between [.int ((ins : Nat) : Int), .tup (r1.map rowD), .tup (r2.map rowD), .int ((a : Nat) : Int), .int ((b : Nat) : Int)] S = .ok .non S := by
  unfold Rb at h
  have c := row_core (S := S) P1 P2 ha hb
  rw [h] at c
  unfold F_row_between
  exact fn_ok rfl c
theorem rowb_some {ins o1 o2 a b : Nat} {r1 r2 : List (List En)} {r : List (List Bool)} {S : Sto} (P1 : PM ins o1 r1) (P2 : PM ins o2 r2) (ha : a < r1.length) (hb : b < r2.length) (h : Rb ins r1 r2 a b = some r) :
    F_row_between [.int ((ins : Nat) : Int), .tup (r1.map rowD), .tup (r2.map rowD), .int ((a : Nat) : Int), .int ((b : Nat) : Int)] S = .ok (.frl (r.map sW)) S := by
  unfold Rb at h
  have c := row_core (S := S) P1 P2 ha hb
  rw [h] at c
  unfold F_row_between
  exact fn_ok (gd_blw (n := 1) (D.frl (r.map sW)) sWs_gd) c

end Lw

namespace Lw
open PySem PySem.Spec PyProof.Rows L2 DL
def chg (rows : List (List En)) (i k o : Nat) : List (List En) := rows.set i ((rowAt rows i).set k ((ansAt rows i k).1, o))
theorem chg_len {rows : List (List En)} {i k o : Nat} : (chg rows i k o).length = rows.length := List.length_set
theorem chg_pm {ins outs i k o : Nat} {rows : List (List En)} (P : PM ins outs rows) (hi : i < rows.length) (hk : k < 2 ^ ins) (ho : o < rows.length) : PM ins outs (chg rows i k o) := by
  have hl : (rowAt rows i).length = 2 ^ ins := P.len _ (row_mem hi)
  have hm : ∀ r ∈ chg rows i k o, r ∈ rows ∨ r = (rowAt rows i).set k ((ansAt rows i k).1, o) := fun r hr => List.mem_or_eq_of_mem_set hr
  have ha := P.deed _ (row_mem hi) _ (ans_mem (by omega : k < (rowAt rows i).length))
  refine ⟨P.i1, P.i4, P.o1, P.o3, by rw [chg_len]; exact P.n1, by rw [chg_len]; exact P.n200, fun r hr => ?_, fun r hr e he => ?_, fun r hr e he => ?_⟩
  · rcases hm r hr with h | rfl
    · exact P.len r h
    · rw [List.length_set, hl]
  · rcases hm r hr with h | rfl
    · exact P.deed r h e he
    · rcases List.mem_or_eq_of_mem_set he with h | rfl
      · exact P.deed _ (row_mem hi) e h
      · exact ha
  · rw [chg_len]
    rcases hm r hr with h | rfl
    · exact P.nxt r h e he
    · rcases List.mem_or_eq_of_mem_set he with h | rfl
      · exact P.nxt _ (row_mem hi) e h
      · exact ho
theorem w_listT {ds : List D} {S : Sto} {Q : D → Sto → Prop} {X : Exc → Sto → Prop} : Wp (listD [.tup ds] S) Q X = Q (.ref S.length) (S ++ [.lst ds]) := rfl
theorem w_setL {l b : Nat} {ds : List D} {v : D} {S : Sto} {Q : Unit → Sto → Prop} {X : Exc → Sto → Prop} (hl : S[l]? = some (.lst ds)) (hb : b < ds.length) : Wp (setD (.ref l) (.int ((b : Nat) : Int)) v S) Q X = Q () (S.set l (.lst (ds.set b v))) := by
  have e : ixN ds.length ((b : Nat) : Int) = some b := by
    unfold ixN
    rw [if_pos (by omega), if_pos (by omega)]
    rfl
  simp only [setD, hl, e]
  rfl
theorem w_tupR {l : Nat} {ds : List D} {S : Sto} {Q : D → Sto → Prop} {X : Exc → Sto → Prop} (hl : S[l]? = some (.lst ds)) : Wp (tupleD [.ref l] S) Q X = Q (.tup ds) S := by
  simp only [tupleD, seqD, hl]
  rfl
theorem two_0 {S : Sto} {a b : DO} : (S ++ [a, b])[S.length]? = some a := by simp
theorem two_1 {S : Sto} {a b : DO} : (S ++ [a, b])[S.length + 1]? = some b := by
  rw [List.getElem?_append_right (by omega)]
  simp
theorem two_s0 {S : Sto} {a b x : DO} : (S ++ [a, b]).set S.length x = S ++ [x, b] := by
  rw [List.set_append_right _ _ (by omega)]
  simp
theorem two_s1 {S : Sto} {a b x : DO} : (S ++ [a, b]).set (S.length + 1) x = S ++ [a, x] := by
  rw [List.set_append_right _ _ (by omega)]
  simp
theorem set_rowD {r : List En} {k : Nat} {e : En} : (r.map enD).set k (enD e) = (r.set k e).map enD := by rw [List.map_set]
theorem changed_ok {ins outs i k o : Nat} {rows : List (List En)} {S : Sto} (P : PM ins outs rows) (hi : i < rows.length) (hk : k < 2 ^ ins) : F_changed [plD ins outs rows, .int ((i : Nat) : Int), .int ((k : Nat) : Int), .int ((o : Nat) : Int)] S = .ok (plD ins outs (chg rows i k o)) S := by
  have hl : (rowAt rows i).length = 2 ^ ins := P.len _ (row_mem hi)
  have ha := at_ans (rows := rows) (i := i) (k := k) (by omega)
  unfold F_changed
  refine fn_ok (gd_blw _ plD_gd) ?_
  unfold b_changed
  have e2 : ∀ {S : Sto} {Q : D → Sto → Prop} {X : Exc → Sto → Prop}, Wp (ixD (plD ins outs rows) (.int 2) S) Q X = Q (.tup (rows.map rowD)) S := fun {S Q X} => rfl
  simp only [wq_a, wq_b, wq_c, wq_d, wq_e, wq_f, wq_g, Int.reduceToNat, Int.reduceLE, Int.reduceLT, Int.reduceNeg, startD, List.replicate, Nat.reduceAdd, Nat.reduceSub, Nat.reduceEqDiff, if_true, if_false, Int.reduceEq, Int.reduceAdd, Int.reduceSub, Int.reduceMul, eq_self, e2, w_listT]
  have g1 : (S ++ [DO.lst (rows.map rowD)])[S.length]? = some (.lst (rows.map rowD)) := get_last
  rw [w_ixL g1 (at_row hi)]
  simp only [wq_a, wq_b, wq_c, wq_d, wq_e, wq_f, wq_g, Int.reduceToNat, Int.reduceLE, Int.reduceLT, Int.reduceNeg, startD, List.replicate, Nat.reduceAdd, Nat.reduceSub, Nat.reduceEqDiff, if_true, if_false, Int.reduceEq, Int.reduceAdd, Int.reduceSub, Int.reduceMul, eq_self]
  rw [show rowD (rowAt rows i) = .tup ((rowAt rows i).map enD) from rfl, w_listT]
  rw [show (S ++ [DO.lst (rows.map rowD)]).length = S.length + 1 by simp, show (S ++ [DO.lst (rows.map rowD)]) ++ [DO.lst ((rowAt rows i).map enD)] = S ++ [DO.lst (rows.map rowD), DO.lst ((rowAt rows i).map enD)] by simp]
  simp only [wq_a, wq_b, wq_c, wq_d, wq_e, wq_f, wq_g, Int.reduceToNat, Int.reduceLE, Int.reduceLT, Int.reduceNeg, startD, List.replicate, Nat.reduceAdd, Nat.reduceSub, Nat.reduceEqDiff, if_true, if_false, Int.reduceEq, Int.reduceAdd, Int.reduceSub, Int.reduceMul, eq_self]
  rw [w_ixL two_1 ha]
  simp only [wq_a, wq_b, wq_c, wq_d, wq_e, wq_f, wq_g, Int.reduceToNat, Int.reduceLE, Int.reduceLT, Int.reduceNeg, startD, List.replicate, Nat.reduceAdd, Nat.reduceSub, Nat.reduceEqDiff, if_true, if_false, Int.reduceEq, Int.reduceAdd, Int.reduceSub, Int.reduceMul, eq_self]
  have e0 : ∀ {S : Sto} {Q : D → Sto → Prop} {X : Exc → Sto → Prop}, Wp (ixD (enD (ansAt rows i k)) (.int 0) S) Q X = Q (.str (W (wB (ansAt rows i k).1))) S := fun {S Q X} => rfl
  simp only [e0, wq_a, wq_b, wq_c, wq_d, wq_e, wq_f, wq_g, Int.reduceToNat, Int.reduceLE, Int.reduceLT, Int.reduceNeg, startD, List.replicate, Nat.reduceAdd, Nat.reduceSub, Nat.reduceEqDiff, if_true, if_false, Int.reduceEq, Int.reduceAdd, Int.reduceSub, Int.reduceMul, eq_self]
  rw [w_setL two_1 (by rw [List.length_map]; omega), two_s1]
  simp only [wq_a, wq_b, wq_c, wq_d, wq_e, wq_f, wq_g, Int.reduceToNat, Int.reduceLE, Int.reduceLT, Int.reduceNeg, startD, List.replicate, Nat.reduceAdd, Nat.reduceSub, Nat.reduceEqDiff, if_true, if_false, Int.reduceEq, Int.reduceAdd, Int.reduceSub, Int.reduceMul, eq_self]
  rw [w_tupR two_1]
  simp only [wq_a, wq_b, wq_c, wq_d, wq_e, wq_f, wq_g, Int.reduceToNat, Int.reduceLE, Int.reduceLT, Int.reduceNeg, startD, List.replicate, Nat.reduceAdd, Nat.reduceSub, Nat.reduceEqDiff, if_true, if_false, Int.reduceEq, Int.reduceAdd, Int.reduceSub, Int.reduceMul, eq_self]
  rw [w_setL two_0 (by rw [List.length_map]; omega), two_s0]
  simp only [wq_a, wq_b, wq_c, wq_d, wq_e, wq_f, wq_g, Int.reduceToNat, Int.reduceLE, Int.reduceLT, Int.reduceNeg, startD, List.replicate, Nat.reduceAdd, Nat.reduceSub, Nat.reduceEqDiff, if_true, if_false, Int.reduceEq, Int.reduceAdd, Int.reduceSub, Int.reduceMul, eq_self]
  have es : ∀ {S : Sto} {Q : D → Sto → Prop} {X : Exc → Sto → Prop}, Wp (sliceD (plD ins outs rows) none (some 2) S) Q X = Q (.tup [.int ((ins : Nat) : Int), .int ((outs : Nat) : Int)]) S := fun {S Q X} => rfl
  simp only [es, wq_a, wq_b, wq_c, wq_d, wq_e, wq_f, wq_g, Int.reduceToNat, Int.reduceLE, Int.reduceLT, Int.reduceNeg, startD, List.replicate, Nat.reduceAdd, Nat.reduceSub, Nat.reduceEqDiff, if_true, if_false, Int.reduceEq, Int.reduceAdd, Int.reduceSub, Int.reduceMul, eq_self]
  rw [w_tupR two_0]
  simp only [wq_a, wq_b, wq_c, wq_d, wq_e, wq_f, wq_g, Int.reduceToNat, Int.reduceLE, Int.reduceLT, Int.reduceNeg, startD, List.replicate, Nat.reduceAdd, Nat.reduceSub, Nat.reduceEqDiff, if_true, if_false, Int.reduceEq, Int.reduceAdd, Int.reduceSub, Int.reduceMul, eq_self]
  refine ⟨?_, _, rfl⟩
  show D.tup _ = D.tup _
  rw [show (.tup [.str (W (wB (ansAt rows i k).1)), .int ((o : Nat) : Int)] : D) = enD ((ansAt rows i k).1, o) from rfl, set_rowD, show (.tup (((rowAt rows i).set k ((ansAt rows i k).1, o)).map enD) : D) = rowD ((rowAt rows i).set k ((ansAt rows i k).1, o)) from rfl, ← List.map_set]
  rfl
theorem list_set3 {α : Type} {l : List α} {k : Nat} {x : α} (h : k < l.length) : l.take k ++ [x] ++ l.drop (k + 1) = l.set k x := by
  rw [List.set_eq_take_append_cons_drop, if_pos h]
  simp
theorem sl_tupT {ds : List D} {k : Nat} {S : Sto} {Q : D → Sto → Prop} {X : Exc → Sto → Prop} : Wp (sliceF (.tup ds) none (some ((k : Nat) : Int)) S) Q X = Q (.tup (ds.take k)) S := by
  show Q (.tup (cutL _ _ _)) S = _
  rw [cut_take]
theorem sl_tupD {ds : List D} {k : Nat} {S : Sto} {Q : D → Sto → Prop} {X : Exc → Sto → Prop} : Wp (sliceF (.tup ds) (some ((k : Nat) : Int)) none S) Q X = Q (.tup (ds.drop k)) S := by
  show Q (.tup (cutL _ _ _)) S = _
  rw [cut_drop]
theorem law_changed_ok {ins outs i k o : Nat} {rows : List (List En)} {S : Sto} (P : PM ins outs rows) (hi : i < rows.length) (hk : k < 2 ^ ins) : F__law_changed [plD ins outs rows, .int ((i : Nat) : Int), sW ((allB ins).getD k []), .int ((o : Nat) : Int)] S = .ok (plD ins outs (chg rows i k o)) S := by
  have i4 := P.i4
  have n200 := P.n200
  have p16 := pow_le i4
  have hl : (rowAt rows i).length = 2 ^ ins := P.len _ (row_mem hi)
  have ha := at_ans (rows := rows) (i := i) (k := k) (by omega)
  unfold F__law_changed
  refine fn_ok (gd_blw _ plD_gd) ?_
  unfold b__law_changed
  have x2 : ∀ {S : Sto}, Wp (ixD (plD ins outs rows) (.int 2) S) = Wp (.ok (.tup (rows.map rowD)) S) := rfl
  have x0 : ∀ {S : Sto}, Wp (ixD (plD ins outs rows) (.int 0) S) = Wp (.ok (.int ((ins : Nat) : Int)) S) := rfl
  have hlb := law_beats_ok (S := S) ins (39 - ins) (by omega)
  rw [show ins + 1 + (39 - ins) = 40 by omega] at hlb
  simp only [wq_a, wq_b, wq_c, wq_d, wq_e, wq_f, wq_g, Int.reduceToNat, Int.reduceLE, Int.reduceLT, Int.reduceNeg, startD, List.replicate, Nat.reduceAdd, Nat.reduceSub, Nat.reduceEqDiff, if_true, if_false, Int.reduceEq, Int.reduceAdd, Int.reduceSub, Int.reduceMul, eq_self, x2, at_row hi, x0, hlb]
  have ity : isTy "list" (.frl ((allB ins).map sW)) S = true := rfl
  rw [zm ity]
  simp only [wq_a, wq_b, wq_c, wq_d, wq_e, wq_f, wq_g, Int.reduceToNat, Int.reduceLE, Int.reduceLT, Int.reduceNeg, startD, List.replicate, Nat.reduceAdd, Nat.reduceSub, Nat.reduceEqDiff, if_true, if_false, Int.reduceEq, Int.reduceAdd, Int.reduceSub, Int.reduceMul, eq_self]
  rw [index_ok (allB_nodup ins) (by rw [allB_many]; exact hk)]
  simp only [wq_a, wq_b, wq_c, wq_d, wq_e, wq_f, wq_g, Int.reduceToNat, Int.reduceLE, Int.reduceLT, Int.reduceNeg, startD, List.replicate, Nat.reduceAdd, Nat.reduceSub, Nat.reduceEqDiff, if_true, if_false, Int.reduceEq, Int.reduceAdd, Int.reduceSub, Int.reduceMul, eq_self, x2]
  rw [at_row hi]
  simp only [wq_a, wq_b, wq_c, wq_d, wq_e, wq_f, wq_g, Int.reduceToNat, Int.reduceLE, Int.reduceLT, Int.reduceNeg, startD, List.replicate, Nat.reduceAdd, Nat.reduceSub, Nat.reduceEqDiff, if_true, if_false, Int.reduceEq, Int.reduceAdd, Int.reduceSub, Int.reduceMul, eq_self]
  rw [show rowD (rowAt rows i) = .tup ((rowAt rows i).map enD) from rfl]
  have e0 : ∀ {S : Sto} {Q : D → Sto → Prop} {X : Exc → Sto → Prop}, Wp (ixD (enD (ansAt rows i k)) (.int 0) S) Q X = Q (.str (W (wB (ansAt rows i k).1))) S := fun {S Q X} => rfl
  have ek : ∀ k : Nat, ((k : Nat) : Int) + 1 = ((k + 1 : Nat) : Int) := fun k => by omega
  simp only [wq_a, wq_b, wq_c, wq_d, wq_e, wq_f, wq_g, Int.reduceToNat, Int.reduceLE, Int.reduceLT, Int.reduceNeg, startD, List.replicate, Nat.reduceAdd, Nat.reduceSub, Nat.reduceEqDiff, if_true, if_false, Int.reduceEq, Int.reduceAdd, Int.reduceSub, Int.reduceMul, eq_self, sl_tupT, ha, e0]
  rw [zm (szn (by simp only [List.length_append, List.length_take, List.length_drop, List.length_map, List.length_cons, List.length_nil]; omega))]
  simp only [wq_a, wq_b, wq_c, wq_d, wq_e, wq_f, wq_g, Int.reduceToNat, Int.reduceLE, Int.reduceLT, Int.reduceNeg, startD, List.replicate, Nat.reduceAdd, Nat.reduceSub, Nat.reduceEqDiff, if_true, if_false, Int.reduceEq, Int.reduceAdd, Int.reduceSub, Int.reduceMul, eq_self, ek, sl_tupD]
  rw [zm (szn (by simp only [List.length_append, List.length_take, List.length_drop, List.length_map, List.length_cons, List.length_nil]; omega))]
  rw [list_set3 (by rw [List.length_map]; omega)]
  have es : ∀ {S : Sto} {Q : D → Sto → Prop} {X : Exc → Sto → Prop}, Wp (sliceD (plD ins outs rows) none (some 2) S) Q X = Q (.tup [.int ((ins : Nat) : Int), .int ((outs : Nat) : Int)]) S := fun {S Q X} => rfl
  simp only [wq_a, wq_b, wq_c, wq_d, wq_e, wq_f, wq_g, Int.reduceToNat, Int.reduceLE, Int.reduceLT, Int.reduceNeg, startD, List.replicate, Nat.reduceAdd, Nat.reduceSub, Nat.reduceEqDiff, if_true, if_false, Int.reduceEq, Int.reduceAdd, Int.reduceSub, Int.reduceMul, eq_self, es, x2, sl_tupT]
  rw [zm (szn (by simp only [List.length_append, List.length_take, List.length_drop, List.length_map, List.length_cons, List.length_nil]; omega))]
  simp only [wq_a, wq_b, wq_c, wq_d, wq_e, wq_f, wq_g, Int.reduceToNat, Int.reduceLE, Int.reduceLT, Int.reduceNeg, startD, List.replicate, Nat.reduceAdd, Nat.reduceSub, Nat.reduceEqDiff, if_true, if_false, Int.reduceEq, Int.reduceAdd, Int.reduceSub, Int.reduceMul, eq_self, x2, ek, sl_tupD]
  rw [zm (szn (by simp only [List.length_append, List.length_take, List.length_drop, List.length_map, List.length_cons, List.length_nil]; omega))]
  rw [list_set3 (by rw [List.length_map]; omega)]
  simp only [wq_a, wq_b, wq_c, wq_d, wq_e, wq_f, wq_g, Int.reduceToNat, Int.reduceLE, Int.reduceLT, Int.reduceNeg, startD, List.replicate, Nat.reduceAdd, Nat.reduceSub, Nat.reduceEqDiff, if_true, if_false, Int.reduceEq, Int.reduceAdd, Int.reduceSub, Int.reduceMul, eq_self]
  refine ⟨?_, app_nil S⟩
  rw [show (.tup [.str (W (wB (ansAt rows i k).1)), .int ((o : Nat) : Int)] : D) = enD ((ansAt rows i k).1, o) from rfl, set_rowD, show (.tup (((rowAt rows i).set k ((ansAt rows i k).1, o)).map enD) : D) = rowD ((rowAt rows i).set k ((ansAt rows i k).1, o)) from rfl, ← List.map_set]
  rfl

end Lw

namespace Lw
open PySem PySem.Spec PyProof.Rows L2 DL
theorem law_at_b {ins outs i : Nat} {rows : List (List En)} {b : List Bool} {S : Sto} (P : PM ins outs rows) (hi : i < rows.length) (hb : b.length = ins) : F__law_at [plD ins outs rows, .int ((i : Nat) : Int), sW b] S = .ok (enD (ansAt rows i (nb b))) S := by
  have := law_at_ok (S := S) P hi (k := nb b) (by rw [← hb]; exact nb_lt b)
  rw [allB_getD hb] at this
  exact this
theorem law_deeds_ok {ins outs : Nat} {rows : List (List En)} {bs : List (List Bool)} {S : Sto} (P : PM ins outs rows) (hb : ∀ b ∈ bs, b.length = ins) (hl : bs.length ≤ 100000) : F__law_deeds [plD ins outs rows, .frl (bs.map sW)] S = .ok (.frl ((prun rows 0 bs).map sW)) S := by
  unfold F__law_deeds
  refine fn_ok sWs_blw ?_
  unfold b__law_deeds
  have la := fun (S : Sto) (i : Nat) (b : List Bool) (hi : i < rows.length) (hb : b.length = ins) => law_at_b (S := S) P hi hb
  generalize plD ins outs rows = PP at la ⊢
  simp only [z6, z5, wq_a, wq_b, wq_c, wq_d, wq_e, wq_f, wq_g, Int.reduceToNat, Int.reduceLE, Int.reduceLT, Int.reduceNeg, startD, List.replicate, Nat.reduceAdd, Nat.reduceSub, Nat.reduceEqDiff, if_true, if_false, Int.reduceEq, Int.reduceAdd, Int.reduceSub, Int.reduceMul, eq_self, itemsD]
  refine w_loopP sW (fun pre sd S' => ∃ (a4 a5 : Option D), S' = S ++ [.lst ((prun rows 0 pre).map sW)] ∧ sd = [some PP, some (.frl (bs.map sW)), some (.int ((pend rows 0 pre : Nat) : Int)), some (.ref S.length), a4, a5]) bs (fun _ _ _ _ _ _ => rfl) ⟨_, _, rfl, rfl⟩ ?_ ?_
  · rintro sd S' ⟨a4, a5, rfl, rfl⟩
    simp only [z6, z5, wq_a, wq_b, wq_c, wq_d, wq_e, wq_f, wq_g, Int.reduceToNat, Int.reduceLE, Int.reduceLT, Int.reduceNeg, startD, List.replicate, Nat.reduceAdd, Nat.reduceSub, Nat.reduceEqDiff, if_true, if_false, Int.reduceEq, Int.reduceAdd, Int.reduceSub, Int.reduceMul, eq_self, w_dFrz]
    rw [frz_at (get_mid rfl)]
    exact ⟨rfl, [.dead], by rw [set_mid rfl]⟩
  · rintro pre b post sd S' e ⟨a4, a5, rfl, rfl⟩
    have hbl := hb b (by rw [e]; simp)
    have hpe := pend_lt P (bs := pre) (i := 0) (by have := P.n1; omega) fun x hx => hb x (by rw [e]; simp [hx])
    have hpl : pre.length ≤ 100000 := by have := congrArg List.length e; simp at this; omega
    simp only [z6, z5, wq_a, wq_b, wq_c, wq_d, wq_e, wq_f, wq_g, Int.reduceToNat, Int.reduceLE, Int.reduceLT, Int.reduceNeg, startD, List.replicate, Nat.reduceAdd, Nat.reduceSub, Nat.reduceEqDiff, if_true, if_false, Int.reduceEq, Int.reduceAdd, Int.reduceSub, Int.reduceMul, eq_self, la _ _ _ hpe hbl, enD, gTupD]
    rw [zm (isTy_lst get_last)]
    simp only [z6, z5, wq_a, wq_b, wq_c, wq_d, wq_e, wq_f, wq_g, Int.reduceToNat, Int.reduceLE, Int.reduceLT, Int.reduceNeg, startD, List.replicate, Nat.reduceAdd, Nat.reduceSub, Nat.reduceEqDiff, if_true, if_false, Int.reduceEq, Int.reduceAdd, Int.reduceSub, Int.reduceMul, eq_self]
    rw [w_appL get_last (by rw [sizeLine_eq, List.length_map, prun_len]; omega), set_last]
    refine ⟨_, _, ?_, by rw [pend_snoc]⟩
    rw [prun_snoc, List.map_append]
    rfl
def gone (rows : List (List En)) (i k : Nat) : Nat → List (List Bool) → Bool
  | _, [] => false
  | j, b :: bs => (decide (j = i) && decide (nb b = k)) || gone rows i k (ansAt rows j (nb b)).2 bs
def goneA (rows : List (List En)) (i k : Nat) (ts : List (List (List Bool))) : Bool := ts.any fun t => gone rows i k 0 t
def rwT (t : List (List Bool)) : D := .frl (t.map sW)
theorem gone_app {rows : List (List En)} {i k : Nat} : ∀ (p q : List (List Bool)) (j : Nat), gone rows i k j (p ++ q) = (gone rows i k j p || gone rows i k (pend rows j p) q)
  | [], q, j => rfl
  | b :: p, q, j => by
    show (_ || gone rows i k _ (p ++ q)) = ((_ || gone rows i k _ p) || _)
    rw [gone_app p q, Bool.or_assoc]
    rfl
theorem is_gone_ok {ins outs i k : Nat} {rows : List (List En)} {ts : List (List (List Bool))} {S : Sto} (P : PM ins outs rows) (hb : ∀ t ∈ ts, ∀ b ∈ t, b.length = ins) : F_is_gone [plD ins outs rows, .frl (ts.map rwT), .int ((i : Nat) : Int), .int ((k : Nat) : Int)] S = .ok (.bl (goneA rows i k ts)) S := by
  have i4 := P.i4
  unfold F_is_gone
  refine fn_ok rfl ?_
  unfold b_is_gone
  have x2 : ∀ {S : Sto}, Wp (ixD (plD ins outs rows) (.int 2) S) = Wp (.ok (.tup (rows.map rowD)) S) := rfl
  generalize plD ins outs rows = PP at x2 ⊢
  simp only [wq_a, wq_b, wq_c, wq_d, wq_e, wq_f, wq_g, Int.reduceToNat, Int.reduceLE, Int.reduceLT, Int.reduceNeg, startD, List.replicate, Nat.reduceAdd, Nat.reduceSub, Nat.reduceEqDiff, if_true, if_false, Int.reduceEq, Int.reduceAdd, Int.reduceSub, Int.reduceMul, eq_self, itemsD]
  refine w_loopP rwT (fun pre sd S' => ∃ (a4 a5 a6 : Option D), S' = S ∧ goneA rows i k pre = false ∧ sd = [some PP, some (.frl (ts.map rwT)), some (.int ((i : Nat) : Int)), some (.int ((k : Nat) : Int)), a4, a5, a6]) ts (fun _ _ _ _ _ _ => rfl) ⟨_, _, _, rfl, rfl, rfl⟩ ?_ ?_
  · rintro sd S' ⟨a4, a5, a6, rfl, hg, rfl⟩
    simp only [wq_a, wq_b, wq_c, wq_d, wq_e, wq_f, wq_g, Int.reduceToNat, Int.reduceLE, Int.reduceLT, Int.reduceNeg, startD, List.replicate, Nat.reduceAdd, Nat.reduceSub, Nat.reduceEqDiff, if_true, if_false, Int.reduceEq, Int.reduceAdd, Int.reduceSub, Int.reduceMul, eq_self, hg]
    exact ⟨trivial, app_nil S'⟩
  · rintro pre t post sd S' e ⟨a4, a5, a6, rfl, hg, rfl⟩
    have ht := hb t (by rw [e]; simp)
    simp only [wq_a, wq_b, wq_c, wq_d, wq_e, wq_f, wq_g, Int.reduceToNat, Int.reduceLE, Int.reduceLT, Int.reduceNeg, startD, List.replicate, Nat.reduceAdd, Nat.reduceSub, Nat.reduceEqDiff, if_true, if_false, Int.reduceEq, Int.reduceAdd, Int.reduceSub, Int.reduceMul, eq_self, itemsD, rwT]
    refine w_loopP sW (fun p sd S'' => ∃ (a6 : Option D), S'' = S' ∧ gone rows i k 0 p = false ∧ sd = [some PP, some (.frl (ts.map rwT)), some (.int ((i : Nat) : Int)), some (.int ((k : Nat) : Int)), some (.frl (t.map sW)), some (.int ((pend rows 0 p : Nat) : Int)), a6]) t (fun _ _ _ _ _ _ => rfl) ⟨_, rfl, rfl, rfl⟩ ?_ ?_
    · rintro sd S'' ⟨a6, rfl, hg2, rfl⟩
      refine ⟨_, _, _, rfl, ?_, rfl⟩
      unfold goneA at hg ⊢
      rw [List.any_append, hg]
      simp [hg2]
    · rintro p b q sd S'' ep ⟨a6, rfl, hg2, rfl⟩
      have hbl := ht b (by rw [ep]; simp)
      have hpe := pend_lt P (bs := p) (i := 0) (by have := P.n1; omega) fun x hx => ht x (by rw [ep]; simp [hx])
      have ha := P.ans hpe hbl
      have nu := fun S : Sto => number_ok (S := S) (show b.length ≤ 20 by omega)
      have go1 : gone rows i k 0 (p ++ [b]) = (decide (pend rows 0 p = i) && decide (nb b = k)) := by
        rw [gone_app, hg2]
        simp [gone]
      simp only [wq_a, wq_b, wq_c, wq_d, wq_e, wq_f, wq_g, Int.reduceToNat, Int.reduceLE, Int.reduceLT, Int.reduceNeg, startD, List.replicate, Nat.reduceAdd, Nat.reduceSub, Nat.reduceEqDiff, if_true, if_false, Int.reduceEq, Int.reduceAdd, Int.reduceSub, Int.reduceMul, eq_self, nu]
      by_cases hc : pend rows 0 p = i ∧ nb b = k
      · rw [if_pos (decide_eq_true (by omega))]
        simp only [wq_a, wq_b, wq_c, wq_d, wq_e, wq_f, wq_g, Int.reduceToNat, Int.reduceLE, Int.reduceLT, Int.reduceNeg, startD, List.replicate, Nat.reduceAdd, Nat.reduceSub, Nat.reduceEqDiff, if_true, if_false, Int.reduceEq, Int.reduceAdd, Int.reduceSub, Int.reduceMul, eq_self, nu]
        rw [if_pos (decide_eq_true (by omega))]
        simp only [wq_a, wq_b, wq_c, wq_d, wq_e, wq_f, wq_g, Int.reduceToNat, Int.reduceLE, Int.reduceLT, Int.reduceNeg, startD, List.replicate, Nat.reduceAdd, Nat.reduceSub, Nat.reduceEqDiff, if_true, if_false, Int.reduceEq, Int.reduceAdd, Int.reduceSub, Int.reduceMul, eq_self]
        refine ⟨?_, app_nil S''⟩
        have h1 : gone rows i k 0 t = true := by
          rw [ep, show p ++ b :: q = (p ++ [b]) ++ q by simp, gone_app, go1, decide_eq_true hc.1, decide_eq_true hc.2]
          rfl
        have h2 : goneA rows i k ts = true := by
          unfold goneA
          rw [List.any_eq_true]
          exact ⟨t, by rw [e]; simp, h1⟩
        rw [h2]
      · have go2 : gone rows i k 0 (p ++ [b]) = false := by
          rw [go1]
          rcases Classical.not_and_iff_not_or_not.mp hc with h | h
          · rw [decide_eq_false h]; rfl
          · rw [decide_eq_false h]; simp
        by_cases h1 : pend rows 0 p = i
        · rw [if_pos (decide_eq_true (by omega))]
          simp only [wq_a, wq_b, wq_c, wq_d, wq_e, wq_f, wq_g, Int.reduceToNat, Int.reduceLE, Int.reduceLT, Int.reduceNeg, startD, List.replicate, Nat.reduceAdd, Nat.reduceSub, Nat.reduceEqDiff, if_true, if_false, Int.reduceEq, Int.reduceAdd, Int.reduceSub, Int.reduceMul, eq_self, nu]
          rw [if_neg (by intro z; have := of_decide_eq_true z; omega)]
          simp only [wq_a, wq_b, wq_c, wq_d, wq_e, wq_f, wq_g, Int.reduceToNat, Int.reduceLE, Int.reduceLT, Int.reduceNeg, startD, List.replicate, Nat.reduceAdd, Nat.reduceSub, Nat.reduceEqDiff, if_true, if_false, Int.reduceEq, Int.reduceAdd, Int.reduceSub, Int.reduceMul, eq_self, x2, at_row hpe, rowD, nu, at_ans ha.1, enD]
          exact ⟨_, trivial, go2, by rw [pend_snoc]⟩
        · rw [if_neg (by intro z; have := of_decide_eq_true z; omega)]
          simp only [wq_a, wq_b, wq_c, wq_d, wq_e, wq_f, wq_g, Int.reduceToNat, Int.reduceLE, Int.reduceLT, Int.reduceNeg, startD, List.replicate, Nat.reduceAdd, Nat.reduceSub, Nat.reduceEqDiff, if_true, if_false, Int.reduceEq, Int.reduceAdd, Int.reduceSub, Int.reduceMul, eq_self, x2, at_row hpe, rowD, nu, at_ans ha.1, enD]
          exact ⟨_, trivial, go2, by rw [pend_snoc]⟩
abbrev Wr : Type := (Nat × Nat) × Option Nat
def oD : Option Nat → D
  | none => .non
  | some o => .int ((o : Nat) : Int)
def wrD (w : Wr) : D := .tup [.int ((w.1.1 : Nat) : Int), .int ((w.1.2 : Nat) : Int), oD w.2]
def prt (r1 r2 : List (List En)) (ts : List (List (List Bool))) : Bool := !ts.all fun t => !(!decide (prun r1 0 t = prun r2 0 t))
def fnd (rows : List (List En)) (ts : List (List (List Bool))) (w : Wr) : Bool := match w.2 with
  | none => goneA rows w.1.1 w.1.2 ts
  | some o => prt rows (chg rows w.1.1 w.1.2 o) ts
theorem sWs_inj {a b : List (List Bool)} : a.map sW = b.map sW ↔ a = b := by
  refine ⟨fun h => ?_, fun h => by rw [h]⟩
  exact (List.map_inj_right fun x y hxy => by
    have : W (wB x) = W (wB y) := by
      have := hxy
      unfold sW at this
      exact D.str.inj this
    exact wB_inj (W_inj.mp this)).mp h
theorem rwT_gd (t : List (List Bool)) : GD 1 (rwT t) := sWs_gd
theorem w_neW {a b : List (List Bool)} {S : Sto} {Q : D → Sto → Prop} {X : Exc → Sto → Prop} : Wp (neD (.frl (a.map sW)) (.frl (b.map sW)) S) Q X = Q (.bl (!decide (a = b))) S := by
  rw [w_neG (sWs_gd (r := a)) (sWs_gd (r := b))]
  have : decide (D.frl (a.map sW) = .frl (b.map sW)) = decide (a = b) := decide_eq_decide.mpr ⟨fun z => sWs_inj.mp (D.frl.inj z), fun z => by rw [z]⟩
  rw [this]
theorem is_found_ok {ins outs : Nat} {rows : List (List En)} {ts : List (List (List Bool))} {w : Wr} {S : Sto} (P : PM ins outs rows) (hb : ∀ t ∈ ts, t.length ≤ 1000 ∧ ∀ b ∈ t, b.length = ins) (hz : ts.length ≤ 1000)
    (hi : w.1.1 < rows.length) (hk : w.1.2 < 2 ^ ins) (ho : ∀ o, w.2 = some o → o < rows.length) : F_is_found [plD ins outs rows, .frl (ts.map rwT), wrD w] S = .ok (.bl (fnd rows ts w)) S := by
  obtain ⟨⟨i, k⟩, o⟩ := w
  unfold F_is_found
  refine fn_ok rfl ?_
  unfold b_is_found
  have gt : ∀ {sd : Sl} {S : Sto} {Q : Sl → Sto → Prop} {X : Exc → Sto → Prop} {q : List D → Sl → Sto → Res Sl}, Wp (gTupD 3 q (wrD ((i, k), o)) sd S) Q X = Wp (q [.int ((i : Nat) : Int), .int ((k : Nat) : Int), oD o] sd S) Q X := fun {sd S Q X q} => rfl
  simp only [wq_a, wq_b, wq_c, wq_d, wq_e, wq_f, wq_g, Int.reduceToNat, Int.reduceLE, Int.reduceLT, Int.reduceNeg, startD, List.replicate, Nat.reduceAdd, Nat.reduceSub, Nat.reduceEqDiff, if_true, if_false, Int.reduceEq, Int.reduceAdd, Int.reduceSub, Int.reduceMul, eq_self, gt]
  have hb1 : ∀ t ∈ ts, ∀ b ∈ t, b.length = ins := fun t ht => (hb t ht).2
  cases o with
  | none =>
    simp only [oD, wq_a, wq_b, wq_c, wq_d, wq_e, wq_f, wq_g, Int.reduceToNat, Int.reduceLE, Int.reduceLT, Int.reduceNeg, startD, List.replicate, Nat.reduceAdd, Nat.reduceSub, Nat.reduceEqDiff, if_true, if_false, Int.reduceEq, Int.reduceAdd, Int.reduceSub, Int.reduceMul, eq_self, is_gone_ok P hb1]
    exact ⟨rfl, app_nil S⟩
  | some o =>
    have ho := ho o rfl
    have P2 := chg_pm (i := i) (k := k) P hi hk ho
    simp only [oD, wq_a, wq_b, wq_c, wq_d, wq_e, wq_f, wq_g, Int.reduceToNat, Int.reduceLE, Int.reduceLT, Int.reduceNeg, startD, List.replicate, Nat.reduceAdd, Nat.reduceSub, Nat.reduceEqDiff, if_true, if_false, Int.reduceEq, Int.reduceAdd, Int.reduceSub, Int.reduceMul, eq_self, changed_ok P hi hk]
    have d1 := fun (S : Sto) (t : List (List Bool)) (ht : t ∈ ts) => deeds_ok (S := S) P (hb1 t ht) (by have := (hb t ht).1; omega)
    have d2 := fun (S : Sto) (t : List (List Bool)) (ht : t ∈ ts) => deeds_ok (S := S) P2 (hb1 t ht) (by have := (hb t ht).1; omega)
    generalize plD ins outs rows = PP at d1 ⊢
    generalize plD ins outs (chg rows i k o) = P2' at d2 ⊢
    have hc : ∀ {a0 : Option D} {S : Sto}, dFrz (dComp [7] (iVal (dVar 1)) (gVar 7) (d2T neD (dCallF 2 F_deeds_of (dCons (dVar 0) (dCons (dVar 7) dNil))) (dCallF 2 F_deeds_of (dCons (dVar 3) (dCons (dVar 7) dNil)))) (dVar 7)) [some PP, some (.frl (ts.map rwT)), a0, some P2', some (.int ((i : Nat) : Int)), some (.int ((k : Nat) : Int)), some (.int ((o : Nat) : Int)), none] S = .ok (.frl ((ts.filter fun t => !decide (prun rows 0 t = prun (chg rows i k o) 0 t)).map rwT)) S := fun {a0 S} => by
      refine compF ts rwT (fun t => !decide (prun rows 0 t = prun (chg rows i k o) 0 t)) _ ?_ (Nat.le_trans (List.length_filter_le _ _) (szn (by omega))) ?_ ?_
      · simp only [wq_a, wq_b, wq_c, wq_d, wq_e, wq_f, wq_g, Int.reduceToNat, Int.reduceLE, Int.reduceLT, Int.reduceNeg, startD, List.replicate, Nat.reduceAdd, Nat.reduceSub, Nat.reduceEqDiff, if_true, if_false, Int.reduceEq, Int.reduceAdd, Int.reduceSub, Int.reduceMul, eq_self, itemsD]
        exact ⟨trivial, trivial, fun _ _ => rfl⟩
      · intro t ht S' _
        have e1 := fun S => d1 S t ht
        have e2 := fun S => d2 S t ht
        rw [show (.frl (t.map sW) : D) = rwT t from rfl] at e1 e2
        simp only [wq_a, wq_b, wq_c, wq_d, wq_e, wq_f, wq_g, Int.reduceToNat, Int.reduceLE, Int.reduceLT, Int.reduceNeg, startD, List.replicate, Nat.reduceAdd, Nat.reduceSub, Nat.reduceEqDiff, if_true, if_false, Int.reduceEq, Int.reduceAdd, Int.reduceSub, Int.reduceMul, eq_self, wipeD, e1, e2, w_neW]
        exact ⟨trivial, trivial, trivial, fun _ => ⟨trivial, trivial⟩⟩
      · intro t _ _
        exact sWs_blw
    simp only [hc, wq_a, wq_b, wq_c, wq_d, wq_e, wq_f, wq_g, Int.reduceToNat, Int.reduceLE, Int.reduceLT, Int.reduceNeg, startD, List.replicate, Nat.reduceAdd, Nat.reduceSub, Nat.reduceEqDiff, if_true, if_false, Int.reduceEq, Int.reduceAdd, Int.reduceSub, Int.reduceMul, eq_self]
    rw [w_neNil (n := 1) fun a _ => rwT_gd a]
    simp only [wq_a, wq_b, wq_c, wq_d, wq_e, wq_f, wq_g, Int.reduceToNat, Int.reduceLE, Int.reduceLT, Int.reduceNeg, startD, List.replicate, Nat.reduceAdd, Nat.reduceSub, Nat.reduceEqDiff, if_true, if_false, Int.reduceEq, Int.reduceAdd, Int.reduceSub, Int.reduceMul, eq_self]
    exact ⟨by first | rfl | trivial, app_nil S⟩

end Lw

namespace Lw
open PySem PySem.Spec PyProof.Rows L2 DL
theorem fn_newD {n : Nat} {b : Sl → Sto → Res Fl} {ds : List D} {S : Sto} {kvs : List (D × D)} (h : Wp (b (startD n ds) S) (kFn fun d S' => d = .ref S.length ∧ S' = S ++ [.dic 2 kvs]) NX) : cutF (dFn n b) ds S = .ok (.ref S.length) (S ++ [.dic 2 kvs]) := by
  have h' : Wp (dFn n b ds S) (fun d S' => d = .ref S.length ∧ S' = S ++ [.dic 2 kvs]) NX := by rw [w_dFn]; exact h
  obtain ⟨d, S', e, rfl, rfl⟩ := Wp.ok h'
  unfold cutF
  rw [e]
  simp only [cutR]
  rw [if_pos (cutOk_app S _), if_neg (by show ¬ decide (S.length < S.length) = true; simp), get_last]
theorem getK_put {kvs : List (D × D)} {k v k' : D} : getK (putD kvs k v) k' = if k' = k then some v else getK kvs k' := by
  induction kvs with
  | nil =>
    by_cases h : k' = k
    · subst h; simp [putD, getK]
    · have : ¬ k = k' := fun z => h z.symm
      simp [putD, getK, h, this]
  | cons p kvs ih =>
    have hc : putD (p :: kvs) k v = if p.1 = k then (p.1, v) :: (kvs.map fun q => if q.1 = k then (q.1, v) else q) else p :: putD kvs k v := by
      unfold putD
      by_cases h : p.1 = k
      · simp [h]
      · simp only [List.any_cons, decide_eq_false h, Bool.false_or, if_neg h, List.map_cons]
        split <;> rfl
    rw [hc]
    by_cases h : p.1 = k
    · rw [if_pos h]
      by_cases h' : k' = k
      · rw [if_pos h']
        simp [getK, h, h']
      · rw [if_neg h']
        have hn : ¬ p.1 = k' := fun z => h' (z.symm.trans h)
        have hm : ∀ l : List (D × D), getK (l.map fun q => if q.1 = k then (q.1, v) else q) k' = getK l k' := by
          intro l
          induction l with
          | nil => rfl
          | cons q l ihl =>
            have e1 : ∀ (x : D × D) (m : List (D × D)), getK (x :: m) k' = if x.1 = k' then some x.2 else getK m k' := fun x m => by
              unfold getK
              rw [List.find?_cons]
              by_cases z : x.1 = k'
              · simp [z]
              · simp [z]
            rw [List.map_cons, e1, e1, ihl]
            by_cases hq : q.1 = k
            · have : ¬ k = k' := fun z => h' z.symm
              simp [hq, this]
            · simp [hq]
        have e1 : ∀ (x : D × D) (m : List (D × D)), getK (x :: m) k' = if x.1 = k' then some x.2 else getK m k' := fun x m => by
          unfold getK
          rw [List.find?_cons]
          by_cases z : x.1 = k'
          · simp [z]
          · simp [z]
        rw [e1, e1, if_neg hn, if_neg hn, hm]
    · rw [if_neg h]
      have e1 : ∀ (x : D × D) (m : List (D × D)), getK (x :: m) k' = if x.1 = k' then some x.2 else getK m k' := fun x m => by
        unfold getK
        rw [List.find?_cons]
        by_cases z : x.1 = k'
        · simp [z]
        · simp [z]
      rw [e1, e1, ih]
      by_cases hp : p.1 = k'
      · have : ¬ k' = k := fun z => h (hp.trans z)
        simp [hp, this]
      · simp [hp]
theorem putD_len {kvs : List (D × D)} {k v : D} : (putD kvs k v).length ≤ kvs.length + 1 := by
  unfold putD
  split <;> simp
def prK (p : Nat × List Bool) : D := .tup [.int ((p.1 : Nat) : Int), sW p.2]
theorem prK_inj {p q : Nat × List Bool} : prK p = prK q ↔ p = q := by
  refine ⟨fun h => ?_, fun h => by rw [h]⟩
  unfold prK sW at h
  simp only [D.tup.injEq, List.cons.injEq, D.int.injEq, D.str.injEq, and_true] at h
  exact Prod.ext (by omega) (wB_inj (W_inj.mp h.2))
theorem prK_ok {p : Nat × List Bool} : nokD (prK p) = true := by
  rfl
structure Cnt (kvs : List (D × D)) (vis : List (Nat × List Bool)) : Prop where
  i : ∀ k r, getK kvs k = some r → ∃ n : Int, r = .int n
  m : ∀ p, (getK kvs (prK p)).isSome = decide (p ∈ vis)
  l : kvs.length ≤ vis.length
theorem Cnt.nil : Cnt [] [] := ⟨fun k r h => by simp [getK] at h, fun p => by simp [getK], Nat.le_refl _⟩
theorem Cnt.add {kvs : List (D × D)} {vis : List (Nat × List Bool)} (h : Cnt kvs vis) (p : Nat × List Bool) (n : Int) : Cnt (putD kvs (prK p) (.int n)) (vis ++ [p]) := by
  refine ⟨fun k r hr => ?_, fun q => ?_, ?_⟩
  · rw [getK_put] at hr
    split at hr
    · cases hr; exact ⟨n, rfl⟩
    · exact h.i k r hr
  · rw [getK_put]
    by_cases e : q = p
    · rw [if_pos (by rw [e]), decide_eq_true (by simp [e])]; rfl
    · rw [if_neg (fun z => e (prK_inj.mp z)), h.m]
      exact decide_eq_decide.mpr (by simp [e])
  · have := putD_len (kvs := kvs) (k := prK p) (v := .int n)
    have := h.l
    rw [List.length_append, List.length_cons, List.length_nil]
    omega
def visT (rows : List (List En)) : Nat → List (List Bool) → List (Nat × List Bool)
  | _, [] => []
  | j, b :: bs => (j, b) :: visT rows (ansAt rows j (nb b)).2 bs
theorem visT_snoc {rows : List (List En)} {b : List Bool} : ∀ (bs : List (List Bool)) (j : Nat), visT rows j (bs ++ [b]) = visT rows j bs ++ [(pend rows j bs, b)]
  | [], j => rfl
  | c :: bs, j => by
    show (j, c) :: visT rows _ (bs ++ [b]) = _
    rw [visT_snoc bs]
    rfl
theorem visT_len {rows : List (List En)} : ∀ (bs : List (List Bool)) (j : Nat), (visT rows j bs).length = bs.length
  | [], _ => rfl
  | c :: bs, j => by
    show (visT rows _ bs).length + 1 = _
    rw [visT_len bs]
    rfl
theorem nb_inj {a b : List Bool} (h : a.length = b.length) (e : nb a = nb b) : a = b := by
  have h1 := allB_nb a
  have h2 := allB_nb b
  rw [← h, ← e] at h2
  rw [h1] at h2
  exact Option.some.inj h2
theorem gone_vis {rows : List (List En)} {ins i : Nat} {b : List Bool} (hb : b.length = ins) : ∀ (t : List (List Bool)) (j : Nat), (∀ c ∈ t, c.length = ins) → (gone rows i (nb b) j t = true ↔ (i, b) ∈ visT rows j t)
  | [], j, _ => by simp [gone, visT]
  | c :: t, j, h => by
    have ih := gone_vis (rows := rows) (i := i) hb t (ansAt rows j (nb c)).2 fun x hx => h x (List.mem_cons_of_mem _ hx)
    show ((_ && _) || _) = true ↔ _ ∈ _ :: _
    rw [Bool.or_eq_true, ih, List.mem_cons, Bool.and_eq_true, decide_eq_true_eq, decide_eq_true_eq]
    refine or_congr_left ⟨fun ⟨z1, z2⟩ => ?_, fun z => ?_⟩
    · rw [z1, nb_inj (a := c) (b := b) (by rw [hb, h c (by simp)]) z2]
    · cases z; exact ⟨rfl, rfl⟩
theorem getN_at {j l : Nat} {fe ff : Sl → Sto → Res D} {sd : Sl} {S : Sto} {kvs : List (D × D)} {k z : D} (hj : sd[j]? = some (some (.ref l))) (hl : S[l]? = some (.dic 2 kvs)) (he : fe sd S = .ok k S) (hf : ff sd S = .ok z S) (hk : nokD k = true) : dDgetN (dVar j) fe ff sd S = .ok ((getK kvs k).getD z) S := by
  unfold dDgetN dVar
  rw [hj]
  simp only [Res.bind, hl, he, hf, hk]
  cases getK kvs k <;> rfl
def RowsAt (x : D) (S : Sto) (ts : List (List (List Bool))) : Prop := ∀ T, ∃ chk : Sto → Bool, itemsD x (S ++ T) = some ⟨ts.map rwT, chk⟩ ∧ ∀ T', chk (S ++ T') = true
theorem rows_frl {ts : List (List (List Bool))} {S : Sto} : RowsAt (.frl (ts.map rwT)) S ts := fun T => ⟨yes, rfl, fun _ => rfl⟩
theorem rows_ref {k : Nat} {ts : List (List (List Bool))} {S : Sto} (h : S[k]? = some (.lst (ts.map rwT))) : RowsAt (.ref k) S ts := fun T => by
  have hk : k < S.length := (List.getElem?_eq_some_iff.mp h).1
  have e : ∀ T' : Sto, (S ++ T')[k]? = some (.lst (ts.map rwT)) := fun T' => by rw [List.getElem?_append_left hk]; exact h
  refine ⟨_, by simp only [itemsD, e]; rfl, fun T' => ?_⟩
  simp only [chkL, e]
  first | rfl | simp
theorem passed_ok {ins outs : Nat} {rows : List (List En)} {ts : List (List (List Bool))} {x : D} {S : Sto} (P : PM ins outs rows) (hx : RowsAt x S ts) (hb : ∀ t ∈ ts, t.length ≤ 1000 ∧ ∀ b ∈ t, b.length = ins) (hz : ts.length ≤ 1000) :
    ∃ kvs, Cnt kvs (ts.flatMap (visT rows 0)) ∧ Fr__law_passed [plD ins outs rows, x] S = .ok (.ref S.length) (S ++ [.dic 2 kvs]) := by
  have main : Wp (dFn 6 br__law_passed [plD ins outs rows, x] S) (fun d S' => ∃ kvs, Cnt kvs (ts.flatMap (visT rows 0)) ∧ d = .ref S.length ∧ S' = S ++ [.dic 2 kvs]) NX := by
    rw [w_dFn]
    unfold br__law_passed
    have la := fun (S : Sto) (i : Nat) (b : List Bool) (hi : i < rows.length) (hb : b.length = ins) => law_at_b (S := S) P hi hb
    generalize plD ins outs rows = PP at la ⊢
    have w0 : ∀ {sd : Sl} {S : Sto} {Q : D → Sto → Prop} {X : Exc → Sto → Prop}, Wp (dDispN0 sd S) Q X = Q (.ref S.length) (S ++ [.dic 2 []]) := fun {sd S Q X} => rfl
    obtain ⟨chk, ei, hch⟩ := hx [.dic 2 []]
    simp only [wq_a, wq_b, wq_c, wq_d, wq_e, wq_f, wq_g, Int.reduceToNat, Int.reduceLE, Int.reduceLT, Int.reduceNeg, startD, List.replicate, Nat.reduceAdd, Nat.reduceSub, Nat.reduceEqDiff, if_true, if_false, Int.reduceEq, Int.reduceAdd, Int.reduceSub, Int.reduceMul, eq_self, w0, ei]
    refine w_loopP rwT (fun pre sd S' => ∃ (kvs : List (D × D)) (a3 a4 a5 : Option D), Cnt kvs (pre.flatMap (visT rows 0)) ∧ S' = S ++ [.dic 2 kvs] ∧ sd = [some PP, some x, some (.ref S.length), a3, a4, a5]) ts (fun _ _ _ _ _ z => by obtain ⟨kvs, _, _, _, _, rfl, _⟩ := z; exact hch _) ⟨_, _, _, _, Cnt.nil, rfl, rfl⟩ ?_ ?_
    · rintro sd S' ⟨kvs, a3, a4, a5, hc, rfl, rfl⟩
      simp only [wq_a, wq_b, wq_c, wq_d, wq_e, wq_f, wq_g, Int.reduceToNat, Int.reduceLE, Int.reduceLT, Int.reduceNeg, startD, List.replicate, Nat.reduceAdd, Nat.reduceSub, Nat.reduceEqDiff, if_true, if_false, Int.reduceEq, Int.reduceAdd, Int.reduceSub, Int.reduceMul, eq_self]
      exact ⟨kvs, hc, by first | rfl | trivial, by first | rfl | trivial⟩
    · rintro pre t post sd S' e ⟨kvs, a3, a4, a5, hc, rfl, rfl⟩
      have ht := hb t (by rw [e]; simp)
      have hpl : (pre.flatMap (visT rows 0)).length ≤ pre.length * 1000 := by
        have hp : ∀ x ∈ pre, x.length ≤ 1000 := fun x hx => (hb x (by rw [e]; simp [hx])).1
        clear hc e
        induction pre with
        | nil => simp
        | cons x pre ih =>
          have := hp x (by simp)
          have := ih fun y hy => hp y (List.mem_cons_of_mem _ hy)
          rw [List.flatMap_cons, List.length_append, visT_len, List.length_cons]
          omega
      have hp1 : pre.length ≤ 1000 := by have := congrArg List.length e; simp at this; omega
      simp only [wq_a, wq_b, wq_c, wq_d, wq_e, wq_f, wq_g, Int.reduceToNat, Int.reduceLE, Int.reduceLT, Int.reduceNeg, startD, List.replicate, Nat.reduceAdd, Nat.reduceSub, Nat.reduceEqDiff, if_true, if_false, Int.reduceEq, Int.reduceAdd, Int.reduceSub, Int.reduceMul, eq_self, itemsD, rwT]
      refine w_loopP sW (fun p sd S' => ∃ (kvs : List (D × D)) (a5 : Option D), Cnt kvs (pre.flatMap (visT rows 0) ++ visT rows 0 p) ∧ S' = S ++ [.dic 2 kvs] ∧ sd = [some PP, some x, some (.ref S.length), some (.frl (t.map sW)), some (.int ((pend rows 0 p : Nat) : Int)), a5]) t (fun _ _ _ _ _ _ => rfl) ⟨_, _, by rw [show visT rows 0 [] = [] from rfl, List.append_nil]; exact hc, rfl, rfl⟩ ?_ ?_
      · rintro sd S' ⟨kvs, a5, hc, rfl, rfl⟩
        exact ⟨kvs, _, _, _, by rw [List.flatMap_append, List.flatMap_cons, List.flatMap_nil, List.append_nil]; exact hc, rfl, rfl⟩
      · rintro p b q sd S' ep ⟨kvs, a5, hc, rfl, rfl⟩
        have hbl := ht.2 b (by rw [ep]; simp)
        have hpe := pend_lt P (bs := p) (i := 0) (by have := P.n1; omega) fun x hx => ht.2 x (by rw [ep]; simp [hx])
        have hpl2 : p.length ≤ 1000 := by have := congrArg List.length ep; simp at this; have := ht.1; omega
        have hl := hc.l
        rw [List.length_append, visT_len] at hl
        have gl : (S ++ [DO.dic 2 kvs])[S.length]? = some (.dic 2 kvs) := get_last
        obtain ⟨n, hn⟩ : ∃ n : Int, (getK kvs (prK (pend rows 0 p, b))).getD (.int 0) = .int n := by
          cases hg : getK kvs (prK (pend rows 0 p, b)) with
          | none => exact ⟨0, rfl⟩
          | some r => exact hc.i _ _ hg
        have hk : nokD (prK (pend rows 0 p, b)) = true := prK_ok
        have eg : dDgetN (dVar 2) (dTup (dCons (dVar 4) (dCons (dVar 5) dNil))) (dC (.int 0)) [some PP, some x, some (.ref S.length), some (.frl (t.map sW)), some (.int ((pend rows 0 p : Nat) : Int)), some (sW b)] (S ++ [.dic 2 kvs]) = .ok (.int n) (S ++ [.dic 2 kvs]) := by
          rw [getN_at (l := S.length) (k := prK (pend rows 0 p, b)) (z := .int 0) rfl gl (by
            apply eq_of_wp
            simp only [wq_a, wq_b, wq_c, wq_d, wq_e, wq_f, wq_g, Int.reduceToNat, Int.reduceLE, Int.reduceLT, Int.reduceNeg, startD, List.replicate, Nat.reduceAdd, Nat.reduceSub, Nat.reduceEqDiff, if_true, if_false, Int.reduceEq, Int.reduceAdd, Int.reduceSub, Int.reduceMul, eq_self]
            exact ⟨by first | rfl | trivial, by first | rfl | trivial⟩) rfl hk, hn]
        simp only [wq_a, wq_b, wq_c, wq_d, wq_e, wq_f, wq_g, Int.reduceToNat, Int.reduceLE, Int.reduceLT, Int.reduceNeg, startD, List.replicate, Nat.reduceAdd, Nat.reduceSub, Nat.reduceEqDiff, if_true, if_false, Int.reduceEq, Int.reduceAdd, Int.reduceSub, Int.reduceMul, eq_self, eg]
        rw [show (.tup [.int ((pend rows 0 p : Nat) : Int), sW b] : D) = prK (pend rows 0 p, b) from rfl, w_setN gl hk (szn (by omega)), set_last]
        simp only [wq_a, wq_b, wq_c, wq_d, wq_e, wq_f, wq_g, Int.reduceToNat, Int.reduceLE, Int.reduceLT, Int.reduceNeg, startD, List.replicate, Nat.reduceAdd, Nat.reduceSub, Nat.reduceEqDiff, if_true, if_false, Int.reduceEq, Int.reduceAdd, Int.reduceSub, Int.reduceMul, eq_self, la _ _ _ hpe hbl, enD]
        refine ⟨_, _, ?_, rfl, by rw [pend_snoc]⟩
        rw [visT_snoc, ← List.append_assoc]
        exact hc.add _ _
  obtain ⟨d, S', e, kvs, hc, rfl, rfl⟩ := Wp.ok main
  refine ⟨kvs, hc, ?_⟩
  unfold Fr__law_passed
  refine fn_newD ?_
  rw [w_dFn] at main
  have : dFn 6 br__law_passed [plD ins outs rows, x] S = .ok (.ref S.length) (S ++ [.dic 2 kvs]) := e
  have m2 : Wp (dFn 6 br__law_passed [plD ins outs rows, x] S) (fun d S' => d = .ref S.length ∧ S' = S ++ [.dic 2 kvs]) NX := by rw [e]; exact ⟨rfl, rfl⟩
  rw [w_dFn] at m2
  exact m2

end Lw

namespace Lw
open PySem PySem.Spec PyProof.Rows L2 DL
def wrL (ins : Nat) (w : Wr) : D := .tup [.int ((w.1.1 : Nat) : Int), sW ((allB ins).getD w.1.2 []), oD w.2]
theorem goneA_vis {rows : List (List En)} {ins i k : Nat} {ts : List (List (List Bool))} (hk : k < 2 ^ ins) (hb : ∀ t ∈ ts, ∀ b ∈ t, b.length = ins) : decide ((i, (allB ins).getD k []) ∈ ts.flatMap (visT rows 0)) = goneA rows i k ts := by
  have hl : ((allB ins).getD k []).length = ins := by
    have hm : (allB ins).getD k [] ∈ allB ins := by
      rw [List.getD_eq_getElem?_getD, List.getElem?_eq_getElem (by rw [allB_many]; exact hk)]
      exact List.getElem_mem _
    exact allB_len ins _ hm
  have hn := nb_of hk
  have key : ∀ t ∈ ts, (gone rows i k 0 t = true ↔ (i, (allB ins).getD k []) ∈ visT rows 0 t) := fun t ht => by
    have := gone_vis (rows := rows) (i := i) hl t 0 (hb t ht)
    rw [hn] at this
    exact this
  rw [Bool.eq_iff_iff, decide_eq_true_eq, List.mem_flatMap]
  unfold goneA
  rw [List.any_eq_true]
  exact ⟨fun ⟨t, ht, h⟩ => ⟨t, ht, (key t ht).mpr h⟩, fun ⟨t, ht, h⟩ => ⟨t, ht, (key t ht).mp h⟩⟩
theorem law_finds_ok {ins outs : Nat} {rows : List (List En)} {ts : List (List (List Bool))} {x : D} {w : Wr} {S : Sto} (P : PM ins outs rows) (hx : RowsAt x S ts) (hb : ∀ t ∈ ts, t.length ≤ 1000 ∧ ∀ b ∈ t, b.length = ins) (hz : ts.length ≤ 1000)
    (hi : w.1.1 < rows.length) (hk : w.1.2 < 2 ^ ins) (ho : ∀ o, w.2 = some o → o < rows.length) : F__law_finds [plD ins outs rows, x, wrL ins w] S = .ok (.bl (fnd rows ts w)) S := by
  obtain ⟨⟨i, k⟩, o⟩ := w
  unfold F__law_finds
  refine fn_ok rfl ?_
  unfold b__law_finds
  have gt : ∀ {sd : Sl} {S : Sto} {Q : Sl → Sto → Prop} {X : Exc → Sto → Prop} {q : List D → Sl → Sto → Res Sl}, Wp (gTupD 3 q (wrL ins ((i, k), o)) sd S) Q X = Wp (q [.int ((i : Nat) : Int), sW ((allB ins).getD k []), oD o] sd S) Q X := fun {sd S Q X q} => rfl
  simp only [wq_a, wq_b, wq_c, wq_d, wq_e, wq_f, wq_g, Int.reduceToNat, Int.reduceLE, Int.reduceLT, Int.reduceNeg, startD, List.replicate, Nat.reduceAdd, Nat.reduceSub, Nat.reduceEqDiff, if_true, if_false, Int.reduceEq, Int.reduceAdd, Int.reduceSub, Int.reduceMul, eq_self, gt]
  have hb1 : ∀ t ∈ ts, ∀ b ∈ t, b.length = ins := fun t ht => (hb t ht).2
  cases o with
  | none =>
    obtain ⟨kvs, hc, ep⟩ := passed_ok (S := S) P hx hb hz
    simp only [oD, wq_a, wq_b, wq_c, wq_d, wq_e, wq_f, wq_g, Int.reduceToNat, Int.reduceLE, Int.reduceLT, Int.reduceNeg, startD, List.replicate, Nat.reduceAdd, Nat.reduceSub, Nat.reduceEqDiff, if_true, if_false, Int.reduceEq, Int.reduceAdd, Int.reduceSub, Int.reduceMul, eq_self, ep]
    have e : inDicN (.tup [.int ((i : Nat) : Int), sW ((allB ins).getD k [])]) (.ref S.length) (S ++ [.dic 2 kvs]) = .ok (.bl (goneA rows i k ts)) (S ++ [.dic 2 kvs]) := by
      unfold inDicN
      rw [show (.tup [.int ((i : Nat) : Int), sW ((allB ins).getD k [])] : D) = prK (i, (allB ins).getD k []) from rfl, dicN_at get_last prK_ok]
      show Res.ok (D.bl (getK kvs (prK (i, (allB ins).getD k []))).isSome) _ = _
      rw [hc.m, goneA_vis hk hb1]
    simp only [e, wq_a, wq_b, wq_c, wq_d, wq_e, wq_f, wq_g, Int.reduceToNat, Int.reduceLE, Int.reduceLT, Int.reduceNeg, startD, List.replicate, Nat.reduceAdd, Nat.reduceSub, Nat.reduceEqDiff, if_true, if_false, Int.reduceEq, Int.reduceAdd, Int.reduceSub, Int.reduceMul, eq_self]
    exact ⟨rfl, _, rfl⟩
  | some o =>
    have ho := ho o rfl
    have P2 := chg_pm (i := i) (k := k) P hi hk ho
    simp only [oD, wq_a, wq_b, wq_c, wq_d, wq_e, wq_f, wq_g, Int.reduceToNat, Int.reduceLE, Int.reduceLT, Int.reduceNeg, startD, List.replicate, Nat.reduceAdd, Nat.reduceSub, Nat.reduceEqDiff, if_true, if_false, Int.reduceEq, Int.reduceAdd, Int.reduceSub, Int.reduceMul, eq_self, law_changed_ok P hi hk]
    have d1 := fun (S : Sto) (t : List (List Bool)) (ht : t ∈ ts) => law_deeds_ok (S := S) P (hb1 t ht) (by have := (hb t ht).1; omega)
    have d2 := fun (S : Sto) (t : List (List Bool)) (ht : t ∈ ts) => law_deeds_ok (S := S) P2 (hb1 t ht) (by have := (hb t ht).1; omega)
    generalize plD ins outs rows = PP at d1 ⊢
    generalize plD ins outs (chg rows i k o) = P2' at d2 ⊢
    have hc : ∀ {a0 a5 : Option D}, dFrz (dComp [7] (iVal (dVar 1)) (gVar 7) (d2T neD (dCallF 2 F__law_deeds (dCons (dVar 0) (dCons (dVar 7) dNil))) (dCallF 2 F__law_deeds (dCons (dVar 3) (dCons (dVar 7) dNil)))) (dVar 7)) [some PP, some x, a0, some P2', some (.int ((i : Nat) : Int)), a5, some (.int ((o : Nat) : Int)), none] S = .ok (.frl ((ts.filter fun t => !decide (prun rows 0 t = prun (chg rows i k o) 0 t)).map rwT)) S := fun {a0 a5} => by
      refine compF ts rwT (fun t => !decide (prun rows 0 t = prun (chg rows i k o) 0 t)) _ ?_ (Nat.le_trans (List.length_filter_le _ _) (szn (by omega))) ?_ ?_
      · obtain ⟨chk, ei, hch⟩ := hx []
        rw [List.append_nil] at ei
        simp only [wq_a, wq_b, wq_c, wq_d, wq_e, wq_f, wq_g, Int.reduceToNat, Int.reduceLE, Int.reduceLT, Int.reduceNeg, startD, List.replicate, Nat.reduceAdd, Nat.reduceSub, Nat.reduceEqDiff, if_true, if_false, Int.reduceEq, Int.reduceAdd, Int.reduceSub, Int.reduceMul, eq_self, ei]
        refine ⟨trivial, trivial, fun S' hg => ?_⟩
        obtain ⟨T, rfl⟩ := hg
        exact hch T
      · intro t ht S' _
        have e1 := fun S => d1 S t ht
        have e2 := fun S => d2 S t ht
        rw [show (.frl (t.map sW) : D) = rwT t from rfl] at e1 e2
        simp only [wq_a, wq_b, wq_c, wq_d, wq_e, wq_f, wq_g, Int.reduceToNat, Int.reduceLE, Int.reduceLT, Int.reduceNeg, startD, List.replicate, Nat.reduceAdd, Nat.reduceSub, Nat.reduceEqDiff, if_true, if_false, Int.reduceEq, Int.reduceAdd, Int.reduceSub, Int.reduceMul, eq_self, wipeD, e1, e2, w_neW]
        exact ⟨trivial, trivial, trivial, fun _ => ⟨trivial, trivial⟩⟩
      · intro t _ _
        exact sWs_blw
    simp only [hc, wq_a, wq_b, wq_c, wq_d, wq_e, wq_f, wq_g, Int.reduceToNat, Int.reduceLE, Int.reduceLT, Int.reduceNeg, startD, List.replicate, Nat.reduceAdd, Nat.reduceSub, Nat.reduceEqDiff, if_true, if_false, Int.reduceEq, Int.reduceAdd, Int.reduceSub, Int.reduceMul, eq_self]
    rw [w_neNil (n := 1) fun a _ => rwT_gd a]
    simp only [wq_a, wq_b, wq_c, wq_d, wq_e, wq_f, wq_g, Int.reduceToNat, Int.reduceLE, Int.reduceLT, Int.reduceNeg, startD, List.replicate, Nat.reduceAdd, Nat.reduceSub, Nat.reduceEqDiff, if_true, if_false, Int.reduceEq, Int.reduceAdd, Int.reduceSub, Int.reduceMul, eq_self]
    exact ⟨by first | rfl | trivial, app_nil S⟩

end Lw

namespace Lw
open PySem PySem.Spec PyProof.Rows L2 DL
def srtN (l : List Nat) : List Nat := l.mergeSort fun a b => PySem.W.dataLe false pd (nI a) (nI b)
theorem srtN_perm (l : List Nat) : (srtN l).Perm l := List.mergeSort_perm _ _
theorem nI_srtL {l : List Nat} : srtL (l.map nI) = (srtN l).map nI := (PySem.W.sort_maps (r := fun a b => PySem.W.dataLe false pd (nI a) (nI b)) (s := PySem.W.dataLe false pd) nI (fun _ _ _ _ => rfl)).symm
theorem nI_ok {l : List Nat} {S : Sto} : srtOk S (l.map nI) := by
  refine ⟨fun d hd => ?_, ?_, ?_⟩
  · obtain ⟨s, _, rfl⟩ := List.mem_map.mp hd
    have g : GD 0 (nI s) := gd_int
    exact ⟨gd_toP g (by decide), Nat.le_trans (gd_lay g).2 (by decide)⟩
  · rw [List.map_map]
    refine PySem.W.AllAlike.of fun a b => ?_
    show PySem.W.alike (.int _) (.int _) = true
    simp [PySem.W.alike]
  · rw [List.map_map]
    refine PySem.W.Sortable.others fun s => ?_
    show PyData.int _ ≠ PyData.none ∧ ∀ xs, PyData.int _ ≠ PyData.tuple xs
    exact ⟨nofun, nofun⟩
theorem finding_ok {ins outs i k o : Nat} {rows : List (List En)} {S : Sto} (P : PM ins outs rows) (hi : i < rows.length) (hk : k < 2 ^ ins) (ho : o < rows.length) : F_finding [plD ins outs rows, wrD ((i, k), some o)] S = .ok (btwD (Rb ins rows (chg rows i k o) 0 0)) S := by
  have P2 := chg_pm (i := i) (k := k) P hi hk ho
  have h0 : 0 < rows.length := by omega
  unfold F_finding
  refine fn_ok (btwD_blw _) ?_
  unfold b_finding
  have gt : ∀ {sd : Sl} {S : Sto} {Q : Sl → Sto → Prop} {X : Exc → Sto → Prop} {q : List D → Sl → Sto → Res Sl}, Wp (gTupD 3 q (wrD ((i, k), some o)) sd S) Q X = Wp (q [.int ((i : Nat) : Int), .int ((k : Nat) : Int), .int ((o : Nat) : Int)] sd S) Q X := fun {sd S Q X q} => rfl
  have x0 : ∀ {S : Sto}, Wp (ixD (plD ins outs rows) (.int 0) S) = Wp (.ok (.int ((ins : Nat) : Int)) S) := rfl
  have x2 : ∀ {rows : List (List En)} {S : Sto}, Wp (ixD (plD ins outs rows) (.int 2) S) = Wp (.ok (.tup (rows.map rowD)) S) := rfl
  simp only [wq_a, wq_b, wq_c, wq_d, wq_e, wq_f, wq_g, Int.reduceToNat, Int.reduceLE, Int.reduceLT, Int.reduceNeg, startD, List.replicate, Nat.reduceAdd, Nat.reduceSub, Nat.reduceEqDiff, if_true, if_false, Int.reduceEq, Int.reduceAdd, Int.reduceSub, Int.reduceMul, eq_self, gt, x0, x2, changed_ok P hi hk]
  have rb : ∀ S, F_row_between [.int ((ins : Nat) : Int), .tup (rows.map rowD), .tup ((chg rows i k o).map rowD), .int 0, .int 0] S = .ok (btwD (Rb ins rows (chg rows i k o) 0 0)) S := fun S => by
    cases hr : Rb ins rows (chg rows i k o) 0 0 with
    | none => exact rowb_none (S := S) P P2 h0 (by rw [chg_len]; exact h0) hr
    | some r => exact rowb_some (S := S) P P2 h0 (by rw [chg_len]; exact h0) hr
  simp only [rb, wq_a, wq_b, wq_c, wq_d, wq_e, wq_f, wq_g, Int.reduceToNat, Int.reduceLE, Int.reduceLT, Int.reduceNeg, startD, List.replicate, Nat.reduceAdd, Nat.reduceSub, Nat.reduceEqDiff, if_true, if_false, Int.reduceEq, Int.reduceAdd, Int.reduceSub, Int.reduceMul, eq_self]
  exact ⟨by first | rfl | trivial, app_nil S⟩
def wrsO (ins : Nat) (rows : List (List En)) (i k : Nat) (os : List Nat) : List Wr := (os.filter fun o => !decide (o = (ansAt rows i k).2) && (Rb ins rows (chg rows i k o) 0 0).isSome).map fun o => ((i, k), some o)
def wrsK (ins : Nat) (rows : List (List En)) (i k : Nat) : List Wr := ((i, k), none) :: wrsO ins rows i k (List.range rows.length)
def wrsI (ins : Nat) (rows : List (List En)) (i : Nat) : List Wr := (List.range (2 ^ ins)).flatMap (wrsK ins rows i)
def allW (ins : Nat) (rows : List (List En)) : List Wr := (srtN (metL rows)).flatMap (wrsI ins rows)
theorem wrsO_len {ins i k : Nat} {rows : List (List En)} {os : List Nat} : (wrsO ins rows i k os).length ≤ os.length := by
  unfold wrsO
  rw [List.length_map]
  exact List.length_filter_le _ _
theorem flat_len {α β : Type} {f : α → List β} {n : Nat} : ∀ {l : List α}, (∀ x ∈ l, (f x).length ≤ n) → (l.flatMap f).length ≤ l.length * n
  | [], _ => by simp
  | x :: l, h => by
    have a := h x (by simp)
    have b := flat_len (f := f) (l := l) fun y hy => h y (List.mem_cons_of_mem _ hy)
    rw [List.flatMap_cons, List.length_append, List.length_cons, Nat.add_mul]
    omega
theorem wrD_gd (w : Wr) : GD 1 (wrD w) := gd_tup fun d hd => by
  have : d = .int ((w.1.1 : Nat) : Int) ∨ d = .int ((w.1.2 : Nat) : Int) ∨ d = oD w.2 := by simpa using hd
  rcases this with rfl | rfl | rfl
  · exact gd_int
  · exact gd_int
  · cases w.2 with
    | none => exact gd_non
    | some o => exact gd_int

end Lw

namespace Lw
open PySem PySem.Spec PyProof.Rows L2 DL
theorem wrsO_snoc {ins i k o : Nat} {rows : List (List En)} : wrsO ins rows i k (List.range (o + 1)) = wrsO ins rows i k (List.range o) ++ (if (!decide (o = (ansAt rows i k).2) && (Rb ins rows (chg rows i k o) 0 0).isSome) = true then [((i, k), some o)] else []) := by
  unfold wrsO
  rw [List.range_succ, List.filter_append, List.map_append]
  congr 1
  rw [List.filter_cons]
  split <;> rfl
theorem wrsK_len {ins i k : Nat} {rows : List (List En)} (hn : rows.length ≤ 16) : (wrsK ins rows i k).length ≤ 17 := by
  unfold wrsK
  rw [List.length_cons]
  have := wrsO_len (ins := ins) (i := i) (k := k) (rows := rows) (os := List.range rows.length)
  rw [List.length_range] at this
  omega
theorem wrsI_len {ins i : Nat} {rows : List (List En)} (hn : rows.length ≤ 16) {ks : List Nat} (hk : ks.length ≤ 16) : (ks.flatMap (wrsK ins rows i)).length ≤ 272 := by
  have := flat_len (f := wrsK ins rows i) (n := 17) (l := ks) fun k _ => wrsK_len hn
  omega
theorem all_wrong_ok {ins outs : Nat} {rows : List (List En)} {S : Sto} (P : PM ins outs rows) (hn : rows.length ≤ 16) : F_all_wrong [plD ins outs rows] S = .ok (.frl ((allW ins rows).map wrD)) S := by
  have i4 := P.i4
  have p16 := pow_le i4
  have hmm := metL_met P.nxt P.n1
  unfold F_all_wrong
  refine fn_ok (gd_blw (n := 2) _ (gd_frl (gd_map fun w _ => wrD_gd w))) ?_
  unfold b_all_wrong
  have x2 : ∀ {S : Sto}, Wp (ixD (plD ins outs rows) (.int 2) S) = Wp (.ok (.tup (rows.map rowD)) S) := rfl
  have mf := fun S : Sto => met_from_ok (S := S) P
  have fi := fun (S : Sto) (i k o : Nat) (hi : i < rows.length) (hk : k < 2 ^ ins) (ho : o < rows.length) => finding_ok (S := S) P hi hk ho
  generalize plD ins outs rows = PP at x2 fi ⊢
  have sf : ∀ S : Sto, sortF [.frl ((metL rows).map nI)] S = .ok (.frl ((srtN (metL rows)).map nI)) S := fun S => by
    unfold sortF
    simp only [lsD]
    rw [if_pos nI_ok, nI_srtL]
  have hsm : ∀ r ∈ srtN (metL rows), r < rows.length := fun r hr => hmm.lt r ((srtN_perm _).mem_iff.mp hr)
  have hsl : (srtN (metL rows)).length ≤ 16 := by rw [(srtN_perm _).length_eq]; have := hmm.le; omega
  simp only [wq_a, wq_b, wq_c, wq_d, wq_e, wq_f, wq_g, Int.reduceToNat, Int.reduceLE, Int.reduceLT, Int.reduceNeg, startD, List.replicate, Nat.reduceAdd, Nat.reduceSub, Nat.reduceEqDiff, if_true, if_false, Int.reduceEq, Int.reduceAdd, Int.reduceSub, Int.reduceMul, eq_self, x2, mf, sf, itemsD]
  refine w_loopP nI (fun pre sd S' => ∃ (a2 a3 a4 : Option D), S' = S ++ [.lst ((pre.flatMap (wrsI ins rows)).map wrD)] ∧ sd = [some PP, some (.ref S.length), a2, a3, a4]) (srtN (metL rows)) (fun _ _ _ _ _ _ => rfl) ⟨_, _, _, rfl, rfl⟩ ?_ ?_
  · rintro sd S' ⟨a2, a3, a4, rfl, rfl⟩
    simp only [wq_a, wq_b, wq_c, wq_d, wq_e, wq_f, wq_g, Int.reduceToNat, Int.reduceLE, Int.reduceLT, Int.reduceNeg, startD, List.replicate, Nat.reduceAdd, Nat.reduceSub, Nat.reduceEqDiff, if_true, if_false, Int.reduceEq, Int.reduceAdd, Int.reduceSub, Int.reduceMul, eq_self, w_dFrz]
    rw [frz_at (get_mid rfl)]
    exact ⟨rfl, [.dead], by rw [set_mid rfl]⟩
  · rintro pre i post sd S' e ⟨a2, a3, a4, rfl, rfl⟩
    have hi := hsm i (by rw [e]; simp)
    have hpl : pre.length ≤ 16 := by have := congrArg List.length e; simp at this; omega
    have hw1 := flat_len (f := wrsI ins rows) (n := 272) (l := pre) fun x _ => wrsI_len hn (by rw [List.length_range]; exact p16)
    have hrl : (rowAt rows i).length = 2 ^ ins := P.len _ (row_mem hi)
    have ln : ∀ {S : Sto} {Q : D → Sto → Prop} {X : Exc → Sto → Prop}, Wp (lenD [rowD (rowAt rows i)] S) Q X = Q (.int ((2 ^ ins : Nat) : Int)) S := fun {S Q X} => by
      show Q (.int ((((rowAt rows i).map enD).length : Nat) : Int)) S = _
      rw [List.length_map, hrl]
    have ln2 : ∀ {S : Sto} {Q : D → Sto → Prop} {X : Exc → Sto → Prop}, Wp (lenD [.tup (rows.map rowD)] S) Q X = Q (.int ((rows.length : Nat) : Int)) S := fun {S Q X} => by
      show Q (.int (((rows.map rowD).length : Nat) : Int)) S = _
      rw [List.length_map]
    simp only [wq_a, wq_b, wq_c, wq_d, wq_e, wq_f, wq_g, Int.reduceToNat, Int.reduceLE, Int.reduceLT, Int.reduceNeg, startD, List.replicate, Nat.reduceAdd, Nat.reduceSub, Nat.reduceEqDiff, if_true, if_false, Int.reduceEq, Int.reduceAdd, Int.reduceSub, Int.reduceMul, eq_self, x2, nI]
    rw [at_row hi]
    simp only [wq_a, wq_b, wq_c, wq_d, wq_e, wq_f, wq_g, Int.reduceToNat, Int.reduceLE, Int.reduceLT, Int.reduceNeg, startD, List.replicate, Nat.reduceAdd, Nat.reduceSub, Nat.reduceEqDiff, if_true, if_false, Int.reduceEq, Int.reduceAdd, Int.reduceSub, Int.reduceMul, eq_self, ln]
    rw [zm (rng_okI (by omega) (by omega)), Int.toNat_natCast]
    simp only [wq_a, wq_b, wq_c, wq_d, wq_e, wq_f, wq_g, Int.reduceToNat, Int.reduceLE, Int.reduceLT, Int.reduceNeg, startD, List.replicate, Nat.reduceAdd, Nat.reduceSub, Nat.reduceEqDiff, if_true, if_false, Int.reduceEq, Int.reduceAdd, Int.reduceSub, Int.reduceMul, eq_self]
    refine w_rangeP (fun k sd S' => ∃ (a3 a4 : Option D), S' = S ++ [.lst ((pre.flatMap (wrsI ins rows) ++ (List.range k).flatMap (wrsK ins rows i)).map wrD)] ∧ sd = [some PP, some (.ref S.length), some (.int ((i : Nat) : Int)), a3, a4]) 0 (2 ^ ins) (fun _ _ _ _ _ => rfl) ⟨_, _, by simp, rfl⟩ ?_ ?_
    · rintro sd S' ⟨a3, a4, rfl, rfl⟩
      refine ⟨_, _, _, ?_, rfl⟩
      rw [List.flatMap_append, List.flatMap_cons, List.flatMap_nil, List.append_nil]
      rfl
    · rintro k sd S' hk ⟨a3, a4, rfl, rfl⟩
      have hw2 := wrsI_len (ins := ins) (i := i) hn (ks := List.range k) (by rw [List.length_range]; omega)
      simp only [wq_a, wq_b, wq_c, wq_d, wq_e, wq_f, wq_g, Int.reduceToNat, Int.reduceLE, Int.reduceLT, Int.reduceNeg, startD, List.replicate, Nat.reduceAdd, Nat.reduceSub, Nat.reduceEqDiff, if_true, if_false, Int.reduceEq, Int.reduceAdd, Int.reduceSub, Int.reduceMul, eq_self, Int.zero_add]
      rw [zm (isTy_lst get_last)]
      simp only [wq_a, wq_b, wq_c, wq_d, wq_e, wq_f, wq_g, Int.reduceToNat, Int.reduceLE, Int.reduceLT, Int.reduceNeg, startD, List.replicate, Nat.reduceAdd, Nat.reduceSub, Nat.reduceEqDiff, if_true, if_false, Int.reduceEq, Int.reduceAdd, Int.reduceSub, Int.reduceMul, eq_self]
      rw [w_appL get_last (by rw [sizeLine_eq, List.length_map, List.length_append]; omega), set_last]
      simp only [wq_a, wq_b, wq_c, wq_d, wq_e, wq_f, wq_g, Int.reduceToNat, Int.reduceLE, Int.reduceLT, Int.reduceNeg, startD, List.replicate, Nat.reduceAdd, Nat.reduceSub, Nat.reduceEqDiff, if_true, if_false, Int.reduceEq, Int.reduceAdd, Int.reduceSub, Int.reduceMul, eq_self, x2, ln2]
      rw [zm (rng_okI (by omega) (by omega)), Int.toNat_natCast]
      simp only [wq_a, wq_b, wq_c, wq_d, wq_e, wq_f, wq_g, Int.reduceToNat, Int.reduceLE, Int.reduceLT, Int.reduceNeg, startD, List.replicate, Nat.reduceAdd, Nat.reduceSub, Nat.reduceEqDiff, if_true, if_false, Int.reduceEq, Int.reduceAdd, Int.reduceSub, Int.reduceMul, eq_self]
      refine w_rangeP (fun n sd S' => ∃ (a4 : Option D), S' = S ++ [.lst ((pre.flatMap (wrsI ins rows) ++ (List.range k).flatMap (wrsK ins rows i) ++ ((i, k), none) :: wrsO ins rows i k (List.range n)).map wrD)] ∧ sd = [some PP, some (.ref S.length), some (.int ((i : Nat) : Int)), some (.int ((k : Nat) : Int)), a4]) 0 rows.length (fun _ _ _ _ _ => rfl) ⟨_, ?_, rfl⟩ ?_ ?_
      · simp only [List.map_append]
        rfl
      · rintro sd S' ⟨a4, rfl, rfl⟩
        refine ⟨_, _, ?_, rfl⟩
        rw [List.range_succ, List.flatMap_append, List.flatMap_cons, List.flatMap_nil, List.append_nil, List.append_assoc]
        rfl
      · rintro o sd S' ho ⟨a4, rfl, rfl⟩
        have hw3 := wrsO_len (ins := ins) (i := i) (k := k) (rows := rows) (os := List.range o)
        rw [List.length_range] at hw3
        simp only [wq_a, wq_b, wq_c, wq_d, wq_e, wq_f, wq_g, Int.reduceToNat, Int.reduceLE, Int.reduceLT, Int.reduceNeg, startD, List.replicate, Nat.reduceAdd, Nat.reduceSub, Nat.reduceEqDiff, if_true, if_false, Int.reduceEq, Int.reduceAdd, Int.reduceSub, Int.reduceMul, eq_self, Int.zero_add, x2]
        rw [at_row hi]
        simp only [wq_a, wq_b, wq_c, wq_d, wq_e, wq_f, wq_g, Int.reduceToNat, Int.reduceLE, Int.reduceLT, Int.reduceNeg, startD, List.replicate, Nat.reduceAdd, Nat.reduceSub, Nat.reduceEqDiff, if_true, if_false, Int.reduceEq, Int.reduceAdd, Int.reduceSub, Int.reduceMul, eq_self, rowD]
        rw [at_ans (by rw [hrl]; exact hk)]
        simp only [wq_a, wq_b, wq_c, wq_d, wq_e, wq_f, wq_g, Int.reduceToNat, Int.reduceLE, Int.reduceLT, Int.reduceNeg, startD, List.replicate, Nat.reduceAdd, Nat.reduceSub, Nat.reduceEqDiff, if_true, if_false, Int.reduceEq, Int.reduceAdd, Int.reduceSub, Int.reduceMul, eq_self, enD]
        have ff : ∀ S : Sto, F_finding [PP, .tup [.int ((i : Nat) : Int), .int ((k : Nat) : Int), .int ((o : Nat) : Int)]] S = .ok (btwD (Rb ins rows (chg rows i k o) 0 0)) S := fun S => fi S i k o hi hk ho
        by_cases hq : o = (ansAt rows i k).2
        · rw [if_neg (by rw [decide_eq_true (by omega)]; simp)]
          simp only [wq_a, wq_b, wq_c, wq_d, wq_e, wq_f, wq_g, Int.reduceToNat, Int.reduceLE, Int.reduceLT, Int.reduceNeg, startD, List.replicate, Nat.reduceAdd, Nat.reduceSub, Nat.reduceEqDiff, if_true, if_false, Int.reduceEq, Int.reduceAdd, Int.reduceSub, Int.reduceMul, eq_self]
          refine ⟨_, ?_, rfl⟩
          rw [wrsO_snoc, if_neg (by rw [decide_eq_true hq]; simp), List.append_nil]
        · rw [if_pos (by rw [decide_eq_false (by omega)]; rfl)]
          simp only [wq_a, wq_b, wq_c, wq_d, wq_e, wq_f, wq_g, Int.reduceToNat, Int.reduceLE, Int.reduceLT, Int.reduceNeg, startD, List.replicate, Nat.reduceAdd, Nat.reduceSub, Nat.reduceEqDiff, if_true, if_false, Int.reduceEq, Int.reduceAdd, Int.reduceSub, Int.reduceMul, eq_self, ff]
          cases hr : Rb ins rows (chg rows i k o) 0 0 with
          | none =>
            simp only [btwD, wq_a, wq_b, wq_c, wq_d, wq_e, wq_f, wq_g, Int.reduceToNat, Int.reduceLE, Int.reduceLT, Int.reduceNeg, startD, List.replicate, Nat.reduceAdd, Nat.reduceSub, Nat.reduceEqDiff, if_true, if_false, Int.reduceEq, Int.reduceAdd, Int.reduceSub, Int.reduceMul, eq_self]
            refine ⟨_, ?_, rfl⟩
            rw [wrsO_snoc, hr, if_neg (by simp), List.append_nil]
          | some r =>
            simp only [btwD, wq_a, wq_b, wq_c, wq_d, wq_e, wq_f, wq_g, Int.reduceToNat, Int.reduceLE, Int.reduceLT, Int.reduceNeg, startD, List.replicate, Nat.reduceAdd, Nat.reduceSub, Nat.reduceEqDiff, if_true, if_false, Int.reduceEq, Int.reduceAdd, Int.reduceSub, Int.reduceMul, eq_self]
            rw [zm (isTy_lst get_last)]
            simp only [wq_a, wq_b, wq_c, wq_d, wq_e, wq_f, wq_g, Int.reduceToNat, Int.reduceLE, Int.reduceLT, Int.reduceNeg, startD, List.replicate, Nat.reduceAdd, Nat.reduceSub, Nat.reduceEqDiff, if_true, if_false, Int.reduceEq, Int.reduceAdd, Int.reduceSub, Int.reduceMul, eq_self]
            rw [w_appL get_last (by rw [sizeLine_eq, List.length_map, List.length_append, List.length_append, List.length_cons]; omega), set_last]
            refine ⟨_, ?_, rfl⟩
            rw [wrsO_snoc, hr, if_pos (by rw [decide_eq_false hq]; rfl)]
            simp only [List.map_append, List.map_cons, List.append_assoc, List.cons_append]
            rfl

end Lw

namespace Lw
open PySem PySem.Spec PyProof.Rows L2 DL
theorem need_few6 {ins outs : Nat} {rows : List (List En)} {S : Sto} (P : PM ins outs rows) (h : rows.length ≤ 6) : F_need_few [plD ins outs rows, .int 6] S = .ok .non S := by
  unfold F_need_few
  refine fn_ok rfl ?_
  unfold b_need_few
  have c : ¬ (6 : Int) < ((rows.length : Nat) : Int) := by omega
  have ix2p : ∀ {S : Sto}, ixD (plD ins outs rows) (.int 2) S = .ok (.tup (rows.map rowD)) S := rfl
  simp only [z6, z5, wq_a, wq_b, wq_c, wq_d, wq_e, wq_f, wq_g, Int.reduceToNat, Int.reduceLE, Int.reduceLT, Int.reduceNeg, startD, List.replicate, Nat.reduceAdd, Nat.reduceSub, Nat.reduceEqDiff, if_true, if_false, Int.reduceEq, Int.reduceAdd, Int.reduceSub, Int.reduceMul, eq_self, need_plain_ok P, ix2p, List.length_map, decide_eq_false c]
  exact ⟨trivial, app_nil S⟩
def wdD (w : List Nat) : D := .str (W w)
def wdsD (t : List (List Nat)) : D := .frl (t.map wdD)
theorem rwT_wds (t : List (List Bool)) : rwT t = wdsD (t.map wB) := by
  unfold rwT wdsD
  rw [List.map_map]
  rfl
def okW (ins : Nat) (w : List Nat) : Bool := isWord w ((ins : Nat) : Int) b01
theorem tests_comp {ins outs : Nat} {rows : List (List En)} {t : List (List Nat)} {a1 a2 a4 : Option D} {S : Sto} (ht : ∀ w ∈ t, Wok w ∧ w.length ≤ 1000) (hl : t.length ≤ 1000) :
    dFrz (dComp [4] (iVal (dVar 3)) (gVar 4) (tNotD (tstB (dCallF 3 F_is_word (dCons (dVar 4) (dCons (d2 ixD (dVar 0) (dC (.int 0))) (dCons (dC (.str "01")) dNil)))))) (dVar 4)) [some (plD ins outs rows), a1, a2, some (wdsD t), a4] S = .ok (.frl ((t.filter fun w => !okW ins w).map wdD)) S := by
  have x0 : ∀ {S : Sto}, Wp (ixD (plD ins outs rows) (.int 0) S) = Wp (.ok (.int ((ins : Nat) : Int)) S) := rfl
  refine compF t wdD (fun w => !okW ins w) _ ?_ (Nat.le_trans (List.length_filter_le _ _) (szn (by omega))) ?_ ?_
  · simp only [wq_a, wq_b, wq_c, wq_d, wq_e, wq_f, wq_g, Int.reduceToNat, Int.reduceLE, Int.reduceLT, Int.reduceNeg, startD, List.replicate, Nat.reduceAdd, Nat.reduceSub, Nat.reduceEqDiff, if_true, if_false, Int.reduceEq, Int.reduceAdd, Int.reduceSub, Int.reduceMul, eq_self, itemsD, wdsD]
    exact ⟨trivial, trivial, fun _ _ => rfl⟩
  · intro w hw S' _
    obtain ⟨h1, h2⟩ := ht w hw
    have iw := fun S : Sto => is_word_ok (signs := [48, 49]) (many := ((ins : Nat) : Int)) (S := S) h1 (w := w) (by omega)
    simp only [wq_a, wq_b, wq_c, wq_d, wq_e, wq_f, wq_g, Int.reduceToNat, Int.reduceLE, Int.reduceLT, Int.reduceNeg, startD, List.replicate, Nat.reduceAdd, Nat.reduceSub, Nat.reduceEqDiff, if_true, if_false, Int.reduceEq, Int.reduceAdd, Int.reduceSub, Int.reduceMul, eq_self, wipeD, x0, wdD, W_01, iw]
    refine ⟨trivial, trivial, ?_, fun _ => ⟨trivial, trivial⟩⟩
    first | rfl | trivial
  · intro w hw _
    rfl
theorem wdD_gd {t : List (List Nat)} (ht : ∀ w ∈ t, Wok w) : ∀ w ∈ t, GD 0 (wdD w) := fun w hw => gd_W (ht w hw)
theorem need_tests_ok {ins outs : Nat} {rows : List (List En)} {ts : List (List (List Nat))} {S : Sto} (P : PM ins outs rows) (hn : rows.length ≤ 6) (hw : ∀ t ∈ ts, t.length ≤ 1000 ∧ ∀ w ∈ t, Wok w ∧ w.length ≤ 1000) (hg : ∀ t ∈ ts, ∀ w ∈ t, okW ins w = true) (hl : ts.length ≤ 200) :
    F_need_tests [plD ins outs rows, .frl (ts.map wdsD)] S = .ok .non S := by
  unfold F_need_tests
  refine fn_ok rfl ?_
  unfold b_need_tests
  have nf := fun S : Sto => need_few6 (S := S) P hn
  have tc := fun (S : Sto) (t : List (List Nat)) (a1 a2 a4 : Option D) (ht : t ∈ ts) => tests_comp (ins := ins) (outs := outs) (rows := rows) (t := t) (a1 := a1) (a2 := a2) (a4 := a4) (S := S) (hw t ht).2 (hw t ht).1
  generalize plD ins outs rows = PP at nf tc ⊢
  simp only [wq_a, wq_b, wq_c, wq_d, wq_e, wq_f, wq_g, Int.reduceToNat, Int.reduceLE, Int.reduceLT, Int.reduceNeg, startD, List.replicate, Nat.reduceAdd, Nat.reduceSub, Nat.reduceEqDiff, if_true, if_false, Int.reduceEq, Int.reduceAdd, Int.reduceSub, Int.reduceMul, eq_self, nf, itemsD]
  refine w_enumP wdsD (fun pre sd S' => ∃ (a2 a3 a4 : Option D), S' = S ∧ sd = [some PP, some (.frl (ts.map wdsD)), a2, a3, a4]) ts (fun _ _ _ _ _ _ => rfl) ⟨_, _, _, rfl, rfl⟩ ?_ ?_
  · rintro sd S' ⟨a2, a3, a4, rfl, rfl⟩
    exact ⟨rfl, app_nil S'⟩
  · rintro pre t post sd S' e ⟨a2, a3, a4, rfl, rfl⟩
    have ht : t ∈ ts := by rw [e]; simp
    have hp : pre.length < 200 := by have := congrArg List.length e; simp at this; omega
    simp only [wq_a, wq_b, wq_c, wq_d, wq_e, wq_f, wq_g, Int.reduceToNat, Int.reduceLE, Int.reduceLT, Int.reduceNeg, startD, List.replicate, Nat.reduceAdd, Nat.reduceSub, Nat.reduceEqDiff, if_true, if_false, Int.reduceEq, Int.reduceAdd, Int.reduceSub, Int.reduceMul, eq_self, gTupD]
    rw [if_neg (by intro z; have := of_decide_eq_true z; omega)]
    simp only [wq_a, wq_b, wq_c, wq_d, wq_e, wq_f, wq_g, Int.reduceToNat, Int.reduceLE, Int.reduceLT, Int.reduceNeg, startD, List.replicate, Nat.reduceAdd, Nat.reduceSub, Nat.reduceEqDiff, if_true, if_false, Int.reduceEq, Int.reduceAdd, Int.reduceSub, Int.reduceMul, eq_self, tc _ t _ _ _ ht]
    rw [w_neNil (n := 0) fun w hw' => wdD_gd (fun w hw' => ((hw t ht).2 w hw').1) w hw']
    rw [show (t.all fun a => !(!okW ins a)) = true from List.all_eq_true.mpr fun w hw' => by rw [hg t ht w hw']; rfl]
    simp only [wq_a, wq_b, wq_c, wq_d, wq_e, wq_f, wq_g, Int.reduceToNat, Int.reduceLE, Int.reduceLT, Int.reduceNeg, startD, List.replicate, Nat.reduceAdd, Nat.reduceSub, Nat.reduceEqDiff, if_true, if_false, Int.reduceEq, Int.reduceAdd, Int.reduceSub, Int.reduceMul, eq_self]
    exact ⟨_, _, _, by first | rfl | trivial, rfl⟩
end Lw

namespace Lw
open PySem PySem.Spec PyProof.Rows L2 DL
theorem allW_mem {ins outs : Nat} {rows : List (List En)} (P : PM ins outs rows) {w : Wr} (h : w ∈ allW ins rows) : w.1.1 < rows.length ∧ w.1.2 < 2 ^ ins ∧ ∀ o, w.2 = some o → o < rows.length := by
  obtain ⟨i, hi, h⟩ := List.mem_flatMap.mp h
  have hi' := (metL_met P.nxt P.n1).lt i ((srtN_perm _).mem_iff.mp hi)
  obtain ⟨k, hk, h⟩ := List.mem_flatMap.mp h
  have hk' := List.mem_range.mp hk
  rcases List.mem_cons.mp h with rfl | h
  · exact ⟨hi', hk', fun o z => by cases z⟩
  · obtain ⟨o, ho, rfl⟩ := List.mem_map.mp h
    have := List.mem_range.mp (List.mem_filter.mp ho).1
    exact ⟨hi', hk', fun o' z => by cases z; exact this⟩
theorem allW_len {ins outs : Nat} {rows : List (List En)} (P : PM ins outs rows) (hn : rows.length ≤ 16) : (allW ins rows).length ≤ 4352 := by
  have p16 := pow_le P.i4
  have h1 := flat_len (f := wrsI ins rows) (n := 272) (l := srtN (metL rows)) fun x _ => wrsI_len hn (by rw [List.length_range]; exact p16)
  have : (srtN (metL rows)).length ≤ 16 := by rw [(srtN_perm _).length_eq]; have := (metL_met P.nxt P.n1).le; omega
  have := Nat.mul_le_mul_right 272 this
  unfold allW
  omega
theorem wrL_gd {ins : Nat} (w : Wr) : GD 1 (wrL ins w) := gd_tup fun d hd => by
  have : d = .int ((w.1.1 : Nat) : Int) ∨ d = sW ((allB ins).getD w.1.2 []) ∨ d = oD w.2 := by simpa using hd
  rcases this with rfl | rfl | rfl
  · exact gd_int
  · exact gd_W (wB_ok _)
  · cases w.2 with
    | none => exact gd_non
    | some o => exact gd_int
theorem need_rw {ins outs : Nat} {rows : List (List En)} {ts : List (List (List Bool))} {S : Sto} (P : PM ins outs rows) (hn : rows.length ≤ 6) (hb : ∀ t ∈ ts, t.length ≤ 1000 ∧ ∀ b ∈ t, b.length = ins) (hl : ts.length ≤ 200) : F_need_tests [plD ins outs rows, .frl (ts.map rwT)] S = .ok .non S := by
  have i4 := P.i4
  have e : ts.map rwT = (ts.map fun t => t.map wB).map wdsD := by
    rw [List.map_map]
    exact List.map_congr_left fun t _ => rwT_wds t
  rw [e]
  refine need_tests_ok P hn (fun u hu => ?_) (fun u hu w hw => ?_) (by rw [List.length_map]; exact hl)
  · obtain ⟨t, ht, rfl⟩ := List.mem_map.mp hu
    refine ⟨by rw [List.length_map]; exact (hb t ht).1, fun w hw => ?_⟩
    obtain ⟨b, hbt, rfl⟩ := List.mem_map.mp hw
    exact ⟨wB_ok _, by rw [wB_len, (hb t ht).2 b hbt]; omega⟩
  · obtain ⟨t, ht, rfl⟩ := List.mem_map.mp hu
    obtain ⟨b, hbt, rfl⟩ := List.mem_map.mp hw
    exact isWord_wB (by rw [(hb t ht).2 b hbt])
end Lw

namespace Lw
open PySem PySem.Spec PyProof.Rows L2 DL
noncomputable def tW2 : Sl → Sto → Res Fl :=
  (sFor (iVal (dCall sortKF (dCons (dVar 3) dNil))) (gVar 6) (sFor (iVal (dVar 2)) (gVar 7) (sSeq (sExpr (dBm "list" appendD (dVar 1) (dCons (dTup (dCons (dTup (dCons (dVar 6) (dCons (dVar 7) (dCons (dC .non) dNil)))) (dCons (d2 addF (d2 ixDic (dVar 3) (dVar 6)) (dLstF (dCons (dVar 7) dNil))) dNil))) dNil)))
  (sFor (iRngD1 (dCall lenD (dCons (d2 ixD (dVar 0) (dC (.int 2))) dNil))) (gVar 8) (sIf (d2T neD (dVar 8) (d2 ixD (dCallF 3 F__law_at (dCons (dVar 0) (dCons (dVar 6) (dCons (dVar 7) dNil)))) (dC (.int 1)))) (sSeq (sAsg (dCallF 4 F__law_between (dCons (dVar 0) (dCons (dCallF 4 F__law_changed (dCons (dVar 0) (dCons (dVar 6) (dCons (dVar 7) (dCons (dVar 8) dNil))))) (dCons (dC (.int 0)) (dCons (dC (.int 0)) dNil))))) (gVar 10))
  (sIf (d2T isNotD (dVar 10) (dC .non)) (sExpr (dBm "list" appendD (dVar 1) (dCons (dTup (dCons (dTup (dCons (dVar 6) (dCons (dVar 7) (dCons (dVar 8) dNil)))) (dCons (dVar 10) dNil))) dNil))) sNext)) sNext)))))
noncomputable def tW1 : Sl → Sto → Res Fl :=
  (sFor (iRngD1 (dCall lenD (dCons (d2 ixD (dVar 0) (dC (.int 2))) dNil))) (gVar 5) (sFor (iVal (dSliceF (dVar 4) (oSome (dVar 5)) (oSome (d2 addD (dVar 5) (dC (.int 1)))))) (gVar 6) (sFor (iVal (dVar 2)) (gVar 7) (sSeq (sAsg (d2 ixD (dCallF 3 F__law_at (dCons (dVar 0) (dCons (dVar 6) (dCons (dVar 7) dNil)))) (dC (.int 1))) (gVar 9))
  (sIf (d2T notInDic (dVar 9) (dVar 3)) (sSeq (sAsg (d2 addF (d2 ixDic (dVar 3) (dVar 6)) (dLstF (dCons (dVar 7) dNil))) (gSubD setDic (dVar 3) (dVar 9)))
  (sExpr (dBm "list" appendD (dVar 4) (dCons (dVar 9) dNil)))) sNext)))))
theorem eqb__law_wrong : b__law_wrong =
  (sSeq (sAsg (dLst dNil) (gVar 1))
  (sSeq (sAsg (dCallF 1 (F__law_beats 40) (dCons (d2 ixD (dVar 0) (dC (.int 0))) dNil)) (gVar 2))
  (sSeq (sAsg (dDisp (pCons (dC (.int 0)) (dLstF dNil) pNil)) (gVar 3))
  (sSeq (sAsg (dLst (dCons (dC (.int 0)) dNil)) (gVar 4))
  (sSeq tW1
  (sSeq tW2
  (sRet (dFrz (dVar 1))))))))) := rfl
def stp (rows : List (List En)) (k : Nat) (f : List Nat) : List Nat := if k < f.length then addNew f (rowAt rows (f.getD k 0)) else f
def sq (rows : List (List En)) : Nat → List Nat
  | 0 => [0]
  | k + 1 => stp rows k (sq rows k)
theorem sq_met {ins outs : Nat} {rows : List (List En)} (P : PM ins outs rows) : ∀ k, Met rows (sq rows k)
  | 0 => met0 P.n1
  | k + 1 => by
    have ih := sq_met P k
    show Met rows (stp rows k (sq rows k))
    unfold stp
    split
    · rename_i h
      exact ih.row P.nxt h _ [] (by simp)
    · exact ih
theorem sq_bfs {ins outs : Nat} {rows : List (List En)} (P : PM ins outs rows) : ∀ k, k ≤ rows.length → bfs rows (rows.length + 1 - k) k (sq rows k) = metL rows
  | 0, _ => rfl
  | k + 1, h => by
    have ih := sq_bfs P k (by omega)
    rw [← ih]
    show bfs rows (rows.length + 1 - (k + 1)) (k + 1) (stp rows k (sq rows k)) = _
    unfold stp
    split
    · rename_i hk
      rw [show rows.length + 1 - k = (rows.length + 1 - (k + 1)) + 1 by omega, bfs_step hk]
    · rename_i hk
      rw [bfs_end hk, bfs_end (by omega)]
theorem sq_end {ins outs : Nat} {rows : List (List En)} (P : PM ins outs rows) : sq rows rows.length = metL rows := by
  have h := sq_bfs P rows.length (Nat.le_refl _)
  have hl := (sq_met P rows.length).le
  rw [bfs_end (by omega)] at h
  exact h
structure RK (kvs : List (D × D)) (f : List Nat) (m : Nat) : Prop where
  k : kvs.map (·.1) = f.map nI
  v : ∀ p ∈ kvs, ∃ t : List (List Bool), p.2 = .frl (t.map sW) ∧ t.length ≤ m
theorem getK_RK {r : Nat} : ∀ {kvs : List (D × D)} {f : List Nat}, kvs.map (·.1) = f.map nI → (getK kvs (nI r)).isSome = decide (r ∈ f)
  | [], [], _ => by simp [getK]
  | [], x :: f, h => by simp at h
  | p :: kvs, [], h => by simp at h
  | p :: kvs, x :: f, h => by
    rw [List.map_cons, List.map_cons, List.cons.injEq] at h
    have ih := getK_RK (r := r) h.2
    unfold getK at ih ⊢
    rw [List.find?_cons, h.1]
    by_cases e : x = r
    · subst e; simp
    · have : ¬ nI x = nI r := by rw [nI_inj]; exact e
      have e' : ¬ r = x := fun z => e z.symm
      simp only [decide_eq_false this, ih, List.mem_cons, e', false_or]
theorem RK.get {kvs : List (D × D)} {f : List Nat} {m r : Nat} (h : RK kvs f m) (hr : r ∈ f) : ∃ t : List (List Bool), getK kvs (nI r) = some (.frl (t.map sW)) ∧ t.length ≤ m := by
  have := getK_RK (r := r) h.k
  rw [decide_eq_true hr] at this
  obtain ⟨d, hd⟩ := Option.isSome_iff_exists.mp this
  unfold getK at hd ⊢
  rw [Option.map_eq_some_iff] at hd
  obtain ⟨p, hp, rfl⟩ := hd
  obtain ⟨t, e, hl⟩ := h.v p (List.mem_of_find?_eq_some hp)
  exact ⟨t, by rw [hp, Option.map_some, e], hl⟩
theorem RK.add {kvs : List (D × D)} {f : List Nat} {m r : Nat} {t : List (List Bool)} (h : RK kvs f m) (hr : r ∉ f) (hl : t.length ≤ m) : RK (putD kvs (nI r) (.frl (t.map sW))) (f ++ [r]) m := by
  have hk : putD kvs (nI r) (.frl (t.map sW)) = kvs ++ [(nI r, .frl (t.map sW))] := by
    unfold putD
    rw [if_neg]
    intro z
    rw [List.any_eq_true] at z
    obtain ⟨p, hp, e⟩ := z
    have hm : p.1 ∈ kvs.map (·.1) := List.mem_map.mpr ⟨p, hp, rfl⟩
    rw [h.k, of_decide_eq_true e] at hm
    obtain ⟨x, hx, ex⟩ := List.mem_map.mp hm
    rw [nI_inj] at ex
    subst ex
    exact hr hx
  rw [hk]
  refine ⟨by rw [List.map_append, List.map_append, h.k]; rfl, fun p hp => ?_⟩
  rcases List.mem_append.mp hp with hp | hp
  · exact h.v p hp
  · rw [List.mem_singleton.mp hp]
    exact ⟨t, rfl, hl⟩
theorem RK.up {kvs : List (D × D)} {f : List Nat} {m n : Nat} (h : RK kvs f m) (hn : m ≤ n) : RK kvs f n := ⟨h.k, fun p hp => let ⟨t, e, hl⟩ := h.v p hp; ⟨t, e, Nat.le_trans hl hn⟩⟩
theorem RK.len {kvs : List (D × D)} {f : List Nat} {m : Nat} (h : RK kvs f m) : kvs.length = f.length := by
  have := congrArg List.length h.k
  simpa using this
theorem th_1 {S : Sto} {a b c : DO} : (S ++ [a, b, c])[S.length + 1]? = some b := by
  rw [List.getElem?_append_right (by omega)]
  simp
theorem th_2 {S : Sto} {a b c : DO} : (S ++ [a, b, c])[S.length + 2]? = some c := by
  rw [List.getElem?_append_right (by omega)]
  simp
theorem th_0 {S : Sto} {a b c : DO} : (S ++ [a, b, c])[S.length]? = some a := by
  rw [List.getElem?_append_right (by omega)]
  simp
theorem th_s0 {S : Sto} {a b c x : DO} : (S ++ [a, b, c]).set S.length x = S ++ [x, b, c] := by
  rw [List.set_append_right _ _ (by omega)]
  simp
theorem th_s1 {S : Sto} {a b c x : DO} : (S ++ [a, b, c]).set (S.length + 1) x = S ++ [a, x, c] := by
  rw [List.set_append_right _ _ (by omega)]
  simp
theorem th_s2 {S : Sto} {a b c x : DO} : (S ++ [a, b, c]).set (S.length + 2) x = S ++ [a, b, x] := by
  rw [List.set_append_right _ _ (by omega)]
  simp
theorem cut_1 {ds : List D} {k : Nat} : cutL ds (some ((k : Nat) : Int)) (some ((k + 1 : Nat) : Int)) = (ds.drop k).take 1 := by
  unfold cutL
  rw [HT.sIx_nat, HT.sIx_nat]
  by_cases h : k < ds.length
  · rw [Nat.min_eq_left (by omega), Nat.min_eq_left (by omega)]
    congr 1
    omega
  · rw [Nat.min_eq_right (by omega), Nat.min_eq_right (by omega), List.drop_length, List.drop_of_length_le (by omega)]
    simp

abbrev RowB : Type := List (List Bool)
abbrev Rds : Type := List (Nat × RowB)
def stepR (t0 : RowB) (acc : Rds) (e : List Bool × Nat) : Rds := if e.2 ∈ acc.map (·.1) then acc else acc ++ [(e.2, t0 ++ [e.1])]
def outE (ins : Nat) (row : List En) : List (List Bool × Nat) := (allB ins).zip (row.map (·.2))
def stR (ins : Nat) (rows : List (List En)) (k : Nat) (st : Rds) : Rds := match st[k]? with
  | some p => (outE ins (rowAt rows p.1)).foldl (stepR p.2) st
  | none => st
def rs (ins : Nat) (rows : List (List En)) : Nat → Rds
  | 0 => [(0, [])]
  | k + 1 => stR ins rows k (rs ins rows k)
def rd (st : Rds) (r : Nat) : RowB := ((st.find? fun p => decide (p.1 = r)).map (·.2)).getD []
def road (ins : Nat) (rows : List (List En)) (r : Nat) : RowB := rd (rs ins rows rows.length) r
def KV (st : Rds) : List (D × D) := st.map fun p => (nI p.1, .frl (p.2.map sW))
theorem fold_keys : ∀ (es : List (List Bool × Nat)) (row : List En) (t0 : RowB) (st : Rds), row.map (·.2) = es.map (·.2) → (es.foldl (stepR t0) st).map (·.1) = addNew (st.map (·.1)) row
  | [], [], _, _, _ => rfl
  | [], _ :: _, _, _, h => by simp at h
  | _ :: _, [], _, _, h => by simp at h
  | e :: es, x :: row, t0, st, h => by
    rw [List.map_cons, List.map_cons, List.cons.injEq] at h
    have ih := fold_keys es row t0 (stepR t0 st e) h.2
    rw [List.foldl_cons, ih]
    show _ = addNew (if x.2 ∈ st.map (·.1) then st.map (·.1) else st.map (·.1) ++ [x.2]) row
    congr 1
    unfold stepR
    rw [h.1]
    split
    · rfl
    · rw [List.map_append]; rfl
theorem outE_snd {ins : Nat} {row : List En} (h : row.length = 2 ^ ins) : (outE ins row).map (·.2) = row.map (·.2) := by
  unfold outE
  rw [List.map_snd_zip]
  rw [allB_many, List.length_map, h]
  exact Nat.le_refl _
theorem outE_len {ins : Nat} {row : List En} (h : row.length = 2 ^ ins) : (outE ins row).length = 2 ^ ins := by
  unfold outE
  rw [List.length_zip, allB_many, List.length_map, h, Nat.min_self]
theorem rs_keys {ins outs : Nat} {rows : List (List En)} (P : PM ins outs rows) : ∀ k, (rs ins rows k).map (·.1) = sq rows k
  | 0 => rfl
  | k + 1 => by
    have ih := rs_keys P k
    have hM := sq_met P k
    show (stR ins rows k (rs ins rows k)).map (·.1) = stp rows k (sq rows k)
    unfold stR stp
    have hl : (rs ins rows k).length = (sq rows k).length := by rw [← ih, List.length_map]
    by_cases hk : k < (sq rows k).length
    · have hk' : k < (rs ins rows k).length := by omega
      have e : (sq rows k).getD k 0 = (rs ins rows k)[k].1 := by
        rw [← ih, List.getD_eq_getElem?_getD, List.getElem?_map, List.getElem?_eq_getElem hk']
        rfl
      rw [if_pos hk, List.getElem?_eq_getElem hk']
      dsimp only
      rw [fold_keys _ (rowAt rows (rs ins rows k)[k].1) _ _ (outE_snd (P.len _ (row_mem (by rw [← e]; exact hM.lt _ (by simp [List.getD, hk]))))).symm, ih, e]
    · rw [if_neg hk, List.getElem?_eq_none (by omega)]
      exact ih
theorem fold_keep (es : List (List Bool × Nat)) (t0 : RowB) : ∀ st : Rds, ∃ g, es.foldl (stepR t0) st = st ++ g := by
  induction es with
  | nil => exact fun st => ⟨[], by simp⟩
  | cons e es ih =>
    intro st
    obtain ⟨g, hg⟩ := ih (stepR t0 st e)
    rw [List.foldl_cons, hg]
    unfold stepR
    split
    · exact ⟨g, rfl⟩
    · exact ⟨_, List.append_assoc _ _ _⟩
theorem rs_keep {ins : Nat} {rows : List (List En)} (k : Nat) : ∀ n, ∃ g, rs ins rows (k + n) = rs ins rows k ++ g
  | 0 => ⟨[], by simp⟩
  | n + 1 => by
    obtain ⟨g, hg⟩ := rs_keep (ins := ins) (rows := rows) k n
    show ∃ g, stR ins rows (k + n) (rs ins rows (k + n)) = _
    unfold stR
    cases h : (rs ins rows (k + n))[k + n]? with
    | none => exact ⟨g, hg⟩
    | some p =>
      obtain ⟨g2, h2⟩ := fold_keep (outE ins (rowAt rows p.1)) p.2 (rs ins rows (k + n))
      dsimp only
      rw [h2, hg]
      exact ⟨_, List.append_assoc _ _ _⟩
theorem rd_app {st g : Rds} {r : Nat} (h : r ∈ st.map (·.1)) : rd (st ++ g) r = rd st r := by
  unfold rd
  rw [List.find?_append]
  obtain ⟨p, hp, e⟩ := List.mem_map.mp h
  cases hf : st.find? fun p => decide (p.1 = r) with
  | none =>
    have := List.find?_eq_none.mp hf p hp
    simp [e] at this
  | some q => rfl
theorem rd_self {st : Rds} (nd : (st.map (·.1)).Nodup) {p : Nat × RowB} (hp : p ∈ st) : rd st p.1 = p.2 := by
  unfold rd
  cases hf : st.find? fun q => decide (q.1 = p.1) with
  | none =>
    have := List.find?_eq_none.mp hf p hp
    simp at this
  | some q =>
    have h1 : q.1 = p.1 := by simpa using List.find?_some hf
    have h2 := List.mem_of_find?_eq_some hf
    have : q = p := by
      clear hf
      induction st with
      | nil => cases h2
      | cons x st ih =>
        rw [List.map_cons, List.nodup_cons] at nd
        rcases List.mem_cons.mp h2 with e1 | h3 <;> rcases List.mem_cons.mp hp with e2 | h4
        · rw [e1, e2]
        · exact absurd (show x.1 ∈ st.map (·.1) from List.mem_map.mpr ⟨p, h4, by rw [← e1, h1]⟩) nd.1
        · exact absurd (show x.1 ∈ st.map (·.1) from List.mem_map.mpr ⟨q, h3, by rw [← e2, h1]⟩) nd.1
        · exact ih nd.2 h4 h3
    rw [this]
    rfl
def RdOk (ins : Nat) (st : Rds) : Prop := ∀ p ∈ st, p.2.length ≤ st.length ∧ ∀ b ∈ p.2, b.length = ins
theorem step_ok {ins : Nat} {st : Rds} {t0 : RowB} {e : List Bool × Nat} (h : RdOk ins st) (h0 : t0.length ≤ st.length) (h1 : ∀ b ∈ t0, b.length = ins) (he : e.1.length = ins) : RdOk ins (stepR t0 st e) := by
  unfold stepR
  split
  · exact h
  · intro p hp
    rw [List.length_append, List.length_singleton]
    rcases List.mem_append.mp hp with hp | hp
    · exact ⟨by have := (h p hp).1; omega, (h p hp).2⟩
    · rw [List.mem_singleton] at hp
      subst hp
      refine ⟨by simp; omega, fun b hb => ?_⟩
      rcases List.mem_append.mp hb with hb | hb
      · exact h1 b hb
      · rw [List.mem_singleton.mp hb]; exact he
theorem fold_ok {ins : Nat} {t0 : RowB} (h1 : ∀ b ∈ t0, b.length = ins) : ∀ (es : List (List Bool × Nat)) (st : Rds), (∀ e ∈ es, e.1.length = ins) → RdOk ins st → t0.length ≤ st.length → RdOk ins (es.foldl (stepR t0) st)
  | [], _, _, h, _ => h
  | e :: es, st, he, h, h0 => by
    rw [List.foldl_cons]
    refine fold_ok h1 es _ (fun x hx => he x (List.mem_cons_of_mem _ hx)) (step_ok h h0 h1 (he e List.mem_cons_self)) ?_
    unfold stepR
    split
    · exact h0
    · simp; omega
theorem outE_beat {ins : Nat} {row : List En} : ∀ e ∈ outE ins row, e.1.length = ins := fun e he => allB_len ins e.1 (List.of_mem_zip he).1
theorem rs_ok {ins : Nat} {rows : List (List En)} : ∀ k, RdOk ins (rs ins rows k)
  | 0 => fun p hp => by
    have : p = (0, []) := by simpa [rs] using hp
    rw [this]
    exact ⟨Nat.zero_le _, fun b hb => by cases hb⟩
  | k + 1 => by
    have ih := rs_ok (ins := ins) (rows := rows) k
    show RdOk ins (stR ins rows k (rs ins rows k))
    unfold stR
    cases h : (rs ins rows k)[k]? with
    | none => exact ih
    | some p =>
      have hp := List.mem_of_getElem? h
      exact fold_ok (ih p hp).2 _ _ outE_beat ih (ih p hp).1
theorem KV_fst (st : Rds) : (KV st).map (·.1) = (st.map (·.1)).map nI := by
  unfold KV
  rw [List.map_map, List.map_map]
  rfl
theorem KV_len (st : Rds) : (KV st).length = st.length := by simp [KV]
theorem KV_in {st : Rds} {r : Nat} : (getK (KV st) (nI r)).isSome = decide (r ∈ st.map (·.1)) := getK_RK (KV_fst st)
theorem KV_get {st : Rds} {r : Nat} (h : r ∈ st.map (·.1)) : getK (KV st) (nI r) = some (.frl ((rd st r).map sW)) := by
  unfold getK KV rd
  rw [List.find?_map]
  have ef : ((fun p : D × D => decide (p.1 = nI r)) ∘ fun p : Nat × RowB => (nI p.1, D.frl (p.2.map sW))) = fun p : Nat × RowB => decide (p.1 = r) := by
    funext p
    show decide (nI p.1 = nI r) = _
    rw [decide_eq_decide, nI_inj]
  rw [ef]
  obtain ⟨p, hp, e⟩ := List.mem_map.mp h
  cases hf : st.find? fun p => decide (p.1 = r) with
  | none =>
    have := List.find?_eq_none.mp hf p hp
    simp [e] at this
  | some q => rfl
theorem KV_put {st : Rds} {r : Nat} {t : RowB} (h : r ∉ st.map (·.1)) : putD (KV st) (nI r) (.frl (t.map sW)) = KV (st ++ [(r, t)]) := by
  unfold putD
  rw [if_neg]
  · unfold KV
    rw [List.map_append]
    rfl
  · intro z
    rw [List.any_eq_true] at z
    obtain ⟨p, hp, e⟩ := z
    have hm : p.1 ∈ (KV st).map (·.1) := List.mem_map.mpr ⟨p, hp, rfl⟩
    rw [KV_fst, of_decide_eq_true e] at hm
    obtain ⟨x, hx, ex⟩ := List.mem_map.mp hm
    rw [nI_inj] at ex
    subst ex
    exact h hx
theorem outE_take {ins j : Nat} {row : List En} (h : row.length = 2 ^ ins) (hj : j < 2 ^ ins) : (outE ins row).take (j + 1) = (outE ins row).take j ++ [((allB ins).getD j [], (row.getD j ([], 0)).2)] := by
  have hl := outE_len h
  rw [List.take_succ_eq_append_getElem (by omega)]
  congr 2
  have hB : j < (allB ins).length := by rw [allB_many]; exact hj
  unfold outE
  rw [List.getElem_zip, List.getElem_map, List.getD_eq_getElem?_getD, List.getElem?_eq_getElem hB, List.getD_eq_getElem?_getD, List.getElem?_eq_getElem (by omega)]
  rfl

end Lw

namespace Lw
open PySem PySem.Spec PyProof.Rows L2 DL
theorem roads2_ok {ins outs : Nat} {rows : List (List En)} {S : Sto} {a0 : DO} {b5 b6 b7 b8 b9 b10 : Option D} (P : PM ins outs rows) (hn : rows.length ≤ 16) :
    Wp (tW1 [some (plD ins outs rows), some (.ref S.length), some (.frl ((allB ins).map sW)), some (.ref (S.length + 1)), some (.ref (S.length + 2)), b5, b6, b7, b8, b9, b10] (S ++ [a0, .dic 0 [(nI 0, .frl [])], .lst [nI 0]]))
      (fun fl S' => ∃ (c5 c6 c7 c9 : Option D), fl = .nx [some (plD ins outs rows), some (.ref S.length), some (.frl ((allB ins).map sW)), some (.ref (S.length + 1)), some (.ref (S.length + 2)), c5, c6, c7, b8, c9, b10] ∧ S' = S ++ [a0, .dic 0 (KV (rs ins rows rows.length)), .lst (((rs ins rows rows.length).map (·.1)).map nI)]) NX := by
  have i4 := P.i4
  have p16 := pow_le i4
  have hsq := rs_keys P
  unfold tW1
  have x2 : ∀ {S : Sto}, Wp (ixD (plD ins outs rows) (.int 2) S) = Wp (.ok (.tup (rows.map rowD)) S) := rfl
  have la := fun (S : Sto) (i k : Nat) (hi : i < rows.length) (hk : k < 2 ^ ins) => law_at_ok (S := S) P hi hk
  generalize plD ins outs rows = PP at x2 la ⊢
  have ln2 : ∀ {S : Sto} {Q : D → Sto → Prop} {X : Exc → Sto → Prop}, Wp (lenD [.tup (rows.map rowD)] S) Q X = Q (.int ((rows.length : Nat) : Int)) S := fun {S Q X} => by
    show Q (.int (((rows.map rowD).length : Nat) : Int)) S = _
    rw [List.length_map]
  simp only [wq_a, wq_b, wq_c, wq_d, wq_e, wq_f, wq_g, Int.reduceToNat, Int.reduceLE, Int.reduceLT, Int.reduceNeg, startD, List.replicate, Nat.reduceAdd, Nat.reduceSub, Nat.reduceEqDiff, if_true, if_false, Int.reduceEq, Int.reduceAdd, Int.reduceSub, Int.reduceMul, eq_self, x2, ln2]
  rw [zm (rng_okI (by omega) (by omega)), Int.toNat_natCast]
  simp only [wq_a, wq_b, wq_c, wq_d, wq_e, wq_f, wq_g, Int.reduceToNat, Int.reduceLE, Int.reduceLT, Int.reduceNeg, startD, List.replicate, Nat.reduceAdd, Nat.reduceSub, Nat.reduceEqDiff, if_true, if_false, Int.reduceEq, Int.reduceAdd, Int.reduceSub, Int.reduceMul, eq_self]
  refine w_rangeP (fun k sd S' => ∃ (c5 c6 c7 c9 : Option D), S' = S ++ [a0, .dic 0 (KV (rs ins rows k)), .lst (((rs ins rows k).map (·.1)).map nI)] ∧ sd = [some PP, some (.ref S.length), some (.frl ((allB ins).map sW)), some (.ref (S.length + 1)), some (.ref (S.length + 2)), c5, c6, c7, b8, c9, b10]) 0 rows.length (fun _ _ _ _ _ => rfl) ⟨_, _, _, _, rfl, rfl⟩ ?_ ?_
  · rintro sd S' ⟨c5, c6, c7, c9, rfl, rfl⟩
    exact ⟨_, _, _, _, rfl, rfl⟩
  · rintro k sd S' hkn ⟨c5, c6, c7, c9, rfl, rfl⟩
    have hM := sq_met P k
    have hok := rs_ok (ins := ins) (rows := rows) k
    have hnext : rs ins rows (k + 1) = stR ins rows k (rs ins rows k) := rfl
    rw [← hsq k] at hM
    generalize rs ins rows k = st at hM hok hnext ⊢
    have sl : ∀ {kvs : List (D × D)} {f : List Nat} {Q : D → Sto → Prop} {X : Exc → Sto → Prop}, Wp (sliceF (.ref (S.length + 2)) (some ((k : Nat) : Int)) (some ((k + 1 : Nat) : Int)) (S ++ [a0, .dic 0 kvs, .lst (f.map nI)])) Q X = Q (.frl (((f.drop k).take 1).map nI)) (S ++ [a0, .dic 0 kvs, .lst (f.map nI)]) := fun {kvs f Q X} => by
      simp only [sliceF, lsD, th_2]
      show Q (.frl (cutL _ _ _)) _ = _
      rw [cut_1, List.map_take, List.map_drop]
    have ek : ((k : Nat) : Int) + 1 = ((k + 1 : Nat) : Int) := by omega
    simp only [wq_a, wq_b, wq_c, wq_d, wq_e, wq_f, wq_g, Int.reduceToNat, Int.reduceLE, Int.reduceLT, Int.reduceNeg, startD, List.replicate, Nat.reduceAdd, Nat.reduceSub, Nat.reduceEqDiff, if_true, if_false, Int.reduceEq, Int.reduceAdd, Int.reduceSub, Int.reduceMul, eq_self, Int.zero_add, ek, sl, itemsD]
    by_cases hkl : k < st.length
    · have hget : st[k]? = some st[k] := List.getElem?_eq_getElem hkl
      generalize st[k] = p at hget
      have hd1 : ((st.map (·.1)).drop k).take 1 = [p.1] := by
        rw [← List.map_drop, ← List.map_take, List.drop_eq_getElem?_toList_append, hget]
        rfl
      have hpm := List.mem_of_getElem? hget
      have hrl : p.1 < rows.length := hM.lt _ (List.mem_map.mpr ⟨p, hpm, rfl⟩)
      have hrow : (rowAt rows p.1).length = 2 ^ ins := P.len _ (row_mem hrl)
      have hol := outE_len hrow
      have hfin : (outE ins (rowAt rows p.1)).foldl (stepR p.2) st = rs ins rows (k + 1) := by
        rw [hnext]
        unfold stR
        rw [hget]
      have hself := rd_self hM.nd hpm
      have hpin : p.1 ∈ st.map (·.1) := List.mem_map.mpr ⟨p, hpm, rfl⟩
      have hp2 := (hok p hpm).1
      have hstl := hM.le
      rw [List.length_map] at hstl
      have hgk : ∀ j, (((outE ins (rowAt rows p.1)).take j).foldl (stepR p.2) st).map (·.1) = addNew (st.map (·.1)) ((rowAt rows p.1).take j) := fun j => fold_keys _ _ _ _ (by rw [List.map_take, List.map_take, outE_snd hrow])
      have hMj : ∀ j, Met rows (addNew (st.map (·.1)) ((rowAt rows p.1).take j)) := fun j => by
        have hg0 : (st.map (·.1)).getD k 0 = p.1 := by rw [List.getD_eq_getElem?_getD, List.getElem?_map, hget]; rfl
        exact hM.row P.nxt (by rw [List.length_map]; exact hkl) _ ((rowAt rows p.1).drop j) (by rw [hg0, List.take_append_drop])
      rw [hd1]
      simp only [List.map_cons, List.map_nil, z5, z6, wq_a, wq_b, wq_c, wq_d, wq_e, wq_f, wq_g, Int.reduceToNat, Int.reduceLE, Int.reduceLT, Int.reduceNeg, startD, List.replicate, Nat.reduceAdd, Nat.reduceSub, Nat.reduceEqDiff, if_true, if_false, Int.reduceEq, Int.reduceAdd, Int.reduceSub, Int.reduceMul, eq_self, nI, itemsD]
      refine w_loopP sW (fun pre sd S' => ∃ (c7 c9 : Option D), S' = S ++ [a0, .dic 0 (KV (((outE ins (rowAt rows p.1)).take pre.length).foldl (stepR p.2) st)), .lst (((((outE ins (rowAt rows p.1)).take pre.length).foldl (stepR p.2) st).map (·.1)).map nI)] ∧ sd = [some PP, some (.ref S.length), some (.frl ((allB ins).map sW)), some (.ref (S.length + 1)), some (.ref (S.length + 2)), some (.int ((k : Nat) : Int)), some (.int ((p.1 : Nat) : Int)), c7, b8, c9, b10]) (allB ins) (fun _ _ _ _ _ _ => rfl) ⟨_, _, rfl, rfl⟩ ?_ ?_
      · rintro sd S' ⟨c7, c9, rfl, rfl⟩
        rw [List.take_of_length_le (by rw [hol, allB_many]; exact Nat.le_refl _), hfin]
        simp only [wq_a, wq_b, wq_c, wq_d, wq_e, wq_f, wq_g, Int.reduceToNat, Int.reduceLE, Int.reduceLT, Int.reduceNeg, startD, List.replicate, Nat.reduceAdd, Nat.reduceSub, Nat.reduceEqDiff, if_true, if_false, Int.reduceEq, Int.reduceAdd, Int.reduceSub, Int.reduceMul, eq_self]
        exact ⟨_, _, _, _, rfl, rfl⟩
      · rintro pre b post sd S' e ⟨c7, c9, rfl, rfl⟩
        have hpl : pre.length < 2 ^ ins := by rw [← allB_many ins, e]; simp
        have hb : b = (allB ins).getD pre.length [] := by rw [e]; simp
        have hnx : (ansAt rows p.1 pre.length).2 < rows.length := P.nxt _ (row_mem hrl) _ (ans_mem (by omega))
        have hk1 := hgk pre.length
        have hM1 := hMj pre.length
        have hstep : ((outE ins (rowAt rows p.1)).take (pre ++ [b]).length).foldl (stepR p.2) st = stepR p.2 (((outE ins (rowAt rows p.1)).take pre.length).foldl (stepR p.2) st) (b, (ansAt rows p.1 pre.length).2) := by
          rw [List.length_append, List.length_singleton, outE_take hrow hpl, List.foldl_append, hb]
          rfl
        obtain ⟨ext, hext⟩ := fold_keep ((outE ins (rowAt rows p.1)).take pre.length) p.2 st
        have hrd : rd (((outE ins (rowAt rows p.1)).take pre.length).foldl (stepR p.2) st) p.1 = p.2 := by
          rw [hext, rd_app hpin, hself]
        have hin2 : p.1 ∈ (((outE ins (rowAt rows p.1)).take pre.length).foldl (stepR p.2) st).map (·.1) := by
          rw [hext, List.map_append]
          exact List.mem_append_left _ hpin
        have lb := fun S => la S p.1 pre.length hrl hpl
        rw [← hb] at lb
        rw [hstep]
        generalize ansAt rows p.1 pre.length = en at lb hnx ⊢
        rw [← hk1] at hM1
        generalize ((outE ins (rowAt rows p.1)).take pre.length).foldl (stepR p.2) st = g at hM1 hrd hin2 ⊢
        have hgl := hM1.le
        rw [List.length_map] at hgl
        simp only [wq_a, wq_b, wq_c, wq_d, wq_e, wq_f, wq_g, Int.reduceToNat, Int.reduceLE, Int.reduceLT, Int.reduceNeg, startD, List.replicate, Nat.reduceAdd, Nat.reduceSub, Nat.reduceEqDiff, if_true, if_false, Int.reduceEq, Int.reduceAdd, Int.reduceSub, Int.reduceMul, eq_self, lb, enD]
        rw [w_notInDic (dic_at th_1 (show (key0 (D.int ((en.2 : Nat) : Int))).isSome = true from rfl)), show (getK (KV g) (D.int ((en.2 : Nat) : Int))).isSome = _ from KV_in]
        unfold stepR
        by_cases hin : en.2 ∈ g.map (·.1)
        · rw [if_pos hin, decide_eq_true hin]
          simp only [wq_a, wq_b, wq_c, wq_d, wq_e, wq_f, wq_g, Int.reduceToNat, Int.reduceLE, Int.reduceLT, Int.reduceNeg, startD, List.replicate, Nat.reduceAdd, Nat.reduceSub, Nat.reduceEqDiff, if_true, if_false, Int.reduceEq, Int.reduceAdd, Int.reduceSub, Int.reduceMul, eq_self]
          exact ⟨_, _, by first | rfl | trivial, rfl⟩
        · rw [if_neg hin, decide_eq_false hin]
          simp only [wq_a, wq_b, wq_c, wq_d, wq_e, wq_f, wq_g, Int.reduceToNat, Int.reduceLE, Int.reduceLT, Int.reduceNeg, startD, List.replicate, Nat.reduceAdd, Nat.reduceSub, Nat.reduceEqDiff, if_true, if_false, Int.reduceEq, Int.reduceAdd, Int.reduceSub, Int.reduceMul, eq_self]
          rw [w_ixDic (dic_at th_1 (show (key0 (D.int ((p.1 : Nat) : Int))).isSome = true from rfl) |>.trans (by rw [show (D.int ((p.1 : Nat) : Int)) = nI p.1 from rfl, KV_get hin2, hrd]))]
          simp only [wq_a, wq_b, wq_c, wq_d, wq_e, wq_f, wq_g, Int.reduceToNat, Int.reduceLE, Int.reduceLT, Int.reduceNeg, startD, List.replicate, Nat.reduceAdd, Nat.reduceSub, Nat.reduceEqDiff, if_true, if_false, Int.reduceEq, Int.reduceAdd, Int.reduceSub, Int.reduceMul, eq_self]
          rw [zm (szn (by rw [List.length_map]; omega))]
          simp only [wq_a, wq_b, wq_c, wq_d, wq_e, wq_f, wq_g, Int.reduceToNat, Int.reduceLE, Int.reduceLT, Int.reduceNeg, startD, List.replicate, Nat.reduceAdd, Nat.reduceSub, Nat.reduceEqDiff, if_true, if_false, Int.reduceEq, Int.reduceAdd, Int.reduceSub, Int.reduceMul, eq_self]
          rw [w_setDic th_1 rfl (by rw [sizeLine_eq, KV_len]; omega), th_s1]
          simp only [wq_a, wq_b, wq_c, wq_d, wq_e, wq_f, wq_g, Int.reduceToNat, Int.reduceLE, Int.reduceLT, Int.reduceNeg, startD, List.replicate, Nat.reduceAdd, Nat.reduceSub, Nat.reduceEqDiff, if_true, if_false, Int.reduceEq, Int.reduceAdd, Int.reduceSub, Int.reduceMul, eq_self]
          rw [zm (isTy_lst th_2)]
          simp only [wq_a, wq_b, wq_c, wq_d, wq_e, wq_f, wq_g, Int.reduceToNat, Int.reduceLE, Int.reduceLT, Int.reduceNeg, startD, List.replicate, Nat.reduceAdd, Nat.reduceSub, Nat.reduceEqDiff, if_true, if_false, Int.reduceEq, Int.reduceAdd, Int.reduceSub, Int.reduceMul, eq_self]
          rw [w_appL th_2 (by rw [sizeLine_eq, List.length_map, List.length_map]; omega), th_s2]
          refine ⟨_, _, ?_, rfl⟩
          have hput := KV_put (t := p.2 ++ [b]) hin
          rw [List.map_append] at hput
          have hput' : putD (KV g) (.int ((en.2 : Nat) : Int)) (.frl (p.2.map sW ++ [sW b])) = KV (g ++ [(en.2, p.2 ++ [b])]) := hput
          rw [List.map_append, List.map_append]
          exact congrArg (fun z => S ++ [a0, DO.dic 0 z, _]) hput'
    · have hd1 : ((st.map (·.1)).drop k).take 1 = [] := by rw [List.drop_of_length_le (by rw [List.length_map]; omega)]; rfl
      have hfin : st = rs ins rows (k + 1) := by
        rw [hnext]
        unfold stR
        rw [List.getElem?_eq_none (by omega)]
      rw [hd1]
      simp only [List.map_nil, z6, wq_a, wq_b, wq_c, wq_d, wq_e, wq_f, wq_g, Int.reduceToNat, Int.reduceLE, Int.reduceLT, Int.reduceNeg, startD, List.replicate, Nat.reduceAdd, Nat.reduceSub, Nat.reduceEqDiff, if_true, if_false, Int.reduceEq, Int.reduceAdd, Int.reduceSub, Int.reduceMul, eq_self]
      refine ⟨_, _, _, _, ?_, rfl⟩
      rw [← hfin]

abbrev Yr : Type := Wr × D
def fnR (ins : Nat) (rows : List (List En)) (w : Wr) : RowB := match w.2 with
  | none => road ins rows w.1.1 ++ [(allB ins).getD w.1.2 []]
  | some o => (Rb ins rows (chg rows w.1.1 w.1.2 o) 0 0).getD []
def yD (ins : Nat) (y : Yr) : D := .tup [wrL ins y.1, y.2]
theorem wrong3_ok {ins outs : Nat} {rows : List (List En)} {S : Sto} {w0 : DO} {b5 b6 b7 b8 b9 b10 : Option D} (P : PM ins outs rows) (hn : rows.length ≤ 16) :
    Wp (tW2 [some (plD ins outs rows), some (.ref S.length), some (.frl ((allB ins).map sW)), some (.ref (S.length + 1)), some (.ref (S.length + 2)), b5, b6, b7, b8, b9, b10] (S ++ [.lst [], .dic 0 (KV (rs ins rows rows.length)), w0]))
      (fun fl S' => ∃ (ys : List Yr) (c5 c6 c7 c8 c9 c10 : Option D), ys.map (·.1) = allW ins rows ∧ (∀ y ∈ ys, y.2 = .frl ((fnR ins rows y.1).map sW)) ∧ fl = .nx [some (plD ins outs rows), some (.ref S.length), some (.frl ((allB ins).map sW)), some (.ref (S.length + 1)), some (.ref (S.length + 2)), c5, c6, c7, c8, c9, c10] ∧ S' = S ++ [.lst (ys.map (yD ins)), .dic 0 (KV (rs ins rows rows.length)), w0]) NX := by
  have i4 := P.i4
  have p16 := pow_le i4
  have h0 : 0 < rows.length := by have := P.n1; omega
  have hmm := metL_met P.nxt P.n1
  have hks : (rs ins rows rows.length).map (·.1) = metL rows := by rw [rs_keys P, sq_end P]
  have hkl0 : (rs ins rows rows.length).length = (metL rows).length := by rw [← hks, List.length_map]
  have hok0 := rs_ok (ins := ins) (rows := rows) rows.length
  have hroad : ∀ i, i ∈ metL rows → getK (KV (rs ins rows rows.length)) (nI i) = some (.frl ((road ins rows i).map sW)) ∧ (road ins rows i).length ≤ 20 := fun i hi => by
    rw [← hks] at hi
    refine ⟨KV_get hi, ?_⟩
    obtain ⟨p, hp, e⟩ := List.mem_map.mp hi
    have nd : ((rs ins rows rows.length).map (·.1)).Nodup := by rw [hks]; exact hmm.nd
    have := rd_self nd hp
    rw [e] at this
    show (rd _ i).length ≤ 20
    rw [this]
    have := (hok0 p hp).1
    have := hmm.le
    omega
  unfold tW2
  have x2 : ∀ {S : Sto}, Wp (ixD (plD ins outs rows) (.int 2) S) = Wp (.ok (.tup (rows.map rowD)) S) := rfl
  have la := fun (S : Sto) (i k : Nat) (hi : i < rows.length) (hk : k < 2 ^ ins) => law_at_ok (S := S) P hi hk
  have lc := fun (S : Sto) (i k o : Nat) (hi : i < rows.length) (hk : k < 2 ^ ins) => law_changed_ok (S := S) (o := o) P hi hk
  have lw := fun (S : Sto) (i k o : Nat) (hi : i < rows.length) (hk : k < 2 ^ ins) (ho : o < rows.length) => law_btw_ok (S := S) (a := 0) (b := 0) P (chg_pm P hi hk ho) h0 (by rw [chg_len]; exact h0)
  generalize plD ins outs rows = PP at x2 la lc lw ⊢
  have ln2 : ∀ {S : Sto} {Q : D → Sto → Prop} {X : Exc → Sto → Prop}, Wp (lenD [.tup (rows.map rowD)] S) Q X = Q (.int ((rows.length : Nat) : Int)) S := fun {S Q X} => by
    show Q (.int (((rows.map rowD).length : Nat) : Int)) S = _
    rw [List.length_map]
  have hsm : ∀ r ∈ srtN (metL rows), r < rows.length ∧ r ∈ metL rows := fun r hr => let m := (srtN_perm _).mem_iff.mp hr; ⟨hmm.lt r m, m⟩
  have hsl : (srtN (metL rows)).length ≤ 16 := by rw [(srtN_perm _).length_eq]; have := hmm.le; omega
  have sk : ∀ (a0 : DO), sortKF [.ref (S.length + 1)] (S ++ [a0, .dic 0 (KV (rs ins rows rows.length)), w0]) = .ok (.frl ((srtN (metL rows)).map nI)) (S ++ [a0, .dic 0 (KV (rs ins rows rows.length)), w0]) := fun a0 => by
    have hkk : (KV (rs ins rows rows.length)).map (·.1) = (metL rows).map nI := by rw [KV_fst, hks]
    unfold sortKF
    simp only [th_1]
    rw [hkk, if_pos ⟨nI_ok, szn (by rw [KV_len]; have := hmm.le; omega)⟩, nI_srtL]
  simp only [wq_a, wq_b, wq_c, wq_d, wq_e, wq_f, wq_g, Int.reduceToNat, Int.reduceLE, Int.reduceLT, Int.reduceNeg, startD, List.replicate, Nat.reduceAdd, Nat.reduceSub, Nat.reduceEqDiff, if_true, if_false, Int.reduceEq, Int.reduceAdd, Int.reduceSub, Int.reduceMul, eq_self, sk, itemsD]
  refine w_loopP nI (fun pre sd S' => ∃ (ys : List Yr) (c5 c6 c7 c8 c9 c10 : Option D), ys.map (·.1) = pre.flatMap (wrsI ins rows) ∧ (∀ y ∈ ys, y.2 = .frl ((fnR ins rows y.1).map sW)) ∧ S' = S ++ [.lst (ys.map (yD ins)), .dic 0 (KV (rs ins rows rows.length)), w0] ∧ sd = [some PP, some (.ref S.length), some (.frl ((allB ins).map sW)), some (.ref (S.length + 1)), some (.ref (S.length + 2)), c5, c6, c7, c8, c9, c10]) (srtN (metL rows)) (fun _ _ _ _ _ _ => rfl) ⟨[], _, _, _, _, _, _, rfl, (fun y hy => by cases hy), rfl, rfl⟩ ?_ ?_
  · rintro sd S' ⟨ys, c5, c6, c7, c8, c9, c10, hy, hg, rfl, rfl⟩
    exact ⟨ys, _, _, _, _, _, _, hy, hg, rfl, rfl⟩
  · rintro pre i post sd S' e ⟨ys, c5, c6, c7, c8, c9, c10, hy, hg, rfl, rfl⟩
    obtain ⟨hi, him⟩ := hsm i (by rw [e]; simp)
    obtain ⟨ht, htl⟩ := hroad i him
    generalize htt : road ins rows i = t at ht htl
    have hpl : pre.length ≤ 16 := by have := congrArg List.length e; simp at this; omega
    have hw1 := flat_len (f := wrsI ins rows) (n := 272) (l := pre) fun x _ => wrsI_len hn (by rw [List.length_range]; exact p16)
    have hrl : (rowAt rows i).length = 2 ^ ins := P.len _ (row_mem hi)
    simp only [wq_a, wq_b, wq_c, wq_d, wq_e, wq_f, wq_g, Int.reduceToNat, Int.reduceLE, Int.reduceLT, Int.reduceNeg, startD, List.replicate, Nat.reduceAdd, Nat.reduceSub, Nat.reduceEqDiff, if_true, if_false, Int.reduceEq, Int.reduceAdd, Int.reduceSub, Int.reduceMul, eq_self, itemsD, nI]
    refine w_loopP sW (fun bs sd S' => ∃ (ys : List Yr) (c7 c8 c10 : Option D), ys.map (·.1) = pre.flatMap (wrsI ins rows) ++ (List.range bs.length).flatMap (wrsK ins rows i) ∧ (∀ y ∈ ys, y.2 = .frl ((fnR ins rows y.1).map sW)) ∧ S' = S ++ [.lst (ys.map (yD ins)), .dic 0 (KV (rs ins rows rows.length)), w0] ∧ sd = [some PP, some (.ref S.length), some (.frl ((allB ins).map sW)), some (.ref (S.length + 1)), some (.ref (S.length + 2)), c5, some (.int ((i : Nat) : Int)), c7, c8, c9, c10]) (allB ins) (fun _ _ _ _ _ _ => rfl) ⟨ys, _, _, _, by rw [hy]; simp, hg, rfl, rfl⟩ ?_ ?_
    · rintro sd S' ⟨ys, c7, c8, c10, hy, hg, rfl, rfl⟩
      refine ⟨ys, _, _, _, _, _, _, ?_, hg, rfl, rfl⟩
      rw [hy, List.flatMap_append, List.flatMap_cons, List.flatMap_nil, List.append_nil, allB_many]
      rfl
    · rintro bs b qs sd S' eb ⟨ys, c7, c8, c10, hy, hg, rfl, rfl⟩
      have hbl : bs.length < 2 ^ ins := by rw [← allB_many ins, eb]; simp
      have hb : b = (allB ins).getD bs.length [] := by rw [eb]; simp
      have hw2 := wrsI_len (ins := ins) (i := i) hn (ks := List.range bs.length) (by rw [List.length_range]; omega)
      have hyl : ys.length ≤ 16 * 272 + 272 := by
        have := congrArg List.length hy
        rw [List.length_map, List.length_append] at this
        have := Nat.mul_le_mul_right 272 hpl
        omega
      rw [hb]
      have gx : ∀ (a0 : DO), dicD (.ref (S.length + 1)) (.int ((i : Nat) : Int)) (S ++ [a0, .dic 0 (KV (rs ins rows rows.length)), w0]) = some (some (.frl (t.map sW))) := fun a0 => (dic_at th_1 (show (key0 (D.int ((i : Nat) : Int))).isSome = true from rfl)).trans (by rw [show (D.int ((i : Nat) : Int)) = nI i from rfl, ht])
      generalize hkk : bs.length = k at hbl hb hw2 hy ⊢
      simp only [wq_a, wq_b, wq_c, wq_d, wq_e, wq_f, wq_g, Int.reduceToNat, Int.reduceLE, Int.reduceLT, Int.reduceNeg, startD, List.replicate, Nat.reduceAdd, Nat.reduceSub, Nat.reduceEqDiff, if_true, if_false, Int.reduceEq, Int.reduceAdd, Int.reduceSub, Int.reduceMul, eq_self]
      rw [zm (isTy_lst th_0)]
      simp only [wq_a, wq_b, wq_c, wq_d, wq_e, wq_f, wq_g, Int.reduceToNat, Int.reduceLE, Int.reduceLT, Int.reduceNeg, startD, List.replicate, Nat.reduceAdd, Nat.reduceSub, Nat.reduceEqDiff, if_true, if_false, Int.reduceEq, Int.reduceAdd, Int.reduceSub, Int.reduceMul, eq_self]
      rw [w_ixDic (gx _)]
      simp only [wq_a, wq_b, wq_c, wq_d, wq_e, wq_f, wq_g, Int.reduceToNat, Int.reduceLE, Int.reduceLT, Int.reduceNeg, startD, List.replicate, Nat.reduceAdd, Nat.reduceSub, Nat.reduceEqDiff, if_true, if_false, Int.reduceEq, Int.reduceAdd, Int.reduceSub, Int.reduceMul, eq_self]
      rw [zm (szn (by rw [List.length_map]; omega))]
      simp only [wq_a, wq_b, wq_c, wq_d, wq_e, wq_f, wq_g, Int.reduceToNat, Int.reduceLE, Int.reduceLT, Int.reduceNeg, startD, List.replicate, Nat.reduceAdd, Nat.reduceSub, Nat.reduceEqDiff, if_true, if_false, Int.reduceEq, Int.reduceAdd, Int.reduceSub, Int.reduceMul, eq_self]
      rw [w_appL th_0 (by rw [sizeLine_eq, List.length_map]; omega), th_s0]
      simp only [wq_a, wq_b, wq_c, wq_d, wq_e, wq_f, wq_g, Int.reduceToNat, Int.reduceLE, Int.reduceLT, Int.reduceNeg, startD, List.replicate, Nat.reduceAdd, Nat.reduceSub, Nat.reduceEqDiff, if_true, if_false, Int.reduceEq, Int.reduceAdd, Int.reduceSub, Int.reduceMul, eq_self, x2, ln2]
      rw [zm (rng_okI (by omega) (by omega)), Int.toNat_natCast]
      simp only [wq_a, wq_b, wq_c, wq_d, wq_e, wq_f, wq_g, Int.reduceToNat, Int.reduceLE, Int.reduceLT, Int.reduceNeg, startD, List.replicate, Nat.reduceAdd, Nat.reduceSub, Nat.reduceEqDiff, if_true, if_false, Int.reduceEq, Int.reduceAdd, Int.reduceSub, Int.reduceMul, eq_self]
      have gd0 : D.frl (t.map sW ++ [sW ((allB ins).getD k [])]) = .frl ((fnR ins rows ((i, k), none)).map sW) := by
        show _ = D.frl ((road ins rows i ++ [(allB ins).getD k []]).map sW)
        rw [htt, List.map_append]
        rfl
      refine w_rangeP (fun n sd S' => ∃ (ys : List Yr) (c8 c10 : Option D), ys.map (·.1) = pre.flatMap (wrsI ins rows) ++ (List.range k).flatMap (wrsK ins rows i) ++ ((i, k), none) :: wrsO ins rows i k (List.range n) ∧ (∀ y ∈ ys, y.2 = .frl ((fnR ins rows y.1).map sW)) ∧ S' = S ++ [.lst (ys.map (yD ins)), .dic 0 (KV (rs ins rows rows.length)), w0] ∧ sd = [some PP, some (.ref S.length), some (.frl ((allB ins).map sW)), some (.ref (S.length + 1)), some (.ref (S.length + 2)), c5, some (.int ((i : Nat) : Int)), some (sW ((allB ins).getD k [])), c8, c9, c10]) 0 rows.length (fun _ _ _ _ _ => rfl) ⟨ys ++ [(((i, k), none), .frl (t.map sW ++ [sW ((allB ins).getD k [])]))], _, _, ?_, fun y hy => ?_, ?_, rfl⟩ ?_ ?_
      · rw [List.map_append, hy]
        rfl
      · rcases List.mem_append.mp hy with h | h
        · exact hg y h
        · rw [List.mem_singleton.mp h]
          exact gd0
      · rw [List.map_append]
        rfl
      · rintro sd S' ⟨ys, c8, c10, hy, hg, rfl, rfl⟩
        refine ⟨ys, _, _, _, ?_, hg, rfl, rfl⟩
        rw [hy, List.length_append, List.length_singleton, hkk, List.range_succ, List.flatMap_append, List.flatMap_cons, List.flatMap_nil, List.append_nil, List.append_assoc]
        rfl
      · rintro o sd S' ho ⟨ys, c8, c10, hy, hg, rfl, rfl⟩
        have hw3 := wrsO_len (ins := ins) (i := i) (k := k) (rows := rows) (os := List.range o)
        rw [List.length_range] at hw3
        have hyl : ys.length ≤ 16 * 272 + 272 + 20 := by
          have := congrArg List.length hy
          rw [List.length_map, List.length_append, List.length_append, List.length_cons] at this
          have := Nat.mul_le_mul_right 272 hpl
          omega
        simp only [wq_a, wq_b, wq_c, wq_d, wq_e, wq_f, wq_g, Int.reduceToNat, Int.reduceLE, Int.reduceLT, Int.reduceNeg, startD, List.replicate, Nat.reduceAdd, Nat.reduceSub, Nat.reduceEqDiff, if_true, if_false, Int.reduceEq, Int.reduceAdd, Int.reduceSub, Int.reduceMul, eq_self, Int.zero_add, la _ _ _ hi hbl, enD]
        by_cases hq : o = (ansAt rows i k).2
        · rw [if_neg (by rw [decide_eq_true (by omega)]; simp)]
          simp only [wq_a, wq_b, wq_c, wq_d, wq_e, wq_f, wq_g, Int.reduceToNat, Int.reduceLE, Int.reduceLT, Int.reduceNeg, startD, List.replicate, Nat.reduceAdd, Nat.reduceSub, Nat.reduceEqDiff, if_true, if_false, Int.reduceEq, Int.reduceAdd, Int.reduceSub, Int.reduceMul, eq_self]
          refine ⟨ys, _, _, ?_, hg, rfl, rfl⟩
          rw [hy, wrsO_snoc, if_neg (by rw [decide_eq_true hq]; simp), List.append_nil]
        · rw [if_pos (by rw [decide_eq_false (by omega)]; rfl)]
          simp only [wq_a, wq_b, wq_c, wq_d, wq_e, wq_f, wq_g, Int.reduceToNat, Int.reduceLE, Int.reduceLT, Int.reduceNeg, startD, List.replicate, Nat.reduceAdd, Nat.reduceSub, Nat.reduceEqDiff, if_true, if_false, Int.reduceEq, Int.reduceAdd, Int.reduceSub, Int.reduceMul, eq_self, lc _ _ _ _ hi hbl]
          have lb := fun S => lw S i k o hi hbl ho
          rw [show btw rows (chg rows i k o) (allB ins) (2 * (rows.length * (chg rows i k o).length) + 3) [((0, 0), [])] [(0, 0)] = Rb ins rows (chg rows i k o) 0 0 from rfl] at lb
          have lb' : ∀ S : Sto, F__law_between [PP, plD ins outs (chg rows i k o), .int 0, .int 0] S = .ok (btwD (Rb ins rows (chg rows i k o) 0 0)) S := lb
          simp only [lb', wq_a, wq_b, wq_c, wq_d, wq_e, wq_f, wq_g, Int.reduceToNat, Int.reduceLE, Int.reduceLT, Int.reduceNeg, startD, List.replicate, Nat.reduceAdd, Nat.reduceSub, Nat.reduceEqDiff, if_true, if_false, Int.reduceEq, Int.reduceAdd, Int.reduceSub, Int.reduceMul, eq_self]
          cases hr : Rb ins rows (chg rows i k o) 0 0 with
          | none =>
            simp only [btwD, wq_a, wq_b, wq_c, wq_d, wq_e, wq_f, wq_g, Int.reduceToNat, Int.reduceLE, Int.reduceLT, Int.reduceNeg, startD, List.replicate, Nat.reduceAdd, Nat.reduceSub, Nat.reduceEqDiff, if_true, if_false, Int.reduceEq, Int.reduceAdd, Int.reduceSub, Int.reduceMul, eq_self]
            refine ⟨ys, _, _, ?_, hg, rfl, rfl⟩
            rw [hy, wrsO_snoc, hr, if_neg (by simp), List.append_nil]
          | some r =>
            simp only [btwD, wq_a, wq_b, wq_c, wq_d, wq_e, wq_f, wq_g, Int.reduceToNat, Int.reduceLE, Int.reduceLT, Int.reduceNeg, startD, List.replicate, Nat.reduceAdd, Nat.reduceSub, Nat.reduceEqDiff, if_true, if_false, Int.reduceEq, Int.reduceAdd, Int.reduceSub, Int.reduceMul, eq_self]
            rw [zm (isTy_lst th_0)]
            simp only [wq_a, wq_b, wq_c, wq_d, wq_e, wq_f, wq_g, Int.reduceToNat, Int.reduceLE, Int.reduceLT, Int.reduceNeg, startD, List.replicate, Nat.reduceAdd, Nat.reduceSub, Nat.reduceEqDiff, if_true, if_false, Int.reduceEq, Int.reduceAdd, Int.reduceSub, Int.reduceMul, eq_self]
            rw [w_appL th_0 (by rw [sizeLine_eq, List.length_map]; omega), th_s0]
            refine ⟨ys ++ [(((i, k), some o), .frl (r.map sW))], _, _, ?_, fun y hy => ?_, ?_, rfl⟩
            · rw [List.map_append, hy, wrsO_snoc, hr, if_pos (by rw [decide_eq_false hq]; rfl)]
              simp only [List.append_assoc, List.cons_append]
              rfl
            · rcases List.mem_append.mp hy with h | h
              · exact hg y h
              · rw [List.mem_singleton.mp h]
                show D.frl (r.map sW) = .frl ((fnR ins rows ((i, k), some o)).map sW)
                unfold fnR
                dsimp only
                rw [hr]
                rfl
            · rw [List.map_append]
              rfl

theorem law_wrong2_ok {ins outs : Nat} {rows : List (List En)} {S : Sto} (P : PM ins outs rows) (hn : rows.length ≤ 16) :
    ∃ ys : List Yr, ys.map (·.1) = allW ins rows ∧ (∀ y ∈ ys, y.2 = .frl ((fnR ins rows y.1).map sW)) ∧ F__law_wrong [plD ins outs rows] S = .ok (.frl (ys.map (yD ins))) S := by
  have i4 := P.i4
  have main : Wp (dFn 11 b__law_wrong [plD ins outs rows] S) (fun d S' => ∃ ys : List Yr, ys.map (·.1) = allW ins rows ∧ (∀ y ∈ ys, y.2 = .frl ((fnR ins rows y.1).map sW)) ∧ d = .frl (ys.map (yD ins)) ∧ ∃ T, S' = S ++ T) NX := by
    rw [w_dFn]
    show Wp (b__law_wrong [some (plD ins outs rows), none, none, none, none, none, none, none, none, none, none] S) _ _
    rw [eqb__law_wrong]
    have x0 : ∀ {S : Sto}, Wp (ixD (plD ins outs rows) (.int 0) S) = Wp (.ok (.int ((ins : Nat) : Int)) S) := rfl
    have hlb := fun S : Sto => law_beats_ok (S := S) ins (39 - ins) (by omega)
    rw [show ins + 1 + (39 - ins) = 40 by omega] at hlb
    simp only [wq_a, wq_b, wq_c, wq_d, wq_e, wq_f, wq_g, Int.reduceToNat, Int.reduceLE, Int.reduceLT, Int.reduceNeg, startD, List.replicate, Nat.reduceAdd, Nat.reduceSub, Nat.reduceEqDiff, if_true, if_false, Int.reduceEq, Int.reduceAdd, Int.reduceSub, Int.reduceMul, eq_self, x0, hlb]
    rw [show (true && decide (1 ≤ 15)) = true from rfl]
    rw [show (S ++ [DO.lst []]).length = S.length + 1 by simp, show mergeD [] [(D.int 0, D.frl [])] = [(nI 0, .frl [])] from rfl]
    simp only [wq_a, wq_b, wq_c, wq_d, wq_e, wq_f, wq_g, Int.reduceToNat, Int.reduceLE, Int.reduceLT, Int.reduceNeg, startD, List.replicate, Nat.reduceAdd, Nat.reduceSub, Nat.reduceEqDiff, if_true, if_false, Int.reduceEq, Int.reduceAdd, Int.reduceSub, Int.reduceMul, eq_self]
    rw [show ((S ++ [DO.lst []]) ++ [DO.dic 0 [(nI 0, .frl [])]]).length = S.length + 2 by simp, show ((S ++ [DO.lst []]) ++ [DO.dic 0 [(nI 0, .frl [])]]) ++ [DO.lst [D.int 0]] = S ++ [DO.lst [], DO.dic 0 [(nI 0, .frl [])], DO.lst [nI 0]] by simp [nI]]
    refine Wp.mono (roads2_ok P hn) ?_ (fun _ _ z => z)
    rintro _ S1 ⟨c5, c6, c7, c9, rfl, rfl⟩
    simp only [wq_a, wq_b, wq_c, wq_d, wq_e, wq_f, wq_g, Int.reduceToNat, Int.reduceLE, Int.reduceLT, Int.reduceNeg, startD, List.replicate, Nat.reduceAdd, Nat.reduceSub, Nat.reduceEqDiff, if_true, if_false, Int.reduceEq, Int.reduceAdd, Int.reduceSub, Int.reduceMul, eq_self]
    refine Wp.mono (wrong3_ok P hn) ?_ (fun _ _ z => z)
    rintro _ S2 ⟨ys, d5, d6, d7, d8, d9, d10, hy, hg, rfl, rfl⟩
    simp only [wq_a, wq_b, wq_c, wq_d, wq_e, wq_f, wq_g, Int.reduceToNat, Int.reduceLE, Int.reduceLT, Int.reduceNeg, startD, List.replicate, Nat.reduceAdd, Nat.reduceSub, Nat.reduceEqDiff, if_true, if_false, Int.reduceEq, Int.reduceAdd, Int.reduceSub, Int.reduceMul, eq_self, w_dFrz]
    rw [frz_at th_0, th_s0]
    exact ⟨ys, hy, hg, by first | rfl | trivial, _, rfl⟩
  obtain ⟨d, S', e, ys, h1, h2, rfl, T, rfl⟩ := Wp.ok main
  refine ⟨ys, h1, h2, ?_⟩
  unfold F__law_wrong
  refine fn_ok (gd_blw (n := 3) _ (gd_frl fun d hd => ?_)) ?_
  · obtain ⟨y, hy, rfl⟩ := List.mem_map.mp hd
    refine gd_tup fun d hd => ?_
    have : d = wrL ins y.1 ∨ d = y.2 := by simpa using hd
    rcases this with rfl | rfl
    · exact wrL_gd _
    · rw [h2 y hy]
      exact sWs_gd
  · have m2 : Wp (dFn 11 b__law_wrong [plD ins outs rows] S) (fun d S' => d = .frl (ys.map (yD ins)) ∧ ∃ T, S' = S ++ T) NX := by rw [e]; exact ⟨rfl, T, rfl⟩
    rw [w_dFn] at m2
    exact m2

end Lw

namespace Lw
open PySem PySem.Spec PyProof.Rows L2 DL
theorem at_q {S T : Sto} {d x : DO} : (S ++ d :: (T ++ [x]))[S.length + 1 + T.length]? = some x := by
  rw [List.getElem?_append_right (by omega)]
  have : S.length + 1 + T.length - S.length = T.length + 1 := by omega
  rw [this, List.getElem?_cons_succ, List.getElem?_append_right (by omega)]
  simp
theorem set_q {S T : Sto} {d x y : DO} : (S ++ d :: (T ++ [x])).set (S.length + 1 + T.length) y = S ++ d :: (T ++ [y]) := by
  have e : ∀ z : DO, S ++ d :: (T ++ [z]) = (S ++ d :: T) ++ [z] := fun z => by simp
  have l : (S ++ d :: T).length = S.length + 1 + T.length := by simp; omega
  rw [e, e, ← l, set_last]
theorem zipB_map {bs : List (List Bool)} {row : List En} : zipL (bs.map sW) (row.map enD) = (bs.zip row).map fun p => D.tup [sW p.1, enD p.2] := by
  induction bs generalizing row with
  | nil => rfl
  | cons b bs ih =>
    cases row with
    | nil => rfl
    | cons e row =>
      show D.tup _ :: zipL (bs.map sW) (row.map enD) = _
      rw [ih]
      rfl
theorem outE_zip {ins : Nat} {row : List En} : outE ins row = ((allB ins).zip row).map fun p => (p.1, p.2.2) := by
  unfold outE
  rw [List.zip_map_right]
  rfl
theorem rs_stop {ins : Nat} {rows : List (List En)} {k : Nat} (h : (rs ins rows k).length ≤ k) : ∀ j, rs ins rows (k + j) = rs ins rows k
  | 0 => rfl
  | j + 1 => by
    have ih := rs_stop h j
    show stR ins rows (k + j) (rs ins rows (k + j)) = _
    unfold stR
    rw [ih, List.getElem?_eq_none (by omega)]
theorem rs_le {ins outs : Nat} {rows : List (List En)} (P : PM ins outs rows) (k : Nat) : (rs ins rows k).length ≤ rows.length := by
  have := (sq_met P k).le
  rw [← rs_keys P, List.length_map] at this
  exact this
theorem road_stay {ins outs : Nat} {rows : List (List En)} {k r : Nat} (P : PM ins outs rows) (hk : k ≤ rows.length) (h : r ∈ (rs ins rows k).map (·.1)) : rd (rs ins rows k) r = road ins rows r := by
  obtain ⟨g, hg⟩ := rs_keep (ins := ins) (rows := rows) k (rows.length - k)
  rw [show k + (rows.length - k) = rows.length by omega] at hg
  unfold road
  rw [hg, rd_app h]
theorem rs_more {ins outs : Nat} {rows : List (List En)} {k r : Nat} (P : PM ins outs rows) (hk : k ≤ rows.length) (hr : r ∈ metL rows) (h : r ∉ (rs ins rows k).map (·.1)) : k < (rs ins rows k).length := by
  by_cases hl : (rs ins rows k).length ≤ k
  · have := rs_stop hl (rows.length - k)
    rw [show k + (rows.length - k) = rows.length by omega] at this
    rw [← sq_end P, ← rs_keys P, this] at hr
    exact absurd hr h
  · omega
theorem road_to_ok {ins outs r : Nat} {rows : List (List En)} {S : Sto} (P : PM ins outs rows) (hn : rows.length ≤ 16) (hr : r ∈ metL rows) : F_road_to [plD ins outs rows, .int ((r : Nat) : Int)] S = .ok (.frl ((road ins rows r).map sW)) S := by
  have i4 := P.i4
  have p16 := pow_le i4
  have n1 := P.n1
  unfold F_road_to
  refine fn_ok (gd_blw (n := 1) _ sWs_gd) ?_
  unfold b_road_to
  have ab := fun S => all_beats_ok (n := ins) (S := S) i4
  have x0 : ∀ {S : Sto} {Q : D → Sto → Prop} {X : Exc → Sto → Prop}, Wp (ixD (plD ins outs rows) (.int 0) S) Q X = Q (.int ((ins : Nat) : Int)) S := rfl
  have x2 : ∀ {S : Sto} {Q : D → Sto → Prop} {X : Exc → Sto → Prop}, Wp (ixD (plD ins outs rows) (.int 2) S) Q X = Q (.tup (rows.map rowD)) S := rfl
  have hat : ∀ i, i < rows.length → atI (rows.map rowD) ((i : Nat) : Int) = some (rowD (rowAt rows i)) := fun i hi => by
    rw [atI_pos (by omega)]
    simp [rowAt, List.getD_eq_getElem?_getD, hi]
  generalize plD ins outs rows = PP at x0 x2 ⊢
  simp only [wq_a, wq_b, wq_c, wq_d, wq_e, wq_f, wq_g, Int.reduceToNat, Int.reduceLE, Int.reduceLT, Int.reduceNeg, startD, List.replicate, Nat.reduceAdd, Nat.reduceSub, Nat.reduceEqDiff, if_true, if_false, Int.reduceEq, Int.reduceAdd, Int.reduceSub, Int.reduceMul, eq_self, x0, ab]
  rw [show (true && decide (1 ≤ 15)) = true from rfl]
  rw [show mergeD [] [(D.int 0, D.frl [])] = KV (rs ins rows 0) from rfl]
  simp only [wq_a, wq_b, wq_c, wq_d, wq_e, wq_f, wq_g, Int.reduceToNat, Int.reduceLE, Int.reduceLT, Int.reduceNeg, startD, List.replicate, Nat.reduceAdd, Nat.reduceSub, Nat.reduceEqDiff, if_true, if_false, Int.reduceEq, Int.reduceAdd, Int.reduceSub, Int.reduceMul, eq_self]
  refine w_while (fun m sd S' => ∃ (n : Nat) (T : Sto) (a5 a6 a7 a8 a9 : Option D), m = rows.length + 1 - n ∧ n ≤ (rs ins rows n).length ∧ S' = S ++ .dic 0 (KV (rs ins rows n)) :: T ∧ sd = [some PP, some (.int ((r : Nat) : Int)), some (.frl ((allB ins).map sW)), some (.ref S.length), some (.frl ((((rs ins rows n).drop n).map (·.1)).map nI)), a5, a6, a7, a8, a9]) ?_ fuelW (rows.length + 1) _ _ (by unfold fuelW; omega) ⟨0, [], _, _, _, _, _, rfl, Nat.zero_le _, rfl, rfl⟩
  rintro m sd S' ⟨n, T, a5, a6, a7, a8, a9, rfl, hnl, rfl, rfl⟩
  have hle := rs_le P n
  simp only [wq_a, wq_b, wq_c, wq_d, wq_e, wq_f, wq_g, Int.reduceToNat, Int.reduceLE, Int.reduceLT, Int.reduceNeg, startD, List.replicate, Nat.reduceAdd, Nat.reduceSub, Nat.reduceEqDiff, if_true, if_false, Int.reduceEq, Int.reduceAdd, Int.reduceSub, Int.reduceMul, eq_self]
  rw [w_notInDic (dic_at (get_mid rfl) (show (key0 (D.int ((r : Nat) : Int))).isSome = true from rfl)), show (getK (KV (rs ins rows n)) (D.int ((r : Nat) : Int))).isSome = _ from KV_in]
  by_cases hin : r ∈ (rs ins rows n).map (·.1)
  · simp only [decide_eq_true hin, Bool.not_true, wq_a, wq_b, wq_c, wq_d, wq_e, wq_f, wq_g, Int.reduceToNat, Int.reduceLE, Int.reduceLT, Int.reduceNeg, startD, List.replicate, Nat.reduceAdd, Nat.reduceSub, Nat.reduceEqDiff, if_true, if_false, Int.reduceEq, Int.reduceAdd, Int.reduceSub, Int.reduceMul, eq_self]
    rw [w_ixDic ((dic_at (get_mid rfl) (show (key0 (D.int ((r : Nat) : Int))).isSome = true from rfl)).trans (by rw [show (D.int ((r : Nat) : Int)) = nI r from rfl, KV_get hin, road_stay P (by omega) hin]))]
    simp only [wq_a, wq_b, wq_c, wq_d, wq_e, wq_f, wq_g, Int.reduceToNat, Int.reduceLE, Int.reduceLT, Int.reduceNeg, startD, List.replicate, Nat.reduceAdd, Nat.reduceSub, Nat.reduceEqDiff, if_true, if_false, Int.reduceEq, Int.reduceAdd, Int.reduceSub, Int.reduceMul, eq_self]
    exact ⟨by first | rfl | trivial, _, rfl⟩
  · have hmore := rs_more P (by omega) hr hin
    simp only [decide_eq_false hin, Bool.not_false, wq_a, wq_b, wq_c, wq_d, wq_e, wq_f, wq_g, Int.reduceToNat, Int.reduceLE, Int.reduceLT, Int.reduceNeg, startD, List.replicate, Nat.reduceAdd, Nat.reduceSub, Nat.reduceEqDiff, if_true, if_false, Int.reduceEq, Int.reduceAdd, Int.reduceSub, Int.reduceMul, eq_self, itemsD, List.map_map]
    have eL : (S ++ DO.dic 0 (KV (rs ins rows n)) :: T).length = S.length + 1 + T.length := by simp; omega
    have eS : S ++ DO.dic 0 (KV (rs ins rows n)) :: T ++ [DO.lst []] = S ++ DO.dic 0 (KV (rs ins rows n)) :: (T ++ [.lst []]) := by simp
    rw [eL, eS]
    obtain ⟨N, hN⟩ : ∃ N, N = (rs ins rows n).length := ⟨_, rfl⟩
    have hNr : N ≤ rows.length := by rw [hN]; exact hle
    refine w_loopP (fun p : Nat × RowB => nI p.1) (fun pre sd S' => ∃ (b6 b7 b8 b9 : Option D), S' = S ++ DO.dic 0 (KV (rs ins rows (n + pre.length))) :: (T ++ [.lst ((((rs ins rows (n + pre.length)).drop N).map (·.1)).map nI)]) ∧ sd = [some PP, some (.int ((r : Nat) : Int)), some (.frl ((allB ins).map sW)), some (.ref S.length), some (.frl (((rs ins rows n).drop n).map (nI ∘ fun x => x.1))), some (.ref (S.length + 1 + T.length)), b6, b7, b8, b9]) ((rs ins rows n).drop n) (fun _ _ _ _ _ _ => rfl) ⟨_, _, _, _, by rw [List.length_nil, Nat.add_zero, List.drop_of_length_le (Nat.le_of_eq hN.symm)]; rfl, rfl⟩ ?_ ?_
    · rintro sd S' ⟨b6, b7, b8, b9, rfl, rfl⟩
      have hlen : n + ((rs ins rows n).drop n).length = N := by rw [List.length_drop]; omega
      rw [hlen]
      simp only [wq_a, wq_b, wq_c, wq_d, wq_e, wq_f, wq_g, Int.reduceToNat, Int.reduceLE, Int.reduceLT, Int.reduceNeg, startD, List.replicate, Nat.reduceAdd, Nat.reduceSub, Nat.reduceEqDiff, if_true, if_false, Int.reduceEq, Int.reduceAdd, Int.reduceSub, Int.reduceMul, eq_self, w_dFrz]
      rw [frz_at at_q, set_q]
      simp only [wq_a, wq_b, wq_c, wq_d, wq_e, wq_f, wq_g, Int.reduceToNat, Int.reduceLE, Int.reduceLT, Int.reduceNeg, startD, List.replicate, Nat.reduceAdd, Nat.reduceSub, Nat.reduceEqDiff, if_true, if_false, Int.reduceEq, Int.reduceAdd, Int.reduceSub, Int.reduceMul, eq_self]
      obtain ⟨g, hg⟩ := rs_keep (ins := ins) (rows := rows) n (N - n)
      rw [show n + (N - n) = N by omega] at hg
      refine ⟨rows.length + 1 - N, by omega, N, T ++ [.dead], some (.ref (S.length + 1 + T.length)), b6, b7, b8, b9, rfl, by rw [hg, List.length_append]; omega, rfl, by rw [List.map_map]⟩
    · rintro pre p post sd S' epp ⟨b6, b7, b8, b9, rfl, rfl⟩
      have hpl : n + pre.length < N := by
        have := congrArg List.length epp
        rw [List.length_drop, List.length_append, List.length_cons] at this
        omega
      have hget : (rs ins rows (n + pre.length))[n + pre.length]? = some p := by
        obtain ⟨g, hg⟩ := rs_keep (ins := ins) (rows := rows) n pre.length
        rw [hg, List.getElem?_append_left (by omega)]
        have : ((rs ins rows n).drop n)[pre.length]? = some p := by rw [epp]; simp
        rwa [List.getElem?_drop] at this
      have hNg : N ≤ (rs ins rows (n + pre.length)).length := by
        obtain ⟨g, hg⟩ := rs_keep (ins := ins) (rows := rows) n pre.length
        rw [hg, List.length_append]
        omega
      have hnext : rs ins rows (n + (pre ++ [p]).length) = (outE ins (rowAt rows p.1)).foldl (stepR p.2) (rs ins rows (n + pre.length)) := by
        rw [List.length_append, List.length_singleton]
        show stR ins rows (n + pre.length) (rs ins rows (n + pre.length)) = _
        unfold stR
        rw [hget]
      have hM := sq_met P (n + pre.length)
      have hok := rs_ok (ins := ins) (rows := rows) (n + pre.length)
      rw [← rs_keys P] at hM
      rw [hnext]
      generalize hm0 : n + pre.length = m0 at hget hM hok hNg hpl
      generalize rs ins rows m0 = g at hget hM hok hNg ⊢
      have hgl : m0 < g.length := (List.getElem?_eq_some_iff.mp hget).1
      have hpm := List.mem_of_getElem? hget
      have hrl : p.1 < rows.length := hM.lt _ (List.mem_map.mpr ⟨p, hpm, rfl⟩)
      have hrow : (rowAt rows p.1).length = 2 ^ ins := P.len _ (row_mem hrl)
      have hself := rd_self hM.nd hpm
      have hpin : p.1 ∈ g.map (·.1) := List.mem_map.mpr ⟨p, hpm, rfl⟩
      have hp2 := (hok p hpm).1
      have hgle := hM.le
      rw [List.length_map] at hgle
      have hg0 : (g.map (·.1)).getD m0 0 = p.1 := by rw [List.getD_eq_getElem?_getD, List.getElem?_map, hget]; rfl
      have hzs : ((allB ins).zip (rowAt rows p.1)).map (·.2) = rowAt rows p.1 := by
        rw [List.map_snd_zip]
        rw [allB_many, hrow]
        exact Nat.le_refl _
      rw [outE_zip]
      have hit := hat p.1 hrl
      simp only [wq_a, wq_b, wq_c, wq_d, wq_e, wq_f, wq_g, Int.reduceToNat, Int.reduceLE, Int.reduceLT, Int.reduceNeg, startD, List.replicate, Nat.reduceAdd, Nat.reduceSub, Nat.reduceEqDiff, if_true, if_false, Int.reduceEq, Int.reduceAdd, Int.reduceSub, Int.reduceMul, eq_self, nI, x2, hit, itemsD]
      rw [show rowD (rowAt rows p.1) = .tup ((rowAt rows p.1).map enD) from rfl]
      simp only [wq_a, wq_b, wq_c, wq_d, wq_e, wq_f, wq_g, Int.reduceToNat, Int.reduceLE, Int.reduceLT, Int.reduceNeg, startD, List.replicate, Nat.reduceAdd, Nat.reduceSub, Nat.reduceEqDiff, if_true, if_false, Int.reduceEq, Int.reduceAdd, Int.reduceSub, Int.reduceMul, eq_self, itemsD, zipB_map]
      have hgk : ∀ (pre2 post2 : List (List Bool × En)), pre2 ++ post2 = (allB ins).zip (rowAt rows p.1) → ((pre2.map fun z => (z.1, z.2.2)).foldl (stepR p.2) g).map (·.1) = addNew (g.map (·.1)) (pre2.map (·.2)) := fun pre2 post2 _ => fold_keys _ _ _ _ (by rw [List.map_map, List.map_map]; rfl)
      refine w_loopP (fun z : List Bool × En => D.tup [sW z.1, enD z.2]) (fun pre2 sd S' => ∃ (d7 d8 d9 : Option D), S' = S ++ .dic 0 (KV ((pre2.map fun z => (z.1, z.2.2)).foldl (stepR p.2) g)) :: (T ++ [.lst ((((((pre2.map fun z => (z.1, z.2.2)).foldl (stepR p.2) g)).drop N).map (·.1)).map nI)]) ∧ sd = [some PP, some (.int ((r : Nat) : Int)), some (.frl ((allB ins).map sW)), some (.ref S.length), some (.frl (((rs ins rows n).drop n).map (nI ∘ fun x => x.1))), some (.ref (S.length + 1 + T.length)), some (.int ((p.1 : Nat) : Int)), d7, d8, d9]) ((allB ins).zip (rowAt rows p.1)) (fun _ _ _ _ _ _ => rfl) ⟨_, _, _, rfl, rfl⟩ ?_ ?_
      · rintro sd S' ⟨d7, d8, d9, rfl, rfl⟩
        exact ⟨_, _, _, _, rfl, rfl⟩
      · rintro pre2 z post2 sd S' ez ⟨d7, d8, d9, rfl, rfl⟩
        have hzm : z ∈ (allB ins).zip (rowAt rows p.1) := by rw [ez]; simp
        have hnx : z.2.2 < rows.length := P.nxt _ (row_mem hrl) _ (by
          have : z.2 ∈ ((allB ins).zip (rowAt rows p.1)).map (·.2) := List.mem_map.mpr ⟨z, hzm, rfl⟩
          rwa [hzs] at this)
        have hM1 : Met rows (addNew (g.map (·.1)) (pre2.map (·.2))) := hM.row P.nxt (by rw [List.length_map]; exact hgl) _ ((z :: post2).map (·.2)) (by rw [hg0, ← List.map_append, ← ez, hzs])
        rw [← hgk pre2 (z :: post2) ez.symm] at hM1
        obtain ⟨ext, hext⟩ := fold_keep (pre2.map fun z => (z.1, z.2.2)) p.2 g
        rw [List.map_append, List.foldl_append, List.map_singleton, List.foldl_cons, List.foldl_nil]
        generalize (pre2.map fun z => (z.1, z.2.2)).foldl (stepR p.2) g = h at hM1 hext ⊢
        have hrd : rd h p.1 = p.2 := by rw [hext, rd_app hpin, hself]
        have hin2 : p.1 ∈ h.map (·.1) := by
          rw [hext, List.map_append]
          exact List.mem_append_left _ hpin
        have hNh : N ≤ h.length := by rw [hext, List.length_append]; omega
        have hhl := hM1.le
        rw [List.length_map] at hhl
        obtain ⟨zb, zd, zn⟩ := z
        simp only [wq_a, wq_b, wq_c, wq_d, wq_e, wq_f, wq_g, Int.reduceToNat, Int.reduceLE, Int.reduceLT, Int.reduceNeg, startD, List.replicate, Nat.reduceAdd, Nat.reduceSub, Nat.reduceEqDiff, if_true, if_false, Int.reduceEq, Int.reduceAdd, Int.reduceSub, Int.reduceMul, eq_self, enD, gTupD]
        rw [w_notInDic (dic_at (get_mid rfl) (show (key0 (D.int ((zn : Nat) : Int))).isSome = true from rfl)), show (getK (KV h) (D.int ((zn : Nat) : Int))).isSome = _ from KV_in]
        unfold stepR
        dsimp only at hnx ⊢
        by_cases hin3 : zn ∈ h.map (·.1)
        · rw [if_pos hin3, decide_eq_true hin3]
          simp only [wq_a, wq_b, wq_c, wq_d, wq_e, wq_f, wq_g, Int.reduceToNat, Int.reduceLE, Int.reduceLT, Int.reduceNeg, startD, List.replicate, Nat.reduceAdd, Nat.reduceSub, Nat.reduceEqDiff, if_true, if_false, Int.reduceEq, Int.reduceAdd, Int.reduceSub, Int.reduceMul, eq_self]
          exact ⟨_, _, _, by first | rfl | trivial, rfl⟩
        · rw [if_neg hin3, decide_eq_false hin3]
          simp only [wq_a, wq_b, wq_c, wq_d, wq_e, wq_f, wq_g, Int.reduceToNat, Int.reduceLE, Int.reduceLT, Int.reduceNeg, startD, List.replicate, Nat.reduceAdd, Nat.reduceSub, Nat.reduceEqDiff, if_true, if_false, Int.reduceEq, Int.reduceAdd, Int.reduceSub, Int.reduceMul, eq_self]
          rw [w_ixDic (dic_at (get_mid rfl) (show (key0 (D.int ((p.1 : Nat) : Int))).isSome = true from rfl) |>.trans (by rw [show (D.int ((p.1 : Nat) : Int)) = nI p.1 from rfl, KV_get hin2, hrd]))]
          simp only [wq_a, wq_b, wq_c, wq_d, wq_e, wq_f, wq_g, Int.reduceToNat, Int.reduceLE, Int.reduceLT, Int.reduceNeg, startD, List.replicate, Nat.reduceAdd, Nat.reduceSub, Nat.reduceEqDiff, if_true, if_false, Int.reduceEq, Int.reduceAdd, Int.reduceSub, Int.reduceMul, eq_self]
          rw [zm (szn (by rw [List.length_map]; omega))]
          simp only [wq_a, wq_b, wq_c, wq_d, wq_e, wq_f, wq_g, Int.reduceToNat, Int.reduceLE, Int.reduceLT, Int.reduceNeg, startD, List.replicate, Nat.reduceAdd, Nat.reduceSub, Nat.reduceEqDiff, if_true, if_false, Int.reduceEq, Int.reduceAdd, Int.reduceSub, Int.reduceMul, eq_self]
          rw [w_setDic (get_mid rfl) rfl (by rw [sizeLine_eq, KV_len]; omega), set_mid rfl]
          simp only [wq_a, wq_b, wq_c, wq_d, wq_e, wq_f, wq_g, Int.reduceToNat, Int.reduceLE, Int.reduceLT, Int.reduceNeg, startD, List.replicate, Nat.reduceAdd, Nat.reduceSub, Nat.reduceEqDiff, if_true, if_false, Int.reduceEq, Int.reduceAdd, Int.reduceSub, Int.reduceMul, eq_self]
          rw [zm (isTy_lst at_q)]
          simp only [wq_a, wq_b, wq_c, wq_d, wq_e, wq_f, wq_g, Int.reduceToNat, Int.reduceLE, Int.reduceLT, Int.reduceNeg, startD, List.replicate, Nat.reduceAdd, Nat.reduceSub, Nat.reduceEqDiff, if_true, if_false, Int.reduceEq, Int.reduceAdd, Int.reduceSub, Int.reduceMul, eq_self]
          rw [w_appL at_q (by rw [sizeLine_eq, List.length_map, List.length_map, List.length_drop]; omega), set_q]
          refine ⟨_, _, _, ?_, rfl⟩
          have hput := KV_put (t := p.2 ++ [zb]) hin3
          rw [List.map_append] at hput
          have hput' : putD (KV h) (.int ((zn : Nat) : Int)) (.frl (p.2.map sW ++ [sW zb])) = KV (h ++ [(zn, p.2 ++ [zb])]) := hput
          rw [List.drop_append_of_le_length hNh, List.map_append, List.map_append]
          exact congrArg (fun y => S ++ DO.dic 0 y :: _) hput'

end Lw

namespace Lw
open PySem PySem.Spec PyProof.Rows L2 DL
theorem row_coreR {ins o1 o2 a b : Nat} {r1 r2 : List (List En)} {S : Sto} (P1 : PM ins o1 r1) (P2 : PM ins o2 r2) (ha : a < r1.length) (hb : b < r2.length) :
    Wp (br_row_between (startD 17 [.int ((ins : Nat) : Int), .tup (r1.map rowD), .tup (r2.map rowD), .int ((a : Nat) : Int), .int ((b : Nat) : Int)]) S) (kFn fun d S' => match btw r1 r2 (allB ins) (2 * (r1.length * r2.length) + 3) [((a, b), [])] [(a, b)] with
      | none => d = .non ∧ ∃ T, S' = S ++ T
      | some r => ∃ l T, d = .ref l ∧ S' = S ++ T ∧ S'[l]? = some (.lst (r.map sW)) ∧ S.length ≤ l) NX := by
  have i4 := P1.i4
  have p16 := pow_le i4
  have hN1 := P1.n200
  have hN2 := P2.n200
  have hNN : r1.length * r2.length ≤ 40000 := Nat.le_trans (Nat.mul_le_mul hN1 hN2) (by decide)
  have hlb := fun S : Sto => all_beats_ok (S := S) i4
  unfold br_row_between
  generalize hR : btw r1 r2 (allB ins) (2 * (r1.length * r2.length) + 3) [((a, b), [])] [(a, b)] = R0
  have hBl := allB_many ins
  generalize hB : allB ins = B at *
  have pk0 : nokD (.tup [.int ((a : Nat) : Int), .int ((b : Nat) : Int)]) = true := prD_ok (p := (a, b))
  simp only [z6, z5, wq_a, wq_b, wq_c, wq_d, wq_e, wq_f, wq_g, Int.reduceToNat, Int.reduceLE, Int.reduceLT, Int.reduceNeg, startD, List.replicate, Nat.reduceAdd, Nat.reduceSub, Nat.reduceEqDiff, if_true, if_false, Int.reduceEq, Int.reduceAdd, Int.reduceSub, Int.reduceMul, eq_self, hlb, w_dDispN, pk0]
  have k0 : Kok r1.length r2.length [(a, b)] := ⟨by simp, fun p hp => by
    have : p = (a, b) := by simpa using hp
    subst this
    exact ⟨ha, hb⟩⟩
  refine w_while (fun m sd S' => ∃ (level : List Lv) (kn : List (Nat × Nat)) (T : Sto) (f : Nat) (a8 a9 a10 a11 a12 a13 a14 a15 a16 : Option D), S' = S ++ .dic 2 (knK kn) :: T ∧ Kok r1.length r2.length kn ∧ Lok r1.length r2.length kn level ∧ level.length ≤ kn.length ∧ btw r1 r2 B f level kn = R0 ∧ m = 2 * (r1.length * r2.length - kn.length) + (if level = [] then 0 else 1) ∧ m < f ∧ sd = [some (.int ((ins : Nat) : Int)), some (.tup (r1.map rowD)), some (.tup (r2.map rowD)), some (.int ((a : Nat) : Int)), some (.int ((b : Nat) : Int)), some (.frl (B.map sW)), some (.frl (level.map lvP)), some (.ref S.length), a8, a9, a10, a11, a12, a13, a14, a15, a16]) ?_ fuelW (2 * (r1.length * r2.length - 1) + 1) _ _ (by unfold fuelW; omega) ⟨[((a, b), [])], [(a, b)], [], _, _, _, _, _, _, _, _, _, _, rfl, k0, ⟨fun x hx => by
    have : x = ((a, b), []) := by simpa using hx
    subst this
    exact ⟨ha, hb⟩, fun x hx => by
    have : x = ((a, b), []) := by simpa using hx
    subst this
    simp⟩, by simp, hR, rfl, by omega, rfl⟩
  rintro m sd S' ⟨level, kn, T, f, a8, a9, a10, a11, a12, a13, a14, a15, a16, rfl, hk, hlv, hll, hrun, rfl, hmf, rfl⟩
  have hkle := hk.le
  simp only [z6, z5, wq_a, wq_b, wq_c, wq_d, wq_e, wq_f, wq_g, Int.reduceToNat, Int.reduceLE, Int.reduceLT, Int.reduceNeg, startD, List.replicate, Nat.reduceAdd, Nat.reduceSub, Nat.reduceEqDiff, if_true, if_false, Int.reduceEq, Int.reduceAdd, Int.reduceSub, Int.reduceMul, eq_self]
  rw [w_neG (gd_frl (n := 2) (gd_map fun x _ => lvP_gd x)) (gd_nil.le (m := 3) (by decide))]
  cases level with
  | nil =>
    simp only [z6, z5, wq_a, wq_b, wq_c, wq_d, wq_e, wq_f, wq_g, Int.reduceToNat, Int.reduceLE, Int.reduceLT, Int.reduceNeg, startD, List.replicate, Nat.reduceAdd, Nat.reduceSub, Nat.reduceEqDiff, if_true, if_false, Int.reduceEq, Int.reduceAdd, Int.reduceSub, Int.reduceMul, eq_self]
    have : R0 = none := by
      rw [← hrun]
      cases f <;> rfl
    rw [this]
    exact ⟨trivial, _, rfl⟩
  | cons x0' xs0 =>
    obtain ⟨f, rfl⟩ : ∃ f', f = f' + 1 := ⟨f - 1, by omega⟩
    have hR0 : R0 = (match scanL r1 r2 B (x0' :: xs0) (kn, []) with
      | .error r => some r
      | .ok st => btw r1 r2 B f st.2 st.1) := by rw [← hrun]; rfl
    have hne : (D.frl ((x0' :: xs0).map lvP) = D.frl []) = False := by simp
    rw [show decide (D.frl ((x0' :: xs0).map lvP) = D.frl []) = false from decide_eq_false (by rw [hne]; exact id)]
    have hif : (if x0' :: xs0 = [] then 0 else 1) = 1 := if_neg (by nofun)
    rw [hif] at hmf ⊢
    generalize hlevel : x0' :: xs0 = level at *
    simp only [z6, z5, wq_a, wq_b, wq_c, wq_d, wq_e, wq_f, wq_g, Int.reduceToNat, Int.reduceLE, Int.reduceLT, Int.reduceNeg, startD, List.replicate, Nat.reduceAdd, Nat.reduceSub, Nat.reduceEqDiff, if_true, if_false, Int.reduceEq, Int.reduceAdd, Int.reduceSub, Int.reduceMul, eq_self, itemsD]
    have eL : (S ++ DO.dic 2 (knK kn) :: T).length = S.length + 1 + T.length := by simp; omega
    rw [eL]
    refine w_loopP lvP (fun pre sd S' => ∃ (post : List Lv) (kn' : List (Nat × Nat)) (later : List Lv) (a9 a10 a11 a12 a13 a14 a15 a16 : Option D), level = pre ++ post ∧ S' = S ++ .dic 2 (knK kn') :: (T ++ [.lst (later.map lvP)]) ∧ scanL r1 r2 B level (kn, []) = scanL r1 r2 B post (kn', later) ∧ Kok r1.length r2.length kn' ∧ Lok r1.length r2.length kn' later ∧ kn.length + later.length ≤ kn'.length ∧ sd = [some (.int ((ins : Nat) : Int)), some (.tup (r1.map rowD)), some (.tup (r2.map rowD)), some (.int ((a : Nat) : Int)), some (.int ((b : Nat) : Int)), some (.frl (B.map sW)), some (.frl (level.map lvP)), some (.ref S.length), some (.ref (S.length + 1 + T.length)), a9, a10, a11, a12, a13, a14, a15, a16]) level (fun _ _ _ _ _ _ => rfl) ⟨level, kn, [], _, _, _, _, _, _, _, _, rfl, by simp, rfl, hk, ⟨(fun _ h => by cases h), (fun _ h => by cases h)⟩, by simp, rfl⟩ ?_ ?_
    · rintro sd S' ⟨post, kn', later, b9, b10, b11, b12, b13, b14, b15, b16, hpp, rfl, hsc, hk', hl', hlen, rfl⟩
      have : post = [] := by
        have := congrArg List.length hpp
        simp at this
        cases post with
        | nil => rfl
        | cons _ _ => simp at this
      subst this
      have eX : S ++ DO.dic 2 (knK kn') :: (T ++ [.lst (later.map lvP)]) = (S ++ DO.dic 2 (knK kn') :: T) ++ [.lst (later.map lvP)] := by simp
      have eY : (S ++ DO.dic 2 (knK kn') :: T).length = S.length + 1 + T.length := by simp; omega
      have hget : (S ++ DO.dic 2 (knK kn') :: (T ++ [.lst (later.map lvP)]))[S.length + 1 + T.length]? = some (.lst (later.map lvP)) := by rw [eX, ← eY]; exact get_last
      simp only [z6, z5, wq_a, wq_b, wq_c, wq_d, wq_e, wq_f, wq_g, Int.reduceToNat, Int.reduceLE, Int.reduceLT, Int.reduceNeg, startD, List.replicate, Nat.reduceAdd, Nat.reduceSub, Nat.reduceEqDiff, if_true, if_false, Int.reduceEq, Int.reduceAdd, Int.reduceSub, Int.reduceMul, eq_self, w_dFrz]
      rw [frz_at hget]
      have hk'le := hk'.le
      rw [hsc] at hR0
      have hR1 : btw r1 r2 B f later kn' = R0 := by rw [hR0]; rfl
      refine ⟨2 * (r1.length * r2.length - kn'.length) + (if later = [] then 0 else 1), ?_, later, kn', T ++ [.dead], f, _, _, _, _, _, _, _, _, _, ?_, hk', hl', by omega, hR1, rfl, ?_, rfl⟩
      · by_cases z : later = []
        · rw [if_pos z]; omega
        · rw [if_neg z]
          have : 0 < later.length := List.length_pos_iff.mpr z
          omega
      · rw [eX, ← eY, set_last]; simp
      · by_cases z : later = []
        · rw [if_pos z]; omega
        · rw [if_neg z]
          have : 0 < later.length := List.length_pos_iff.mpr z
          omega
    · rintro pre x post0 sd S' epp ⟨post, kn', later, b9, b10, b11, b12, b13, b14, b15, b16, hpp, rfl, hsc, hk', hl', hlen, rfl⟩
      have hpost : post = x :: post0 := (List.append_cancel_left (epp.symm.trans hpp)).symm
      subst hpost
      have hxm : x ∈ level := by rw [epp]; simp
      obtain ⟨hx1, hx2⟩ := hlv.lt x hxm
      have hxl := hlv.len x hxm
      simp only [z6, z5, wq_a, wq_b, wq_c, wq_d, wq_e, wq_f, wq_g, Int.reduceToNat, Int.reduceLE, Int.reduceLT, Int.reduceNeg, startD, List.replicate, Nat.reduceAdd, Nat.reduceSub, Nat.reduceEqDiff, if_true, if_false, Int.reduceEq, Int.reduceAdd, Int.reduceSub, Int.reduceMul, eq_self, gTupD, lvP, prD, itemsD]
      refine w_enumP sW (fun pre2 sd S' => ∃ (kn2 : List (Nat × Nat)) (later2 : List Lv) (a12 a13 a14 a15 a16 : Option D), S' = S ++ .dic 2 (knK kn2) :: (T ++ [.lst (later2.map lvP)]) ∧ scanK r1 r2 B x (List.range B.length) (kn', later) = scanK r1 r2 B x (List.range' pre2.length (B.length - pre2.length)) (kn2, later2) ∧ Kok r1.length r2.length kn2 ∧ Lok r1.length r2.length kn2 later2 ∧ kn.length + later2.length ≤ kn2.length ∧ sd = [some (.int ((ins : Nat) : Int)), some (.tup (r1.map rowD)), some (.tup (r2.map rowD)), some (.int ((a : Nat) : Int)), some (.int ((b : Nat) : Int)), some (.frl (B.map sW)), some (.frl (level.map lvP)), some (.ref S.length), some (.ref (S.length + 1 + T.length)), some (.frl (x.2.map sW)), some (.int ((x.1.1 : Nat) : Int)), some (.int ((x.1.2 : Nat) : Int)), a12, a13, a14, a15, a16]) B (fun _ _ _ _ _ _ => rfl) ⟨kn', later, _, _, _, _, _, rfl, by rw [List.range_eq_range']; rfl, hk', hl', hlen, rfl⟩ ?_ ?_
      · rintro sd S' ⟨kn2, later2, c12, c13, c14, c15, c16, rfl, hscK, hk2, hl2, hlen2, rfl⟩
        have hK : scanK r1 r2 B x (List.range B.length) (kn', later) = .ok (kn2, later2) := by rw [hscK, Nat.sub_self]; rfl
        refine ⟨post0, kn2, later2, _, _, _, _, _, _, _, _, by rw [epp]; simp, rfl, ?_, hk2, hl2, hlen2, rfl⟩
        rw [hsc, scanL, hK]
      · rintro pre2 bt post2 sd S' epp2 ⟨kn2, later2, c12, c13, c14, c15, c16, rfl, hscK, hk2, hl2, hlen2, rfl⟩
        have hbt : bt = B.getD pre2.length [] := by
          rw [List.getD_eq_getElem?_getD]
          conv => rhs; rw [epp2]
          simp
        have hkB : pre2.length < B.length := by rw [epp2]; simp
        have hk2i : pre2.length < 2 ^ ins := by omega
        generalize hk0 : pre2.length = k at *
        obtain ⟨n, hn⟩ : ∃ n, B.length - k = n + 1 := ⟨B.length - k - 1, by omega⟩
        rw [hn, scan_one] at hscK
        have hn' : ∀ z : List Bool, B.length - (pre2 ++ [z]).length = n := fun z => by simp; omega
        have hkn : ∀ z : List Bool, (pre2 ++ [z]).length = k + 1 := fun z => by simp; omega
        have hl1 := P1.len _ (row_mem hx1)
        have hl2' := P2.len _ (row_mem hx2)
        simp only [z6, z5, wq_a, wq_b, wq_c, wq_d, wq_e, wq_f, wq_g, Int.reduceToNat, Int.reduceLE, Int.reduceLT, Int.reduceNeg, startD, List.replicate, Nat.reduceAdd, Nat.reduceSub, Nat.reduceEqDiff, if_true, if_false, Int.reduceEq, Int.reduceAdd, Int.reduceSub, Int.reduceMul, eq_self, gTupD, at_row hx1, at_row hx2, rowD, at_ans (show k < (rowAt r1 x.1.1).length by omega), at_ans (show k < (rowAt r2 x.1.2).length by omega)]
        rw [hbt]
        simp only [z6, z5, wq_a, wq_b, wq_c, wq_d, wq_e, wq_f, wq_g, Int.reduceToNat, Int.reduceLE, Int.reduceLT, Int.reduceNeg, startD, List.replicate, Nat.reduceAdd, Nat.reduceSub, Nat.reduceEqDiff, if_true, if_false, Int.reduceEq, Int.reduceAdd, Int.reduceSub, Int.reduceMul, eq_self, enD, wEq]
        by_cases e : (ansAt r1 x.1.1 k).1 = (ansAt r2 x.1.2 k).1
        · simp only [e, z6, z5, wq_a, wq_b, wq_c, wq_d, wq_e, wq_f, wq_g, Int.reduceToNat, Int.reduceLE, Int.reduceLT, Int.reduceNeg, startD, List.replicate, Nat.reduceAdd, Nat.reduceSub, Nat.reduceEqDiff, if_true, if_false, Int.reduceEq, Int.reduceAdd, Int.reduceSub, Int.reduceMul, eq_self]
          have hdg : (S ++ DO.dic 2 (knK kn2) :: (T ++ [.lst (later2.map lvP)]))[S.length]? = some (.dic 2 (knK kn2)) := get_mid rfl
          have hpr : ∀ p : Nat × Nat, D.tup [.int ((p.1 : Nat) : Int), .int ((p.2 : Nat) : Int)] = prD p := fun p => rfl
          have hm1 := P1.nxt _ (row_mem hx1) _ (ans_mem (k := k) (by omega))
          have hm2 := P2.nxt _ (row_mem hx2) _ (ans_mem (k := k) (by omega))
          have hk2le := hk2.le
          rw [hpr ((ansAt r1 x.1.1 k).2, (ansAt r2 x.1.2 k).2), w_notInN (dicN_at hdg prD_ok), getK_kn]
          by_cases hin : ((ansAt r1 x.1.1 k).2, (ansAt r2 x.1.2 k).2) ∈ kn2
          · simp only [hin, z6, z5, wq_a, wq_b, wq_c, wq_d, wq_e, wq_f, wq_g, Int.reduceToNat, Int.reduceLE, Int.reduceLT, Int.reduceNeg, startD, List.replicate, Nat.reduceAdd, Nat.reduceSub, Nat.reduceEqDiff, if_true, if_false, Int.reduceEq, Int.reduceAdd, Int.reduceSub, Int.reduceMul, eq_self, Option.isSome_some]
            refine ⟨kn2, later2, _, _, _, _, _, rfl, ?_, hk2, hl2, hlen2, rfl⟩
            rw [hscK, hn', hkn, bstep, if_pos e, if_pos hin]
          · simp only [hin, z6, z5, wq_a, wq_b, wq_c, wq_d, wq_e, wq_f, wq_g, Int.reduceToNat, Int.reduceLE, Int.reduceLT, Int.reduceNeg, startD, List.replicate, Nat.reduceAdd, Nat.reduceSub, Nat.reduceEqDiff, if_true, if_false, Int.reduceEq, Int.reduceAdd, Int.reduceSub, Int.reduceMul, eq_self, Option.isSome_none]
            rw [w_setN hdg prD_ok (szn (by simp [knK]; omega)), putD_kn hin, set_mid rfl]
            simp only [z6, z5, wq_a, wq_b, wq_c, wq_d, wq_e, wq_f, wq_g, Int.reduceToNat, Int.reduceLE, Int.reduceLT, Int.reduceNeg, startD, List.replicate, Nat.reduceAdd, Nat.reduceSub, Nat.reduceEqDiff, if_true, if_false, Int.reduceEq, Int.reduceAdd, Int.reduceSub, Int.reduceMul, eq_self]
            generalize hpq : ((ansAt r1 x.1.1 k).2, (ansAt r2 x.1.2 k).2) = pq at *
            have hpq1 : (ansAt r1 x.1.1 k).2 = pq.1 := by rw [← hpq]
            have hpq2 : (ansAt r2 x.1.2 k).2 = pq.2 := by rw [← hpq]
            have eX : ∀ o, S ++ DO.dic 2 (knK (kn2 ++ [pq])) :: (T ++ [o]) = (S ++ DO.dic 2 (knK (kn2 ++ [pq])) :: T) ++ [o] := fun o => by simp
            have eY : (S ++ DO.dic 2 (knK (kn2 ++ [pq])) :: T).length = S.length + 1 + T.length := by simp; omega
            have hget : ∀ o, (S ++ DO.dic 2 (knK (kn2 ++ [pq])) :: (T ++ [o]))[S.length + 1 + T.length]? = some o := fun o => by rw [eX, ← eY]; exact get_last
            rw [zm (isTy_lst (hget _))]
            simp only [z6, z5, wq_a, wq_b, wq_c, wq_d, wq_e, wq_f, wq_g, Int.reduceToNat, Int.reduceLE, Int.reduceLT, Int.reduceNeg, startD, List.replicate, Nat.reduceAdd, Nat.reduceSub, Nat.reduceEqDiff, if_true, if_false, Int.reduceEq, Int.reduceAdd, Int.reduceSub, Int.reduceMul, eq_self]
            rw [zm (szn (by simp; omega))]
            simp only [z6, z5, wq_a, wq_b, wq_c, wq_d, wq_e, wq_f, wq_g, Int.reduceToNat, Int.reduceLE, Int.reduceLT, Int.reduceNeg, startD, List.replicate, Nat.reduceAdd, Nat.reduceSub, Nat.reduceEqDiff, if_true, if_false, Int.reduceEq, Int.reduceAdd, Int.reduceSub, Int.reduceMul, eq_self]
            rw [w_appL (hget _) (by rw [List.length_map, sizeLine_eq]; omega), eX, ← eY, set_last, ← eX, eY]
            refine ⟨kn2 ++ [pq], later2 ++ [(pq, x.2 ++ [B.getD k []])], _, _, _, _, _, ?_, ?_, hk2.add (by rw [← hpq1]; exact hm1) (by rw [← hpq2]; exact hm2) hin, ?_, by simp; omega, rfl⟩
            · rw [List.map_append]
              simp [lvP]
            · rw [hscK, hn', hkn, bstep, if_pos e, hpq, if_neg hin]
            · refine ⟨fun y hy => ?_, fun y hy => ?_⟩
              · rcases List.mem_append.mp hy with hy | hy
                · exact hl2.lt y hy
                · rw [List.mem_singleton] at hy
                  subst hy
                  exact ⟨by show pq.1 < _; rw [← hpq1]; exact hm1, by show pq.2 < _; rw [← hpq2]; exact hm2⟩
              · rcases List.mem_append.mp hy with hy | hy
                · have := hl2.len y hy
                  simp; omega
                · rw [List.mem_singleton] at hy
                  subst hy
                  simp
                  omega
        · simp only [e, z6, z5, wq_a, wq_b, wq_c, wq_d, wq_e, wq_f, wq_g, Int.reduceToNat, Int.reduceLE, Int.reduceLT, Int.reduceNeg, startD, List.replicate, Nat.reduceAdd, Nat.reduceSub, Nat.reduceEqDiff, if_true, if_false, Int.reduceEq, Int.reduceAdd, Int.reduceSub, Int.reduceMul, eq_self]
          have addR : ∀ {Q : D → Sto → Prop} {X : Exc → Sto → Prop} {S1 : Sto} {y : D}, Wp (addD (.frl (x.2.map sW)) (.frl [y]) S1) Q X = Q (.ref S1.length) (S1 ++ [.lst (x.2.map sW ++ [y])]) := by
            intro Q X S1 y
            simp only [addD, lsD]
            rw [if_pos (szn (by simp; omega))]
            rfl
          rw [addR]
          simp only [z6, z5, wq_a, wq_b, wq_c, wq_d, wq_e, wq_f, wq_g, Int.reduceToNat, Int.reduceLE, Int.reduceLT, Int.reduceNeg, startD, List.replicate, Nat.reduceAdd, Nat.reduceSub, Nat.reduceEqDiff, if_true, if_false, Int.reduceEq, Int.reduceAdd, Int.reduceSub, Int.reduceMul, eq_self]
          have : R0 = some (x.2 ++ [B.getD k []]) := by
            rw [hR0, hsc, scanL, hscK, bstep, if_neg e]
          rw [this]
          exact ⟨_, _, rfl, List.append_assoc _ _ _, by rw [get_last]; simp, by simp⟩
theorem rowb_someR {ins o1 o2 a b : Nat} {r1 r2 : List (List En)} {r : List (List Bool)} {S : Sto} (P1 : PM ins o1 r1) (P2 : PM ins o2 r2) (ha : a < r1.length) (hb : b < r2.length) (h : Rb ins r1 r2 a b = some r) :
    Fr_row_between [.int ((ins : Nat) : Int), .tup (r1.map rowD), .tup (r2.map rowD), .int ((a : Nat) : Int), .int ((b : Nat) : Int)] S = .ok (.ref S.length) (S ++ [.lst (r.map sW)]) := by
  unfold Rb at h
  have c := row_coreR (S := S) P1 P2 ha hb
  rw [h] at c
  have h' : Wp (dFn 17 br_row_between [.int ((ins : Nat) : Int), .tup (r1.map rowD), .tup (r2.map rowD), .int ((a : Nat) : Int), .int ((b : Nat) : Int)] S) (fun d S' => ∃ l T, d = .ref l ∧ S' = S ++ T ∧ S'[l]? = some (.lst (r.map sW)) ∧ S.length ≤ l) NX := by rw [w_dFn]; exact c
  obtain ⟨d, S', e, l, T, rfl, rfl, hl, hle⟩ := Wp.ok h'
  unfold Fr_row_between cutF
  rw [e]
  have hb : D.blws S.length (r.map sW) = true := by
    have := gd_blw (k := S.length) (n := 1) (D.frl (r.map sW)) sWs_gd
    exact this
  simp only [cutR]
  rw [if_pos (cutOk_app S _), if_neg (by show ¬ decide (l < S.length) = true; simp; omega), hl]
  simp only
  rw [if_pos ⟨hb, hle⟩, List.take_left]

def RwOk (ins m : Nat) (t : RowB) : Prop := t.length ≤ m ∧ ∀ b ∈ t, b.length = ins
theorem RwOk.snoc {ins m k : Nat} {t : RowB} {B : List (List Bool)} (h : RwOk ins m t) (hB : ∀ b ∈ B, b.length = ins) (hk : k < B.length) : RwOk ins (m + 1) (t ++ [B.getD k []]) := by
  refine ⟨by rw [List.length_append, List.length_singleton]; have := h.1; omega, fun b hb => ?_⟩
  rcases List.mem_append.mp hb with hb | hb
  · exact h.2 b hb
  · rw [List.mem_singleton.mp hb, List.getD_eq_getElem?_getD, List.getElem?_eq_getElem hk]
    exact hB _ (List.getElem_mem _)
theorem scanK_rw {ins m : Nat} {r1 r2 : List (List En)} {B : List (List Bool)} {x : Lv} (hB : ∀ b ∈ B, b.length = ins) (hx : RwOk ins m x.2) : ∀ {ks : List Nat} {st st' : Kn}, (∀ k ∈ ks, k < B.length) → (∀ y ∈ st.2, RwOk ins (m + 1) y.2) → (scanK r1 r2 B x ks st = .ok st' → ∀ y ∈ st'.2, RwOk ins (m + 1) y.2) ∧ ∀ r, scanK r1 r2 B x ks st = .error r → RwOk ins (m + 1) r
  | [], st, st', _, h => ⟨fun e => by cases e; exact h, fun r e => by cases e⟩
  | k :: ks, st, st', hk, h => by
    rw [scanK]
    unfold bstep
    split
    · rename_i r' er
      refine ⟨fun e => (by cases e), fun r e => ?_⟩
      cases e
      split at er
      · split at er <;> cases er
      · cases er
        exact hx.snoc hB (hk k (by simp))
    · rename_i s er
      refine scanK_rw hB hx (fun k h => hk k (by simp [h])) fun y hy => ?_
      split at er
      · split at er
        · cases er; exact h y hy
        · cases er
          rcases List.mem_append.mp hy with hy | hy
          · exact h y hy
          · rw [List.mem_singleton] at hy
            subst hy
            exact hx.snoc hB (hk k (by simp))
      · cases er
theorem scanL_rw {ins m : Nat} {r1 r2 : List (List En)} {B : List (List Bool)} (hB : ∀ b ∈ B, b.length = ins) : ∀ {lv : List Lv} {st st' : Kn}, (∀ x ∈ lv, RwOk ins m x.2) → (∀ y ∈ st.2, RwOk ins (m + 1) y.2) → (scanL r1 r2 B lv st = .ok st' → ∀ y ∈ st'.2, RwOk ins (m + 1) y.2) ∧ ∀ r, scanL r1 r2 B lv st = .error r → RwOk ins (m + 1) r
  | [], st, st', _, h => ⟨fun e => by cases e; exact h, fun r e => by cases e⟩
  | x :: lv, st, st', hx, h => by
    have hr : ∀ k ∈ List.range B.length, k < B.length := fun k hk => List.mem_range.mp hk
    rw [scanL]
    split
    · rename_i r' er
      refine ⟨fun e => (by cases e), fun r e => ?_⟩
      cases e
      exact (scanK_rw (st' := st) hB (hx x (by simp)) hr h).2 _ er
    · rename_i s er
      exact scanL_rw hB (fun y hy => hx y (by simp [hy])) ((scanK_rw (st' := s) hB (hx x (by simp)) hr h).1 er)
theorem RwOk.mono {ins m n : Nat} {t : RowB} (h : RwOk ins m t) (hmn : m ≤ n) : RwOk ins n t := ⟨Nat.le_trans h.1 hmn, h.2⟩
theorem btw_rw {ins : Nat} {r1 r2 : List (List En)} {B : List (List Bool)} (hB : ∀ b ∈ B, b.length = ins) : ∀ {n m : Nat} {lv : List Lv} {kn : List (Nat × Nat)} {r : RowB}, (∀ x ∈ lv, RwOk ins m x.2) → btw r1 r2 B n lv kn = some r → RwOk ins (m + n) r
  | 0, _, _, _, _, _, h => by cases h
  | n + 1, m, [], _, _, _, h => by cases h
  | n + 1, m, x :: xs, kn, r, hx, h => by
    rw [btw] at h
    split at h
    · rename_i r' er
      cases h
      exact ((scanL_rw (st' := (kn, [])) hB hx (by simp)).2 _ er).mono (by omega)
    · rename_i st er
      exact (btw_rw hB ((scanL_rw (st' := st) hB hx (by simp)).1 er) h).mono (by omega)
theorem Rb_rw {ins a b : Nat} {r1 r2 : List (List En)} {r : RowB} (h1 : r1.length ≤ 16) (h2 : r2.length ≤ 16) (h : Rb ins r1 r2 a b = some r) : RwOk ins 1000 r := by
  have hNN : r1.length * r2.length ≤ 256 := Nat.le_trans (Nat.mul_le_mul h1 h2) (by decide)
  exact (btw_rw (m := 0) (allB_len ins) (by simp [RwOk]) h).mono (by omega)
theorem allW_mem2 {ins : Nat} {rows : List (List En)} {w : Wr} (h : w ∈ allW ins rows) : w.1.1 ∈ metL rows ∧ ∀ o, w.2 = some o → (Rb ins rows (chg rows w.1.1 w.1.2 o) 0 0).isSome = true := by
  obtain ⟨i, hi, h⟩ := List.mem_flatMap.mp h
  have hi' := (srtN_perm _).mem_iff.mp hi
  obtain ⟨k, hk, h⟩ := List.mem_flatMap.mp h
  rcases List.mem_cons.mp h with rfl | h
  · exact ⟨hi', fun o z => by cases z⟩
  · obtain ⟨o, ho, rfl⟩ := List.mem_map.mp h
    have := (List.mem_filter.mp ho).2
    rw [Bool.and_eq_true] at this
    exact ⟨hi', fun o' z => by cases z; exact this.2⟩
theorem road_rw {ins outs r : Nat} {rows : List (List En)} (P : PM ins outs rows) (hn : rows.length ≤ 16) (hr : r ∈ metL rows) : RwOk ins 20 (road ins rows r) := by
  have hmm := metL_met P.nxt P.n1
  have hks : (rs ins rows rows.length).map (·.1) = metL rows := by rw [rs_keys P, sq_end P]
  have hkl0 : (rs ins rows rows.length).length = (metL rows).length := by rw [← hks, List.length_map]
  have hok0 := rs_ok (ins := ins) (rows := rows) rows.length
  rw [← hks] at hr
  obtain ⟨p, hp, e⟩ := List.mem_map.mp hr
  have nd : ((rs ins rows rows.length).map (·.1)).Nodup := by rw [hks]; exact hmm.nd
  have := rd_self nd hp
  rw [e] at this
  show RwOk ins 20 (rd _ r)
  rw [this]
  have h2 := hok0 p hp
  have := h2.1
  have := hmm.le
  exact ⟨by omega, h2.2⟩
theorem fnR_rw {ins outs : Nat} {rows : List (List En)} (P : PM ins outs rows) (hn : rows.length ≤ 16) {w : Wr} (hw : w ∈ allW ins rows) : RwOk ins 1000 (fnR ins rows w) := by
  obtain ⟨m1, m2, m3⟩ := allW_mem P hw
  obtain ⟨n1, n2⟩ := allW_mem2 hw
  obtain ⟨⟨i, k⟩, o⟩ := w
  unfold fnR
  cases o with
  | none => exact ((road_rw P hn n1).snoc (allB_len ins) (by rw [allB_many]; exact m2)).mono (by omega)
  | some o =>
    dsimp only
    have := n2 o rfl
    dsimp only at this
    cases hr : Rb ins rows (chg rows i k o) 0 0 with
    | none => rw [hr] at this; cases this
    | some r => exact Rb_rw hn (by rw [chg_len]; exact hn) hr
theorem findingR_ok {ins outs : Nat} {rows : List (List En)} {S : Sto} {w : Wr} (P : PM ins outs rows) (hn : rows.length ≤ 16) (hw : w ∈ allW ins rows) : Fr_finding [plD ins outs rows, wrD w] S = .ok (.ref S.length) (S ++ [.lst ((fnR ins rows w).map sW)]) := by
  have i4 := P.i4
  obtain ⟨m1, m2, m3⟩ := allW_mem P hw
  obtain ⟨n1, n2⟩ := allW_mem2 hw
  have hrw := fnR_rw P hn hw
  obtain ⟨⟨i, k⟩, o⟩ := w
  dsimp only at m1 m2 n1
  have h0 : 0 < rows.length := by omega
  unfold Fr_finding
  refine fn_new (xs := (fnR ins rows ((i, k), o)).map sW) sWs_blw ?_
  unfold br_finding
  have gt : ∀ {sd : Sl} {S : Sto} {Q : Sl → Sto → Prop} {X : Exc → Sto → Prop} {q : List D → Sl → Sto → Res Sl}, Wp (gTupD 3 q (wrD ((i, k), o)) sd S) Q X = Wp (q [.int ((i : Nat) : Int), .int ((k : Nat) : Int), oD o] sd S) Q X := fun {sd S Q X q} => rfl
  have x0 : ∀ {S : Sto}, Wp (ixD (plD ins outs rows) (.int 0) S) = Wp (.ok (.int ((ins : Nat) : Int)) S) := rfl
  have x2 : ∀ {rows : List (List En)} {S : Sto}, Wp (ixD (plD ins outs rows) (.int 2) S) = Wp (.ok (.tup (rows.map rowD)) S) := rfl
  have ab := fun S => all_beats_ok (n := ins) (S := S) i4
  simp only [wq_a, wq_b, wq_c, wq_d, wq_e, wq_f, wq_g, Int.reduceToNat, Int.reduceLE, Int.reduceLT, Int.reduceNeg, startD, List.replicate, Nat.reduceAdd, Nat.reduceSub, Nat.reduceEqDiff, if_true, if_false, Int.reduceEq, Int.reduceAdd, Int.reduceSub, Int.reduceMul, eq_self, gt]
  cases o with
  | none =>
    have ro := fun S => road_to_ok (S := S) P hn n1
    have hix : ((allB ins).map sW)[k]? = some (sW ((allB ins).getD k [])) := by
      rw [List.getElem?_map, List.getD_eq_getElem?_getD, List.getElem?_eq_getElem (by rw [allB_many]; exact m2)]
      rfl
    have ib : atI ((allB ins).map sW) ((k : Nat) : Int) = some (sW ((allB ins).getD k [])) := by
      rw [atI_pos (by omega), Int.toNat_natCast]
      exact hix
    have hlen := hrw.1
    have hf : fnR ins rows ((i, k), none) = road ins rows i ++ [(allB ins).getD k []] := rfl
    rw [hf] at hlen ⊢
    rw [List.length_append, List.length_singleton] at hlen
    have addR : ∀ {Q : D → Sto → Prop} {X : Exc → Sto → Prop} {S1 : Sto} {y : D}, Wp (addD (.frl ((road ins rows i).map sW)) (.frl [y]) S1) Q X = Q (.ref S1.length) (S1 ++ [.lst ((road ins rows i).map sW ++ [y])]) := by
      intro Q X S1 y
      simp only [addD, lsD]
      rw [if_pos (szn (by simp; omega))]
      rfl
    simp only [oD, wq_a, wq_b, wq_c, wq_d, wq_e, wq_f, wq_g, Int.reduceToNat, Int.reduceLE, Int.reduceLT, Int.reduceNeg, startD, List.replicate, Nat.reduceAdd, Nat.reduceSub, Nat.reduceEqDiff, if_true, if_false, Int.reduceEq, Int.reduceAdd, Int.reduceSub, Int.reduceMul, eq_self, ro, x0, ab, ib, addR]
    exact ⟨_, _, rfl, rfl, by rw [get_last, List.map_append]; rfl, Nat.le_refl _⟩
  | some o =>
    have ho := m3 o rfl
    have P2 := chg_pm (i := i) (k := k) P m1 m2 ho
    have hs := n2 o rfl
    dsimp only at hs
    cases hr : Rb ins rows (chg rows i k o) 0 0 with
    | none => rw [hr] at hs; cases hs
    | some r =>
      have rb := fun S => rowb_someR (S := S) P P2 h0 (by rw [chg_len]; exact h0) hr
      have rb' : ∀ S, Fr_row_between [.int ((ins : Nat) : Int), .tup (rows.map rowD), .tup ((chg rows i k o).map rowD), .int 0, .int 0] S = .ok (.ref S.length) (S ++ [.lst (r.map sW)]) := rb
      simp only [oD, wq_a, wq_b, wq_c, wq_d, wq_e, wq_f, wq_g, Int.reduceToNat, Int.reduceLE, Int.reduceLT, Int.reduceNeg, startD, List.replicate, Nat.reduceAdd, Nat.reduceSub, Nat.reduceEqDiff, if_true, if_false, Int.reduceEq, Int.reduceAdd, Int.reduceSub, Int.reduceMul, eq_self, x0, x2, changed_ok P m1 m2, rb']
      refine ⟨_, _, rfl, rfl, ?_, Nat.le_refl _⟩
      rw [get_last]
      unfold fnR
      dsimp only
      rw [hr]
      rfl

end Lw

namespace Lw
open PySem PySem.Spec PyProof.Rows L2 DL
def zRef (z : Nat × RowB) : D := .ref z.1
def RR (S : Sto) (x : Nat) (zs : List (Nat × RowB)) : Prop := S[x]? = some (.lst (zs.map zRef)) ∧ ∀ z ∈ zs, S[z.1]? = some (.lst (z.2.map sW))
theorem ref_items {S : Sto} {k : Nat} {xs : List D} (h : S[k]? = some (.lst xs)) : ∃ chk : Sto → Bool, itemsD (.ref k) S = some ⟨xs, chk⟩ ∧ ∀ S' : Sto, S'[k]? = some (.lst xs) → chk S' = true := by
  refine ⟨_, by simp only [itemsD, h]; rfl, fun S' h' => ?_⟩
  simp only [chkL, h']
  first | rfl | simp
theorem toP_refs {S : Sto} {zs : List (Nat × RowB)} (h : ∀ z ∈ zs, S[z.1]? = some (.lst (z.2.map sW))) : toP S 60 (.frl (zs.map zRef)) = toP S 60 (.frl ((zs.map (·.2)).map rwT)) := by
  have key : mapO (toP S 59) (zs.map zRef) = mapO (toP S 59) ((zs.map (·.2)).map rwT) := by
    induction zs with
    | nil => rfl
    | cons z zs ih =>
      have e1 : toP S 59 (zRef z) = toP S 59 (rwT z.2) := by
        have hz := h z (by simp)
        unfold zRef rwT
        simp only [toP, hz]
      simp only [List.map_cons, mapO, e1, ih fun y hy => h y (by simp [hy])]
  show (mapO (toP S 59) _).map _ = (mapO (toP S 59) _).map _
  rw [key]
theorem ne_refs {S : Sto} {zs : List (Nat × RowB)} {Q : D → Sto → Prop} {X : Exc → Sto → Prop} (h : ∀ z ∈ zs, S[z.1]? = some (.lst (z.2.map sW))) : Wp (neD (.frl (zs.map zRef)) (.frl []) S) Q X = Wp (neD (.frl ((zs.map (·.2)).map rwT)) (.frl []) S) Q X := by
  have : neD (.frl (zs.map zRef)) (.frl []) S = neD (.frl ((zs.map (·.2)).map rwT)) (.frl []) S := by
    simp only [neD, sameD, toP_refs h]
  rw [this]
theorem is_gone_ref {ins outs i k : Nat} {rows : List (List En)} {zs : List (Nat × RowB)} {x : Nat} {S : Sto} (P : PM ins outs rows) (hx : RR S x zs) (hb : ∀ z ∈ zs, ∀ b ∈ z.2, b.length = ins) : F_is_gone [plD ins outs rows, .ref x, .int ((i : Nat) : Int), .int ((k : Nat) : Int)] S = .ok (.bl (goneA rows i k (zs.map (·.2)))) S := by
  have i4 := P.i4
  unfold F_is_gone
  refine fn_ok rfl ?_
  unfold b_is_gone
  have x2 : ∀ {S : Sto}, Wp (ixD (plD ins outs rows) (.int 2) S) = Wp (.ok (.tup (rows.map rowD)) S) := rfl
  generalize plD ins outs rows = PP at x2 ⊢
  obtain ⟨chk, ei, hch⟩ := ref_items hx.1
  simp only [wq_a, wq_b, wq_c, wq_d, wq_e, wq_f, wq_g, Int.reduceToNat, Int.reduceLE, Int.reduceLT, Int.reduceNeg, startD, List.replicate, Nat.reduceAdd, Nat.reduceSub, Nat.reduceEqDiff, if_true, if_false, Int.reduceEq, Int.reduceAdd, Int.reduceSub, Int.reduceMul, eq_self, ei]
  refine w_loopP zRef (fun pre sd S' => ∃ (a4 a5 a6 : Option D), S' = S ∧ goneA rows i k (pre.map (·.2)) = false ∧ sd = [some PP, some (.ref x), some (.int ((i : Nat) : Int)), some (.int ((k : Nat) : Int)), a4, a5, a6]) zs (fun _ _ _ _ _ z => by obtain ⟨_, _, _, rfl, _⟩ := z; exact hch _ hx.1) ⟨_, _, _, rfl, rfl, rfl⟩ ?_ ?_
  · rintro sd S' ⟨a4, a5, a6, rfl, hg, rfl⟩
    simp only [wq_a, wq_b, wq_c, wq_d, wq_e, wq_f, wq_g, Int.reduceToNat, Int.reduceLE, Int.reduceLT, Int.reduceNeg, startD, List.replicate, Nat.reduceAdd, Nat.reduceSub, Nat.reduceEqDiff, if_true, if_false, Int.reduceEq, Int.reduceAdd, Int.reduceSub, Int.reduceMul, eq_self]
    exact ⟨by rw [hg], app_nil S'⟩
  · rintro pre z post sd S' e ⟨a4, a5, a6, rfl, hg, rfl⟩
    have hz := hx.2 z (by rw [e]; simp)
    have ht := hb z (by rw [e]; simp)
    obtain ⟨chk2, ei2, hch2⟩ := ref_items hz
    obtain ⟨zr, t⟩ := z
    dsimp only at hz ht ei2 hch2
    simp only [wq_a, wq_b, wq_c, wq_d, wq_e, wq_f, wq_g, Int.reduceToNat, Int.reduceLE, Int.reduceLT, Int.reduceNeg, startD, List.replicate, Nat.reduceAdd, Nat.reduceSub, Nat.reduceEqDiff, if_true, if_false, Int.reduceEq, Int.reduceAdd, Int.reduceSub, Int.reduceMul, eq_self, zRef, ei2]
    refine w_loopP sW (fun p sd S'' => ∃ (a6 : Option D), S'' = S' ∧ gone rows i k 0 p = false ∧ sd = [some PP, some (.ref x), some (.int ((i : Nat) : Int)), some (.int ((k : Nat) : Int)), some (.ref zr), some (.int ((pend rows 0 p : Nat) : Int)), a6]) t (fun _ _ _ _ _ z => by obtain ⟨_, rfl, _⟩ := z; exact hch2 _ hz) ⟨_, rfl, rfl, rfl⟩ ?_ ?_
    · rintro sd S'' ⟨a6, rfl, hg2, rfl⟩
      refine ⟨_, _, _, rfl, ?_, rfl⟩
      unfold goneA at hg ⊢
      rw [List.map_append, List.any_append, hg]
      simp [hg2]
    · rintro p b q sd S'' ep ⟨a6, rfl, hg2, rfl⟩
      have hbl := ht b (by rw [ep]; simp)
      have hpe := pend_lt P (bs := p) (i := 0) (by have := P.n1; omega) fun x hx => ht x (by rw [ep]; simp [hx])
      have ha := P.ans hpe hbl
      have nu := fun S : Sto => number_ok (S := S) (show b.length ≤ 20 by omega)
      have go1 : gone rows i k 0 (p ++ [b]) = (decide (pend rows 0 p = i) && decide (nb b = k)) := by
        rw [gone_app, hg2]
        simp [gone]
      simp only [wq_a, wq_b, wq_c, wq_d, wq_e, wq_f, wq_g, Int.reduceToNat, Int.reduceLE, Int.reduceLT, Int.reduceNeg, startD, List.replicate, Nat.reduceAdd, Nat.reduceSub, Nat.reduceEqDiff, if_true, if_false, Int.reduceEq, Int.reduceAdd, Int.reduceSub, Int.reduceMul, eq_self, nu]
      by_cases hc : pend rows 0 p = i ∧ nb b = k
      · rw [if_pos (decide_eq_true (by omega))]
        simp only [wq_a, wq_b, wq_c, wq_d, wq_e, wq_f, wq_g, Int.reduceToNat, Int.reduceLE, Int.reduceLT, Int.reduceNeg, startD, List.replicate, Nat.reduceAdd, Nat.reduceSub, Nat.reduceEqDiff, if_true, if_false, Int.reduceEq, Int.reduceAdd, Int.reduceSub, Int.reduceMul, eq_self, nu]
        rw [if_pos (decide_eq_true (by omega))]
        simp only [wq_a, wq_b, wq_c, wq_d, wq_e, wq_f, wq_g, Int.reduceToNat, Int.reduceLE, Int.reduceLT, Int.reduceNeg, startD, List.replicate, Nat.reduceAdd, Nat.reduceSub, Nat.reduceEqDiff, if_true, if_false, Int.reduceEq, Int.reduceAdd, Int.reduceSub, Int.reduceMul, eq_self]
        refine ⟨?_, app_nil S''⟩
        have h1 : gone rows i k 0 t = true := by
          rw [ep, show p ++ b :: q = (p ++ [b]) ++ q by simp, gone_app, go1, decide_eq_true hc.1, decide_eq_true hc.2]
          rfl
        have h2 : goneA rows i k (zs.map (·.2)) = true := by
          unfold goneA
          rw [List.any_eq_true]
          exact ⟨t, by rw [e]; simp, h1⟩
        rw [h2]
      · have go2 : gone rows i k 0 (p ++ [b]) = false := by
          rw [go1]
          rcases Classical.not_and_iff_not_or_not.mp hc with h | h
          · rw [decide_eq_false h]; rfl
          · rw [decide_eq_false h]; simp
        by_cases h1 : pend rows 0 p = i
        · rw [if_pos (decide_eq_true (by omega))]
          simp only [wq_a, wq_b, wq_c, wq_d, wq_e, wq_f, wq_g, Int.reduceToNat, Int.reduceLE, Int.reduceLT, Int.reduceNeg, startD, List.replicate, Nat.reduceAdd, Nat.reduceSub, Nat.reduceEqDiff, if_true, if_false, Int.reduceEq, Int.reduceAdd, Int.reduceSub, Int.reduceMul, eq_self, nu]
          rw [if_neg (by intro z; have := of_decide_eq_true z; omega)]
          simp only [wq_a, wq_b, wq_c, wq_d, wq_e, wq_f, wq_g, Int.reduceToNat, Int.reduceLE, Int.reduceLT, Int.reduceNeg, startD, List.replicate, Nat.reduceAdd, Nat.reduceSub, Nat.reduceEqDiff, if_true, if_false, Int.reduceEq, Int.reduceAdd, Int.reduceSub, Int.reduceMul, eq_self, x2, at_row hpe, rowD, nu, at_ans ha.1, enD]
          exact ⟨_, trivial, go2, by rw [pend_snoc]⟩
        · rw [if_neg (by intro z; have := of_decide_eq_true z; omega)]
          simp only [wq_a, wq_b, wq_c, wq_d, wq_e, wq_f, wq_g, Int.reduceToNat, Int.reduceLE, Int.reduceLT, Int.reduceNeg, startD, List.replicate, Nat.reduceAdd, Nat.reduceSub, Nat.reduceEqDiff, if_true, if_false, Int.reduceEq, Int.reduceAdd, Int.reduceSub, Int.reduceMul, eq_self, x2, at_row hpe, rowD, nu, at_ans ha.1, enD]
          exact ⟨_, trivial, go2, by rw [pend_snoc]⟩
theorem deeds_ref {ins outs : Nat} {rows : List (List En)} {bs : List (List Bool)} {x : Nat} {S : Sto} (P : PM ins outs rows) (hx : S[x]? = some (.lst (bs.map sW))) (hb : ∀ b ∈ bs, b.length = ins) (hl : bs.length ≤ 100000) : F_deeds_of [plD ins outs rows, .ref x] S = .ok (.frl ((prun rows 0 bs).map sW)) S := by
  unfold F_deeds_of
  refine fn_ok sWs_blw ?_
  unfold b_deeds_of
  have x2 : ∀ {S : Sto}, Wp (ixD (plD ins outs rows) (.int 2) S) = Wp (.ok (.tup (rows.map rowD)) S) := rfl
  generalize plD ins outs rows = PP at x2 ⊢
  have hxl : x < S.length := (List.getElem?_eq_some_iff.mp hx).1
  obtain ⟨chk, ei, hch⟩ := ref_items (S := S ++ [.lst []]) (k := x) (xs := bs.map sW) (by rw [List.getElem?_append_left hxl]; exact hx)
  simp only [wq_a, wq_b, wq_c, wq_d, wq_e, wq_f, wq_g, Int.reduceToNat, Int.reduceLE, Int.reduceLT, Int.reduceNeg, startD, List.replicate, Nat.reduceAdd, Nat.reduceSub, Nat.reduceEqDiff, if_true, if_false, Int.reduceEq, Int.reduceAdd, Int.reduceSub, Int.reduceMul, eq_self, ei]
  refine w_loopP sW (fun pre sd S' => ∃ (a4 a5 : Option D), S' = S ++ [.lst ((prun rows 0 pre).map sW)] ∧ sd = [some PP, some (.ref x), some (.int ((pend rows 0 pre : Nat) : Int)), some (.ref S.length), a4, a5]) bs (fun _ _ _ _ _ z => by obtain ⟨_, _, rfl, _⟩ := z; exact hch _ (by rw [List.getElem?_append_left hxl]; exact hx)) ⟨_, _, rfl, rfl⟩ ?_ ?_
  · rintro sd S' ⟨a4, a5, rfl, rfl⟩
    simp only [wq_a, wq_b, wq_c, wq_d, wq_e, wq_f, wq_g, Int.reduceToNat, Int.reduceLE, Int.reduceLT, Int.reduceNeg, startD, List.replicate, Nat.reduceAdd, Nat.reduceSub, Nat.reduceEqDiff, if_true, if_false, Int.reduceEq, Int.reduceAdd, Int.reduceSub, Int.reduceMul, eq_self, w_dFrz]
    rw [frz_at (get_mid rfl)]
    exact ⟨rfl, [.dead], by rw [set_mid rfl]⟩
  · rintro pre b post sd S' e ⟨a4, a5, rfl, rfl⟩
    have hbl := hb b (by rw [e]; simp)
    have hpe := pend_lt P (bs := pre) (i := 0) (by have := P.n1; omega) fun x hx => hb x (by rw [e]; simp [hx])
    have ha := P.ans hpe hbl
    have hpl : pre.length ≤ 100000 := by have := congrArg List.length e; simp at this; omega
    simp only [wq_a, wq_b, wq_c, wq_d, wq_e, wq_f, wq_g, Int.reduceToNat, Int.reduceLE, Int.reduceLT, Int.reduceNeg, startD, List.replicate, Nat.reduceAdd, Nat.reduceSub, Nat.reduceEqDiff, if_true, if_false, Int.reduceEq, Int.reduceAdd, Int.reduceSub, Int.reduceMul, eq_self, x2, at_row hpe, rowD, number_ok (show b.length ≤ 20 by have := P.i4; omega), at_ans ha.1, enD, gTupD]
    rw [zm (isTy_lst get_last)]
    simp only [wq_a, wq_b, wq_c, wq_d, wq_e, wq_f, wq_g, Int.reduceToNat, Int.reduceLE, Int.reduceLT, Int.reduceNeg, startD, List.replicate, Nat.reduceAdd, Nat.reduceSub, Nat.reduceEqDiff, if_true, if_false, Int.reduceEq, Int.reduceAdd, Int.reduceSub, Int.reduceMul, eq_self]
    rw [w_appL get_last (by rw [sizeLine_eq, List.length_map, prun_len]; omega), set_last]
    refine ⟨_, _, ?_, by rw [pend_snoc]⟩
    rw [prun_snoc, List.map_append]
    rfl
theorem is_found_ref {ins outs : Nat} {rows : List (List En)} {zs : List (Nat × RowB)} {x : Nat} {w : Wr} {S : Sto} (P : PM ins outs rows) (hx : RR S x zs) (hb : ∀ z ∈ zs, z.2.length ≤ 1000 ∧ ∀ b ∈ z.2, b.length = ins) (hz : zs.length ≤ 1000)
    (hi : w.1.1 < rows.length) (hk : w.1.2 < 2 ^ ins) (ho : ∀ o, w.2 = some o → o < rows.length) : F_is_found [plD ins outs rows, .ref x, wrD w] S = .ok (.bl (fnd rows (zs.map (·.2)) w)) S := by
  obtain ⟨⟨i, k⟩, o⟩ := w
  unfold F_is_found
  refine fn_ok rfl ?_
  unfold b_is_found
  have gt : ∀ {sd : Sl} {S : Sto} {Q : Sl → Sto → Prop} {X : Exc → Sto → Prop} {q : List D → Sl → Sto → Res Sl}, Wp (gTupD 3 q (wrD ((i, k), o)) sd S) Q X = Wp (q [.int ((i : Nat) : Int), .int ((k : Nat) : Int), oD o] sd S) Q X := fun {sd S Q X q} => rfl
  simp only [wq_a, wq_b, wq_c, wq_d, wq_e, wq_f, wq_g, Int.reduceToNat, Int.reduceLE, Int.reduceLT, Int.reduceNeg, startD, List.replicate, Nat.reduceAdd, Nat.reduceSub, Nat.reduceEqDiff, if_true, if_false, Int.reduceEq, Int.reduceAdd, Int.reduceSub, Int.reduceMul, eq_self, gt]
  have hb1 : ∀ z ∈ zs, ∀ b ∈ z.2, b.length = ins := fun t ht => (hb t ht).2
  cases o with
  | none =>
    simp only [oD, wq_a, wq_b, wq_c, wq_d, wq_e, wq_f, wq_g, Int.reduceToNat, Int.reduceLE, Int.reduceLT, Int.reduceNeg, startD, List.replicate, Nat.reduceAdd, Nat.reduceSub, Nat.reduceEqDiff, if_true, if_false, Int.reduceEq, Int.reduceAdd, Int.reduceSub, Int.reduceMul, eq_self, is_gone_ref P hx hb1]
    exact ⟨rfl, app_nil S⟩
  | some o =>
    have ho := ho o rfl
    have P2 := chg_pm (i := i) (k := k) P hi hk ho
    simp only [oD, wq_a, wq_b, wq_c, wq_d, wq_e, wq_f, wq_g, Int.reduceToNat, Int.reduceLE, Int.reduceLT, Int.reduceNeg, startD, List.replicate, Nat.reduceAdd, Nat.reduceSub, Nat.reduceEqDiff, if_true, if_false, Int.reduceEq, Int.reduceAdd, Int.reduceSub, Int.reduceMul, eq_self, changed_ok P hi hk]
    have d1 := fun (S' : Sto) (hg : Grow S S') (t : Nat × RowB) (ht : t ∈ zs) => deeds_ref (S := S') P (hg.get (hx.2 t ht)) (hb1 t ht) (by have := (hb t ht).1; omega)
    have d2 := fun (S' : Sto) (hg : Grow S S') (t : Nat × RowB) (ht : t ∈ zs) => deeds_ref (S := S') P2 (hg.get (hx.2 t ht)) (hb1 t ht) (by have := (hb t ht).1; omega)
    generalize plD ins outs rows = PP at d1 ⊢
    generalize plD ins outs (chg rows i k o) = P2' at d2 ⊢
    have hc : ∀ {a0 : Option D}, dFrz (dComp [7] (iVal (dVar 1)) (gVar 7) (d2T neD (dCallF 2 F_deeds_of (dCons (dVar 0) (dCons (dVar 7) dNil))) (dCallF 2 F_deeds_of (dCons (dVar 3) (dCons (dVar 7) dNil)))) (dVar 7)) [some PP, some (.ref x), a0, some P2', some (.int ((i : Nat) : Int)), some (.int ((k : Nat) : Int)), some (.int ((o : Nat) : Int)), none] S = .ok (.frl ((zs.filter fun t => !decide (prun rows 0 t.2 = prun (chg rows i k o) 0 t.2)).map zRef)) S := fun {a0} => by
      refine compF zs zRef (fun t => !decide (prun rows 0 t.2 = prun (chg rows i k o) 0 t.2)) _ ?_ (Nat.le_trans (List.length_filter_le _ _) (szn (by omega))) ?_ ?_
      · obtain ⟨chk, ei, hch⟩ := ref_items hx.1
        simp only [wq_a, wq_b, wq_c, wq_d, wq_e, wq_f, wq_g, Int.reduceToNat, Int.reduceLE, Int.reduceLT, Int.reduceNeg, startD, List.replicate, Nat.reduceAdd, Nat.reduceSub, Nat.reduceEqDiff, if_true, if_false, Int.reduceEq, Int.reduceAdd, Int.reduceSub, Int.reduceMul, eq_self, ei]
        exact ⟨trivial, trivial, fun S' hg => hch _ (hg.get hx.1)⟩
      · intro t ht S' hg
        have e1 := d1 S' hg t ht
        have e2 := d2 S' hg t ht
        simp only [wq_a, wq_b, wq_c, wq_d, wq_e, wq_f, wq_g, Int.reduceToNat, Int.reduceLE, Int.reduceLT, Int.reduceNeg, startD, List.replicate, Nat.reduceAdd, Nat.reduceSub, Nat.reduceEqDiff, if_true, if_false, Int.reduceEq, Int.reduceAdd, Int.reduceSub, Int.reduceMul, eq_self, wipeD, zRef, e1, e2, w_neW]
        exact ⟨trivial, trivial, trivial, fun _ => ⟨trivial, trivial⟩⟩
      · intro t ht _
        exact decide_eq_true ((List.getElem?_eq_some_iff.mp (hx.2 t ht)).1)
    simp only [hc, wq_a, wq_b, wq_c, wq_d, wq_e, wq_f, wq_g, Int.reduceToNat, Int.reduceLE, Int.reduceLT, Int.reduceNeg, startD, List.replicate, Nat.reduceAdd, Nat.reduceSub, Nat.reduceEqDiff, if_true, if_false, Int.reduceEq, Int.reduceAdd, Int.reduceSub, Int.reduceMul, eq_self]
    have hzf : ((zs.filter fun t => !decide (prun rows 0 t.2 = prun (chg rows i k o) 0 t.2)).map (·.2)) = (zs.map (·.2)).filter fun t => !decide (prun rows 0 t = prun (chg rows i k o) 0 t) := by
      rw [List.filter_map]
      rfl
    rw [ne_refs fun z hz => hx.2 z (List.mem_filter.mp hz).1, hzf, w_neNil (n := 1) fun a _ => rwT_gd a]
    simp only [wq_a, wq_b, wq_c, wq_d, wq_e, wq_f, wq_g, Int.reduceToNat, Int.reduceLE, Int.reduceLT, Int.reduceNeg, startD, List.replicate, Nat.reduceAdd, Nat.reduceSub, Nat.reduceEqDiff, if_true, if_false, Int.reduceEq, Int.reduceAdd, Int.reduceSub, Int.reduceMul, eq_self]
    refine ⟨?_, app_nil S⟩
    show D.bl (prt rows (chg rows i k o) (zs.map (·.2))) = _
    unfold prt
    rfl
def rowO (t : RowB) : DO := .lst (t.map sW)
def zsOf : Nat → List RowB → List (Nat × RowB)
  | _, [] => []
  | b, t :: ts => (b, t) :: zsOf (b + 1) ts
theorem zs_snd : ∀ (b : Nat) (ts : List RowB), (zsOf b ts).map (·.2) = ts
  | _, [] => rfl
  | b, t :: ts => by rw [zsOf, List.map_cons, zs_snd]
theorem zs_len (b : Nat) (ts : List RowB) : (zsOf b ts).length = ts.length := by rw [← List.length_map (f := (·.2)), zs_snd]
theorem zs_snoc {t : RowB} : ∀ (b : Nat) (ts : List RowB), zsOf b (ts ++ [t]) = zsOf b ts ++ [(b + ts.length, t)]
  | _, [] => rfl
  | b, u :: ts => by
    rw [List.cons_append, zsOf, zs_snoc, zsOf, List.length_cons, show b + 1 + ts.length = b + (ts.length + 1) by omega]
    rfl
theorem zs_get : ∀ (ts : List RowB) (pre : Sto) (z : Nat × RowB), z ∈ zsOf pre.length ts → (pre ++ ts.map rowO)[z.1]? = some (rowO z.2)
  | [], _, _, h => by cases h
  | t :: ts, pre, z, h => by
    rcases List.mem_cons.mp h with rfl | h
    · rw [List.getElem?_append_right (Nat.le_refl _), Nat.sub_self]; rfl
    · have e : pre ++ (t :: ts).map rowO = (pre ++ [rowO t]) ++ ts.map rowO := by simp
      rw [e]
      exact zs_get ts _ z (by rw [List.length_append, List.length_singleton]; exact h)
def lay (S : Sto) (acc : List RowB) : Sto := S ++ .lst ((zsOf (S.length + 1) acc).map zRef) :: acc.map rowO
theorem lay_rr {S : Sto} {acc : List RowB} : RR (lay S acc) S.length (zsOf (S.length + 1) acc) := by
  refine ⟨get_mid rfl, fun z hz => ?_⟩
  have e : lay S acc = (S ++ [.lst ((zsOf (S.length + 1) acc).map zRef)]) ++ acc.map rowO := by simp [lay]
  rw [e]
  exact zs_get acc _ z (by rw [List.length_append, List.length_singleton]; exact hz)
theorem lay_len {S : Sto} {acc : List RowB} : (lay S acc).length = S.length + 1 + acc.length := by simp [lay]; omega
theorem lay_add {S : Sto} {acc : List RowB} {t : RowB} {d : DO} (hd : d = .lst ((zsOf (S.length + 1) acc).map zRef ++ [.ref (S.length + 1 + acc.length)])) : (lay S acc ++ [rowO t]).set S.length d = lay S (acc ++ [t]) := by
  unfold lay
  rw [List.append_assoc, List.cons_append, set_mid rfl, zs_snoc, List.map_append, List.map_append, hd]
  rfl
theorem cut_lay {S : Sto} {acc : List RowB} : cutR S (.ok (.ref S.length) (lay S acc)) = .ok (.ref S.length) (lay S acc) := by
  simp only [cutR]
  rw [if_pos (show cutOk S (lay S acc) = true from cutOk_app S _), if_neg (by show ¬ decide (S.length < S.length) = true; simp), lay_rr.1]
  dsimp only
  cases acc with
  | nil =>
    rw [if_pos ⟨rfl, Nat.le_refl _⟩]
    unfold lay
    rw [List.take_left]
    rfl
  | cons t ts =>
    rw [if_neg]
    rintro ⟨h, _⟩
    have : decide (S.length + 1 < S.length) = true := by
      unfold D.blws at h
      exact (Bool.and_eq_true_iff.mp h).1
    have := of_decide_eq_true this
    omega
def stepC (ins : Nat) (rows : List (List En)) (acc : List RowB) (w : Wr) : List RowB := if fnd rows acc w then acc else acc ++ [fnR ins rows w]
def dueL (ins : Nat) (rows : List (List En)) : List RowB := (allW ins rows).foldl (stepC ins rows) []
theorem due_ok {ins outs : Nat} {rows : List (List En)} (P : PM ins outs rows) (hn : rows.length ≤ 16) : ∀ (ws : List Wr) (acc : List RowB), (∀ w ∈ ws, w ∈ allW ins rows) → (∀ t ∈ acc, t.length ≤ 1000 ∧ ∀ b ∈ t, b.length = ins) → (ws.foldl (stepC ins rows) acc).length ≤ acc.length + ws.length ∧ ∀ t ∈ ws.foldl (stepC ins rows) acc, t.length ≤ 1000 ∧ ∀ b ∈ t, b.length = ins
  | [], acc, _, h => ⟨Nat.le_refl _, h⟩
  | w :: ws, acc, hw, h => by
    have hs : ∀ t ∈ stepC ins rows acc w, t.length ≤ 1000 ∧ ∀ b ∈ t, b.length = ins := by
      unfold stepC
      split
      · exact h
      · intro t ht
        rcases List.mem_append.mp ht with ht | ht
        · exact h t ht
        · rw [List.mem_singleton.mp ht]; exact fnR_rw P hn (hw w (by simp))
    have hl : (stepC ins rows acc w).length ≤ acc.length + 1 := by
      unfold stepC
      split
      · omega
      · simp
    have ih := due_ok P hn ws _ (fun x hx => hw x (by simp [hx])) hs
    rw [List.foldl_cons, List.length_cons]
    exact ⟨by have := ih.1; omega, ih.2⟩
theorem checks_ok {ins outs : Nat} {rows : List (List En)} {S : Sto} (P : PM ins outs rows) (hn : rows.length ≤ 6) (hz : (allW ins rows).length ≤ 1000) : Fr_checks [plD ins outs rows] S = .ok (.ref S.length) (lay S (dueL ins rows)) := by
  have aw := fun S : Sto => all_wrong_ok (S := S) P (by omega)
  have nf := fun S : Sto => need_few6 (S := S) P hn
  have fo := fun (S : Sto) (w : Wr) (hw : w ∈ allW ins rows) (acc : List RowB) (hl : acc.length ≤ 1000) (hb : ∀ t ∈ acc, t.length ≤ 1000 ∧ ∀ b ∈ t, b.length = ins) =>
    let m := allW_mem P hw
    is_found_ref (S := lay S acc) P lay_rr (fun z hz => hb z.2 (by rw [← zs_snd (S.length + 1) acc]; exact List.mem_map.mpr ⟨z, hz, rfl⟩)) (by rw [zs_len]; exact hl) m.1 m.2.1 m.2.2
  have fi := fun (S : Sto) (w : Wr) (hw : w ∈ allW ins rows) => findingR_ok (S := S) P (by omega) hw
  have hdue := fun (pre : List Wr) (h : ∀ w ∈ pre, w ∈ allW ins rows) => due_ok P (by omega) pre [] h (fun t ht => by cases ht)
  have main : Wp (dFn 3 br_checks [plD ins outs rows] S) (fun d S' => d = .ref S.length ∧ S' = lay S (dueL ins rows)) NX := by
    rw [w_dFn]
    unfold br_checks
    generalize plD ins outs rows = PP at aw nf fo fi ⊢
    simp only [wq_a, wq_b, wq_c, wq_d, wq_e, wq_f, wq_g, Int.reduceToNat, Int.reduceLE, Int.reduceLT, Int.reduceNeg, startD, List.replicate, Nat.reduceAdd, Nat.reduceSub, Nat.reduceEqDiff, if_true, if_false, Int.reduceEq, Int.reduceAdd, Int.reduceSub, Int.reduceMul, eq_self, nf, aw, itemsD]
    refine w_loopP wrD (fun pre sd S' => ∃ (a2 : Option D), S' = lay S (pre.foldl (stepC ins rows) []) ∧ sd = [some PP, some (.ref S.length), a2]) (allW ins rows) (fun _ _ _ _ _ _ => rfl) ⟨_, rfl, rfl⟩ ?_ ?_
    · rintro sd S' ⟨a2, rfl, rfl⟩
      simp only [wq_a, wq_b, wq_c, wq_d, wq_e, wq_f, wq_g, Int.reduceToNat, Int.reduceLE, Int.reduceLT, Int.reduceNeg, startD, List.replicate, Nat.reduceAdd, Nat.reduceSub, Nat.reduceEqDiff, if_true, if_false, Int.reduceEq, Int.reduceAdd, Int.reduceSub, Int.reduceMul, eq_self]
      exact ⟨by first | rfl | trivial, by first | rfl | trivial⟩
    · rintro pre w post sd S' e ⟨a2, rfl, rfl⟩
      have hw : w ∈ allW ins rows := by rw [e]; simp
      obtain ⟨d1, d2⟩ := hdue pre fun x hx => by rw [e]; simp [hx]
      have hpl : pre.length ≤ 1000 := by have := congrArg List.length e; simp at this; omega
      rw [List.foldl_append, List.foldl_cons, List.foldl_nil]
      generalize pre.foldl (stepC ins rows) [] = acc at d1 d2 ⊢
      have hal : acc.length ≤ 1000 := by simp at d1; omega
      have f1 := fo S w hw acc hal d2
      rw [zs_snd] at f1
      have f2 := fi (lay S acc) w hw
      simp only [wq_a, wq_b, wq_c, wq_d, wq_e, wq_f, wq_g, Int.reduceToNat, Int.reduceLE, Int.reduceLT, Int.reduceNeg, startD, List.replicate, Nat.reduceAdd, Nat.reduceSub, Nat.reduceEqDiff, if_true, if_false, Int.reduceEq, Int.reduceAdd, Int.reduceSub, Int.reduceMul, eq_self, f1]
      unfold stepC
      cases hf : fnd rows acc w with
      | true =>
        simp only [wq_a, wq_b, wq_c, wq_d, wq_e, wq_f, wq_g, Int.reduceToNat, Int.reduceLE, Int.reduceLT, Int.reduceNeg, startD, List.replicate, Nat.reduceAdd, Nat.reduceSub, Nat.reduceEqDiff, if_true, if_false, Int.reduceEq, Int.reduceAdd, Int.reduceSub, Int.reduceMul, eq_self]
        exact ⟨_, by first | rfl | trivial, rfl⟩
      | false =>
        have hg : (lay S acc ++ [DO.lst ((fnR ins rows w).map sW)])[S.length]? = some (.lst ((zsOf (S.length + 1) acc).map zRef)) := by
          rw [List.getElem?_append_left (by rw [lay_len]; omega)]
          exact lay_rr.1
        have hg0 : (lay S acc)[S.length]? = some (.lst ((zsOf (S.length + 1) acc).map zRef)) := lay_rr.1
        simp only [wq_a, wq_b, wq_c, wq_d, wq_e, wq_f, wq_g, Int.reduceToNat, Int.reduceLE, Int.reduceLT, Int.reduceNeg, startD, List.replicate, Nat.reduceAdd, Nat.reduceSub, Nat.reduceEqDiff, if_true, if_false, Int.reduceEq, Int.reduceAdd, Int.reduceSub, Int.reduceMul, eq_self]
        rw [zm (isTy_lst hg0)]
        simp only [wq_a, wq_b, wq_c, wq_d, wq_e, wq_f, wq_g, Int.reduceToNat, Int.reduceLE, Int.reduceLT, Int.reduceNeg, startD, List.replicate, Nat.reduceAdd, Nat.reduceSub, Nat.reduceEqDiff, if_true, if_false, Int.reduceEq, Int.reduceAdd, Int.reduceSub, Int.reduceMul, eq_self, f2]
        rw [w_appL hg (by rw [sizeLine_eq, List.length_map, zs_len]; omega), show DO.lst ((fnR ins rows w).map sW) = rowO (fnR ins rows w) from rfl, lay_add (by rw [lay_len])]
        exact ⟨_, by first | rfl | trivial, rfl⟩
  obtain ⟨d, S', e, rfl, rfl⟩ := Wp.ok main
  unfold Fr_checks cutF
  rw [e]
  exact cut_lay

end Lw

namespace Lw
open PySem PySem.Spec PyProof.Rows L2 DL
inductive Sm (S : Sto) : Nat → D → D → Prop where
  | non {n} : Sm S n .non .non
  | int {n i} : Sm S n (.int i) (.int i)
  | str {n s} : PyData.strOk s = true → Sm S n (.str s) (.str s)
  | tup {n xs ys} : xs.length ≤ 1000000000 → xs.length = ys.length → (∀ (i : Nat) (x y : D), xs[i]? = some x → ys[i]? = some y → Sm S n x y) → Sm S (n + 1) (.tup xs) (.tup ys)
  | lst {n x y xs ys} : lsD x S = some xs → lsD y S = some ys → xs.length ≤ 1000000000 → xs.length = ys.length → (∀ (i : Nat) (x y : D), xs[i]? = some x → ys[i]? = some y → Sm S n x y) → Sm S (n + 1) x y
theorem ls_grow {S S' : Sto} {x : D} {xs : List D} (g : Grow S S') (h : lsD x S = some xs) : lsD x S' = some xs := by
  cases x with
  | ref l =>
    unfold lsD at h ⊢
    cases e : S[l]? with
    | none => simp only [e] at h; cases h
    | some o => simp only [g.get e]; simp only [e] at h; exact h
  | frl ys => exact h
  | _ => cases h
theorem Sm.grow {S S' : Sto} (g : Grow S S') {n : Nat} {x y : D} (h : Sm S n x y) : Sm S' n x y := by
  induction h with
  | non => exact .non
  | int => exact .int
  | str h => exact .str h
  | tup h1 h2 _ ih => exact .tup h1 h2 ih
  | lst a b h1 h2 _ ih => exact .lst (ls_grow g a) (ls_grow g b) h1 h2 ih
theorem ls_ix {S : Sto} {x : D} {xs : List D} {i : Nat} {d : D} (h : lsD x S = some xs) (hi : xs[i]? = some d) : ixD x (.int ((i : Nat) : Int)) S = .ok d S := by
  have e : atI xs ((i : Nat) : Int) = some d := by rw [atI_pos (by omega)]; simpa using hi
  cases x with
  | ref l =>
    unfold lsD at h
    cases e1 : S[l]? with
    | none => simp only [e1] at h; cases h
    | some o =>
      cases o with
      | lst zs =>
        simp only [e1] at h
        cases h
        simp only [ixD, e1, e]
      | _ => simp only [e1] at h; cases h
  | frl ys =>
    cases h
    simp only [ixD, e]
  | _ => cases h
theorem ls_len {S : Sto} {x : D} {xs : List D} (h : lsD x S = some xs) : lenD [x] S = .ok (.int ((xs.length : Nat) : Int)) S := by
  cases x with
  | ref l =>
    unfold lsD at h
    cases e1 : S[l]? with
    | none => simp only [e1] at h; cases h
    | some o =>
      cases o with
      | lst zs =>
        simp only [e1] at h
        cases h
        simp only [lenD, e1]
      | _ => simp only [e1] at h; cases h
  | frl ys =>
    cases h
    rfl
  | _ => cases h
theorem ls_ty {S : Sto} {x : D} {xs : List D} (h : lsD x S = some xs) : tyS x S = some "list" := by
  cases x with
  | ref l =>
    unfold lsD at h
    cases e1 : S[l]? with
    | none => simp only [e1] at h; cases h
    | some o =>
      cases o with
      | lst zs => simp only [tyS, e1]
      | _ => simp only [e1] at h; cases h
  | frl ys => rfl
  | _ => cases h
theorem same2_ok : ∀ (n j : Nat) {x y : D} {S : Sto}, Sm S n x y → F__law_same (n + 1 + j) [x, y] S = .ok (.bl true) S := by
  intro n
  induction n with
  | zero =>
    intro j x y S h
    rw [show 0 + 1 + j = j + 1 by omega]
    cases h with
    | non =>
      unfold F__law_same
      refine fn_ok rfl ?_
      unfold b__law_same
      simp only [z6, z5, wq_a, wq_b, wq_c, wq_d, wq_e, wq_f, wq_g, Int.reduceToNat, Int.reduceLE, Int.reduceLT, Int.reduceNeg, startD, List.replicate, Nat.reduceAdd, Nat.reduceSub, Nat.reduceEqDiff, if_true, if_false, Int.reduceEq, Int.reduceAdd, Int.reduceSub, Int.reduceMul, eq_self]
      exact ⟨trivial, app_nil S⟩
    | int =>
      unfold F__law_same
      refine fn_ok rfl ?_
      unfold b__law_same
      simp only [z6, z5, wq_a, wq_b, wq_c, wq_d, wq_e, wq_f, wq_g, Int.reduceToNat, Int.reduceLE, Int.reduceLT, Int.reduceNeg, startD, List.replicate, Nat.reduceAdd, Nat.reduceSub, Nat.reduceEqDiff, if_true, if_false, Int.reduceEq, Int.reduceAdd, Int.reduceSub, Int.reduceMul, eq_self]
      exact ⟨trivial, app_nil S⟩
    | str _ =>
      unfold F__law_same
      refine fn_ok rfl ?_
      unfold b__law_same
      simp only [z6, z5, wq_a, wq_b, wq_c, wq_d, wq_e, wq_f, wq_g, Int.reduceToNat, Int.reduceLE, Int.reduceLT, Int.reduceNeg, startD, List.replicate, Nat.reduceAdd, Nat.reduceSub, Nat.reduceEqDiff, if_true, if_false, Int.reduceEq, Int.reduceAdd, Int.reduceSub, Int.reduceMul, eq_self]
      exact ⟨trivial, app_nil S⟩
  | succ m ih =>
    intro j x y S h
    rw [show m + 1 + 1 + j = (m + 1 + j) + 1 by omega]
    have core : ∀ {xs ys : List D}, (∀ S', Grow S S' → ∀ (i : Nat) (d : D), xs[i]? = some d → ixD x (.int ((i : Nat) : Int)) S' = .ok d S') → (∀ S', Grow S S' → ∀ (i : Nat) (d : D), ys[i]? = some d → ixD y (.int ((i : Nat) : Int)) S' = .ok d S') → lenD [y] S = .ok (.int ((ys.length : Nat) : Int)) S → xs.length ≤ 1000000000 → xs.length = ys.length → (∀ (i : Nat) (x y : D), xs[i]? = some x → ys[i]? = some y → Sm S m x y) →
        dFrz (dComp [2] (iRngD1 (dCall lenD (dCons (dVar 1) dNil))) (gVar 2) (tNotD (tstB (dCallF 2 (F__law_same (m + 1 + j)) (dCons (d2 ixD (dVar 0) (dVar 2)) (dCons (d2 ixD (dVar 1) (dVar 2)) dNil))))) (dVar 2)) [some x, some y, none] S
          = .ok (.frl (((List.range ys.length).filter fun _ => false).map fun i => .int (0 + (i : Nat)))) S := by
      intro xs ys ix iy hlen hsz hll hs
      refine compF (List.range ys.length) (fun i => .int (0 + (i : Nat))) (fun _ => false) _ ?_ (by rw [List.filter_eq_nil_iff.mpr (fun _ _ => by simp)]; exact Nat.zero_le _) ?_ ?_
      · simp only [z6, z5, wq_a, wq_b, wq_c, wq_d, wq_e, wq_f, wq_g, Int.reduceToNat, Int.reduceLE, Int.reduceLT, Int.reduceNeg, startD, List.replicate, Nat.reduceAdd, Nat.reduceSub, Nat.reduceEqDiff, if_true, if_false, Int.reduceEq, Int.reduceAdd, Int.reduceSub, Int.reduceMul, eq_self, hlen]
        rw [zm (rng_ok (by omega))]
        simp only [z6, z5, wq_a, wq_b, wq_c, wq_d, wq_e, wq_f, wq_g, Int.reduceToNat, Int.reduceLE, Int.reduceLT, Int.reduceNeg, startD, List.replicate, Nat.reduceAdd, Nat.reduceSub, Nat.reduceEqDiff, if_true, if_false, Int.reduceEq, Int.reduceAdd, Int.reduceSub, Int.reduceMul, eq_self]
        exact ⟨trivial, rng_map, fun _ _ => rfl⟩
      · intro i hi S' g
        have hi' := List.mem_range.mp hi
        have e0 : (0 : Int) + ((i : Nat) : Int) = ((i : Nat) : Int) := by omega
        have hx : xs[i]? = some xs[i] := List.getElem?_eq_getElem (by omega)
        have hy : ys[i]? = some ys[i] := List.getElem?_eq_getElem (by omega)
        simp only [z6, z5, wq_a, wq_b, wq_c, wq_d, wq_e, wq_f, wq_g, Int.reduceToNat, Int.reduceLE, Int.reduceLT, Int.reduceNeg, startD, List.replicate, Nat.reduceAdd, Nat.reduceSub, Nat.reduceEqDiff, if_true, if_false, Int.reduceEq, Int.reduceAdd, Int.reduceSub, Int.reduceMul, eq_self, wipeD, e0, ix S' g i _ hx, iy S' g i _ hy]
        rw [ih j ((hs i _ _ hx hy).grow g)]
        simp only [z6, z5, wq_a, wq_b, wq_c, wq_d, wq_e, wq_f, wq_g, Int.reduceToNat, Int.reduceLE, Int.reduceLT, Int.reduceNeg, startD, List.replicate, Nat.reduceAdd, Nat.reduceSub, Nat.reduceEqDiff, if_true, if_false, Int.reduceEq, Int.reduceAdd, Int.reduceSub, Int.reduceMul, eq_self]
        exact ⟨trivial, trivial, trivial, fun z => by cases z⟩
      · intro i _ _; rfl
    have e0 : ∀ k : Nat, (((List.range k).filter fun _ => false).map fun i => D.int (0 + (i : Nat))) = [] := fun k => by rw [List.filter_eq_nil_iff.mpr (fun _ _ => by simp)]; rfl
    cases h with
    | non => have := ih (j + 1) (x := .non) (y := .non) (S := S) .non; rwa [show m + 1 + (j + 1) = m + 1 + j + 1 by omega] at this
    | @int _ i => have := ih (j + 1) (x := .int i) (y := .int i) (S := S) .int; rw [show m + 1 + (j + 1) = m + 1 + j + 1 by omega] at this; exact this
    | str hs => have := ih (j + 1) (S := S) (.str hs); rw [show m + 1 + (j + 1) = m + 1 + j + 1 by omega] at this; exact this
    | @tup _ xs ys h1 h2 h3 =>
      unfold F__law_same
      refine fn_ok rfl ?_
      unfold b__law_same
      have hl : (((xs.length : Nat) : Int) = ((ys.length : Nat) : Int)) = True := by rw [h2]; simp
      simp only [z6, z5, wq_a, wq_b, wq_c, wq_d, wq_e, wq_f, wq_g, Int.reduceToNat, Int.reduceLE, Int.reduceLT, Int.reduceNeg, startD, List.replicate, Nat.reduceAdd, Nat.reduceSub, Nat.reduceEqDiff, if_true, if_false, Int.reduceEq, Int.reduceAdd, Int.reduceSub, Int.reduceMul, eq_self, hl, core (xs := xs) (ys := ys) (fun S' _ i d hd => by
        have e : atI xs ((i : Nat) : Int) = some d := by rw [atI_pos (by omega)]; simpa using hd
        simp only [ixD, e]) (fun S' _ i d hd => by
        have e : atI ys ((i : Nat) : Int) = some d := by rw [atI_pos (by omega)]; simpa using hd
        simp only [ixD, e]) rfl h1 h2 h3, e0]
      rw [w_eqG gd_nil gd_nil]
      simp only [z6, z5, wq_a, wq_b, wq_c, wq_d, wq_e, wq_f, wq_g, Int.reduceToNat, Int.reduceLE, Int.reduceLT, Int.reduceNeg, startD, List.replicate, Nat.reduceAdd, Nat.reduceSub, Nat.reduceEqDiff, if_true, if_false, Int.reduceEq, Int.reduceAdd, Int.reduceSub, Int.reduceMul, eq_self]
      exact ⟨trivial, app_nil S⟩
    | @lst _ _ _ xs ys a b h1 h2 h3 =>
      unfold F__law_same
      refine fn_ok rfl ?_
      unfold b__law_same
      have hl : (((xs.length : Nat) : Int) = ((ys.length : Nat) : Int)) = True := by rw [h2]; simp
      simp only [z6, z5, wq_a, wq_b, wq_c, wq_d, wq_e, wq_f, wq_g, Int.reduceToNat, Int.reduceLE, Int.reduceLT, Int.reduceNeg, startD, List.replicate, Nat.reduceAdd, Nat.reduceSub, Nat.reduceEqDiff, if_true, if_false, Int.reduceEq, Int.reduceAdd, Int.reduceSub, Int.reduceMul, eq_self, ls_ty a, ls_ty b, ls_len a, ls_len b, hl, core (xs := xs) (ys := ys) (fun S' g i d hd => ls_ix (ls_grow g a) hd) (fun S' g i d hd => ls_ix (ls_grow g b) hd) (ls_len b) h1 h2 h3, e0]
      rw [w_eqG gd_nil gd_nil]
      simp only [z6, z5, wq_a, wq_b, wq_c, wq_d, wq_e, wq_f, wq_g, Int.reduceToNat, Int.reduceLE, Int.reduceLT, Int.reduceNeg, startD, List.replicate, Nat.reduceAdd, Nat.reduceSub, Nat.reduceEqDiff, if_true, if_false, Int.reduceEq, Int.reduceAdd, Int.reduceSub, Int.reduceMul, eq_self]
      exact ⟨trivial, app_nil S⟩

theorem frz_R1 {n : Nat} {fa : Sl → Sto → Res D} {sd : Sl} {S : Sto} (h : fa sd S = .ok (.int ((n : Nat) : Int)) S) (hn : n ≤ 16777216) : dFrz (dLstR1 fa) sd S = .ok (.frl (rangeL 0 n)) S := by
  refine eq_of_wp ?_
  rw [w_dFrz, w_bind, w_lstR1 h hn]
  show Wp (frzD S (.ref S.length) (S ++ [.lst (rangeL 0 n)])) _ _
  rw [frz_last]
  · exact ⟨rfl, rfl⟩
  · refine blws_all fun d hd => ?_
    obtain ⟨i, _, rfl⟩ := List.mem_map.mp hd
    rfl
def goodL (rows : List (List En)) (sm : List Wr) (less : List RowB) : Bool := sm.all fun w => !(!fnd rows less w)
def leanS (rows : List (List En)) (sm : List Wr) (found : List RowB) (k : Nat) : List RowB := if goodL rows sm (found.take k ++ found.drop (k + 1)) then found.take k ++ found.drop (k + 1) else found
def someL (ins : Nat) (rows : List (List En)) (ts : List RowB) : List Wr := (allW ins rows).filter fun w => fnd rows ts w
def leanL (ins : Nat) (rows : List (List En)) (ts : List RowB) : List RowB := ((List.range ts.length).reverse).foldl (leanS rows (someL ins rows ts)) ts
theorem lean_ok {ins : Nat} {rows : List (List En)} {sm : List Wr} : ∀ (ks : List Nat) (found : List RowB), (∀ t ∈ found, t.length ≤ 1000 ∧ ∀ b ∈ t, b.length = ins) → (ks.foldl (leanS rows sm) found).length ≤ found.length ∧ ∀ t ∈ ks.foldl (leanS rows sm) found, t.length ≤ 1000 ∧ ∀ b ∈ t, b.length = ins
  | [], found, h => ⟨Nat.le_refl _, h⟩
  | k :: ks, found, h => by
    have hm : ∀ t ∈ found.take k ++ found.drop (k + 1), t ∈ found := fun t ht => by
      rcases List.mem_append.mp ht with ht | ht
      · exact List.mem_of_mem_take ht
      · exact List.mem_of_mem_drop ht
    have hl : (found.take k ++ found.drop (k + 1)).length ≤ found.length := by
      rw [List.length_append, List.length_take, List.length_drop]; omega
    rw [List.foldl_cons]
    unfold leanS
    split
    · have ih := lean_ok (ins := ins) (rows := rows) (sm := sm) ks (found.take k ++ found.drop (k + 1)) fun t ht => h t (hm t ht)
      exact ⟨Nat.le_trans ih.1 hl, ih.2⟩
    · exact lean_ok ks found h
theorem down_rev {n : Nat} : downL (((n : Nat) : Int) - 1) n = ((List.range n).reverse).map nI := by
  unfold downL
  refine List.ext_getElem (by simp) fun i h1 h2 => ?_
  rw [List.length_map, List.length_range] at h1
  simp only [List.getElem_map, List.getElem_range, List.getElem_reverse, List.length_range]
  show D.int _ = D.int _
  rw [D.int.injEq]
  omega
theorem rgL_rev {n : Nat} : (rangeL 0 n).reverse = ((List.range n).reverse).map nI := by
  unfold rangeL
  rw [← List.map_reverse]
  exact List.map_congr_left fun k _ => by show D.int _ = D.int _; rw [Int.zero_add]
theorem w_sliceL {x : D} {xs : List D} {lo hi : Option Int} {S : Sto} {Q : D → Sto → Prop} {X : Exc → Sto → Prop} (h : lsD x S = some xs) : Wp (sliceF x lo hi S) Q X = Q (.frl (cutL xs lo hi)) S := by
  cases x with
  | tup ds => cases h
  | str z => cases h
  | _ => simp only [sliceF, h]; rfl
theorem ls_ref {k : Nat} {S : Sto} {xs : List D} (h : lsD (.ref k) S = some xs) : S[k]? = some (.lst xs) := by
  have h' : (match S[k]? with | some (.lst ds) => some ds | _ => none) = some xs := h
  cases e : S[k]? with
  | none => rw [e] at h'; cases h'
  | some o =>
    rw [e] at h'
    cases o with
    | lst zs => cases h'; rfl
    | _ => cases h'
theorem rows_ls {x : D} {S : Sto} {ts : List RowB} (h : lsD x S = some (ts.map rwT)) : RowsAt x S ts := by
  cases x with
  | frl ds =>
    cases h
    exact rows_frl
  | ref k => exact rows_ref (ls_ref h)
  | _ => cases h
theorem cut_two {α : Type} (f : α → D) (xs : List α) (k : Nat) : cutL (xs.map f) none (some ((k : Nat) : Int)) ++ cutL (xs.map f) (some ((k + 1 : Nat) : Int)) none = (xs.take k ++ xs.drop (k + 1)).map f := by
  rw [cut_take, cut_drop, List.map_append, List.map_take, List.map_drop]
theorem law_lean_ok {ins outs : Nat} {rows : List (List En)} {ts : List RowB} {x : D} {S : Sto} (P : PM ins outs rows) (hn : rows.length ≤ 16) (hx : lsD x S = some (ts.map rwT)) (hb : ∀ t ∈ ts, t.length ≤ 1000 ∧ ∀ b ∈ t, b.length = ins) (hz : ts.length ≤ 1000) :
    F__law_lean [plD ins outs rows, x, .frl ((allW ins rows).map (wrL ins))] S = .ok (.frl ((leanL ins rows ts).map rwT)) S := by
  have hlen := allW_len P (by omega)
  unfold F__law_lean
  refine fn_ok (gd_blw (n := 2) _ (gd_frl (gd_map fun t _ => rwT_gd t))) ?_
  unfold b__law_lean
  have hrx : RowsAt x S ts := rows_ls hx
  have hin : ∀ w ∈ someL ins rows ts, w ∈ allW ins rows := fun w hw => (List.mem_filter.mp hw).1
  have lf := fun (S : Sto) (w : Wr) (hw : w ∈ allW ins rows) (us : List RowB) (y : D) (hy : RowsAt y S us) (hu : ∀ t ∈ us, t.length ≤ 1000 ∧ ∀ b ∈ t, b.length = ins) (hl : us.length ≤ 1000) => let m := allW_mem P hw; law_finds_ok (S := S) P hy hu hl m.1 m.2.1 m.2.2
  generalize plD ins outs rows = PP at lf ⊢
  have grow_rows : ∀ {S' : Sto}, Grow S S' → RowsAt x S' ts := fun {S'} hg => by
    obtain ⟨T, rfl⟩ := hg
    intro T'
    obtain ⟨chk, e, h⟩ := hrx (T ++ T')
    exact ⟨chk, by rw [List.append_assoc]; exact e, fun T'' => by rw [List.append_assoc]; exact h _⟩
  have h1 : ∀ {a3 a4 a5 a6 a7 : Option D}, dFrz (dComp [7] (iVal (dVar 2)) (gVar 7) (tstB (dCallF 3 F__law_finds (dCons (dVar 0) (dCons (dVar 1) (dCons (dVar 7) dNil))))) (dVar 7)) [some PP, some x, some (.frl ((allW ins rows).map (wrL ins))), a3, a4, a5, a6, a7] S = .ok (.frl ((someL ins rows ts).map (wrL ins))) S := fun {a3 a4 a5 a6 a7} => by
    refine compF (allW ins rows) (wrL ins) (fun w => fnd rows ts w) _ ?_ (Nat.le_trans (List.length_filter_le _ _) (szn (by omega))) ?_ ?_
    · simp only [wq_a, wq_b, wq_c, wq_d, wq_e, wq_f, wq_g, Int.reduceToNat, Int.reduceLE, Int.reduceLT, Int.reduceNeg, startD, List.replicate, Nat.reduceAdd, Nat.reduceSub, Nat.reduceEqDiff, if_true, if_false, Int.reduceEq, Int.reduceAdd, Int.reduceSub, Int.reduceMul, eq_self, itemsD]
      exact ⟨trivial, trivial, fun _ _ => rfl⟩
    · intro w hw S' hg
      have e1 := lf S' w hw ts x (grow_rows hg) hb hz
      simp only [wq_a, wq_b, wq_c, wq_d, wq_e, wq_f, wq_g, Int.reduceToNat, Int.reduceLE, Int.reduceLT, Int.reduceNeg, startD, List.replicate, Nat.reduceAdd, Nat.reduceSub, Nat.reduceEqDiff, if_true, if_false, Int.reduceEq, Int.reduceAdd, Int.reduceSub, Int.reduceMul, eq_self, wipeD, e1]
      exact ⟨trivial, trivial, trivial, fun _ => ⟨trivial, trivial⟩⟩
    · intro w _ _
      exact gd_blw (n := 1) _ (wrL_gd w)
  have h2 : ∀ {us : List RowB} {a1 a2 a4 a5 a7 : Option D}, (∀ t ∈ us, t.length ≤ 1000 ∧ ∀ b ∈ t, b.length = ins) → us.length ≤ 1000 → dFrz (dComp [7] (iVal (dVar 3)) (gVar 7) (tNotD (tstB (dCallF 3 F__law_finds (dCons (dVar 0) (dCons (dVar 6) (dCons (dVar 7) dNil)))))) (dVar 7)) [some PP, a1, a2, some (.frl ((someL ins rows ts).map (wrL ins))), a4, a5, some (.frl (us.map rwT)), a7] S = .ok (.frl (((someL ins rows ts).filter fun w => !fnd rows us w).map (wrL ins))) S := fun {us a1 a2 a4 a5 a7} hu hl => by
    refine compF (someL ins rows ts) (wrL ins) (fun w => !fnd rows us w) _ ?_ (Nat.le_trans (List.length_filter_le _ _) (Nat.le_trans (List.length_filter_le _ _) (szn (by omega)))) ?_ ?_
    · simp only [wq_a, wq_b, wq_c, wq_d, wq_e, wq_f, wq_g, Int.reduceToNat, Int.reduceLE, Int.reduceLT, Int.reduceNeg, startD, List.replicate, Nat.reduceAdd, Nat.reduceSub, Nat.reduceEqDiff, if_true, if_false, Int.reduceEq, Int.reduceAdd, Int.reduceSub, Int.reduceMul, eq_self, itemsD]
      exact ⟨trivial, trivial, fun _ _ => rfl⟩
    · intro w hw S' hg
      have e1 := lf S' w (hin w hw) us (.frl (us.map rwT)) rows_frl hu hl
      simp only [wq_a, wq_b, wq_c, wq_d, wq_e, wq_f, wq_g, Int.reduceToNat, Int.reduceLE, Int.reduceLT, Int.reduceNeg, startD, List.replicate, Nat.reduceAdd, Nat.reduceSub, Nat.reduceEqDiff, if_true, if_false, Int.reduceEq, Int.reduceAdd, Int.reduceSub, Int.reduceMul, eq_self, wipeD, e1]
      exact ⟨trivial, trivial, trivial, fun _ => ⟨trivial, trivial⟩⟩
    · intro w _ _
      exact gd_blw (n := 1) _ (wrL_gd w)
  have hlist : listF [x] S = .ok (.frl (ts.map rwT)) S := by
    cases x with
    | frl ds => cases hx; rfl
    | ref k => simp only [listF, seqD, ls_ref hx]
    | _ => cases hx
  have hlx : lenD [x] S = .ok (.int ((ts.length : Nat) : Int)) S := by
    rw [ls_len hx, List.length_map]
  have hrev : ∀ {a2 a3 a4 a5 a6 a7 : Option D}, dFrz (dLstR1 (dCall lenD (dCons (dVar 1) dNil))) [some PP, some x, a2, a3, a4, a5, a6, a7] S = .ok (.frl (rangeL 0 ts.length)) S := fun {a2 a3 a4 a5 a6 a7} => by
    refine frz_R1 ?_ (by omega)
    apply eq_of_wp
    simp only [wq_a, wq_b, wq_c, wq_d, wq_e, wq_f, wq_g, Int.reduceToNat, Int.reduceLE, Int.reduceLT, Int.reduceNeg, startD, List.replicate, Nat.reduceAdd, Nat.reduceSub, Nat.reduceEqDiff, if_true, if_false, Int.reduceEq, Int.reduceAdd, Int.reduceSub, Int.reduceMul, eq_self, hlx]
    exact ⟨by first | rfl | trivial, by first | rfl | trivial⟩
  have hit : ∀ {a2 a3 a4 a5 a6 a7 : Option D}, iRevD (dFrz (dLstR1 (dCall lenD (dCons (dVar 1) dNil)))) [some PP, some x, a2, a3, a4, a5, a6, a7] S = .ok ⟨((List.range ts.length).reverse).map nI, yes⟩ S := fun {a2 a3 a4 a5 a6 a7} => by
    unfold iRevD
    rw [hrev]
    simp only [Res.bind, rgL_rev]
  simp only [wq_a, wq_b, wq_c, wq_d, wq_e, wq_f, wq_g, Int.reduceToNat, Int.reduceLE, Int.reduceLT, Int.reduceNeg, startD, List.replicate, Nat.reduceAdd, Nat.reduceSub, Nat.reduceEqDiff, if_true, if_false, Int.reduceEq, Int.reduceAdd, Int.reduceSub, Int.reduceMul, eq_self, h1]
  rw [w_listF hlist]
  simp only [wq_a, wq_b, wq_c, wq_d, wq_e, wq_f, wq_g, Int.reduceToNat, Int.reduceLE, Int.reduceLT, Int.reduceNeg, startD, List.replicate, Nat.reduceAdd, Nat.reduceSub, Nat.reduceEqDiff, if_true, if_false, Int.reduceEq, Int.reduceAdd, Int.reduceSub, Int.reduceMul, eq_self, hit]
  refine w_loopP nI (fun pre sd S' => ∃ (a5 a6 a7 : Option D), S' = S ∧ sd = [some PP, some x, some (.frl ((allW ins rows).map (wrL ins))), some (.frl ((someL ins rows ts).map (wrL ins))), some (.frl ((pre.foldl (leanS rows (someL ins rows ts)) ts).map rwT)), a5, a6, a7]) ((List.range ts.length).reverse) (fun _ _ _ _ _ _ => rfl) ⟨_, _, _, rfl, rfl⟩ ?_ ?_
  · rintro sd S' ⟨a5, a6, a7, rfl, rfl⟩
    simp only [wq_a, wq_b, wq_c, wq_d, wq_e, wq_f, wq_g, Int.reduceToNat, Int.reduceLE, Int.reduceLT, Int.reduceNeg, startD, List.replicate, Nat.reduceAdd, Nat.reduceSub, Nat.reduceEqDiff, if_true, if_false, Int.reduceEq, Int.reduceAdd, Int.reduceSub, Int.reduceMul, eq_self]
    exact ⟨rfl, app_nil S'⟩
  · rintro pre k post sd S' e ⟨a5, a6, a7, rfl, rfl⟩
    obtain ⟨f1, f2⟩ := lean_ok (ins := ins) (rows := rows) (sm := someL ins rows ts) pre ts hb
    rw [List.foldl_append, List.foldl_cons, List.foldl_nil]
    generalize pre.foldl (leanS rows (someL ins rows ts)) ts = found at f1 f2 ⊢
    have hm : ∀ t ∈ found.take k ++ found.drop (k + 1), t.length ≤ 1000 ∧ ∀ b ∈ t, b.length = ins := fun t ht => by
      rcases List.mem_append.mp ht with ht | ht
      · exact f2 t (List.mem_of_mem_take ht)
      · exact f2 t (List.mem_of_mem_drop ht)
    have hl : (found.take k ++ found.drop (k + 1)).length ≤ 1000 := by
      rw [List.length_append, List.length_take, List.length_drop]; omega
    simp only [wq_a, wq_b, wq_c, wq_d, wq_e, wq_f, wq_g, Int.reduceToNat, Int.reduceLE, Int.reduceLT, Int.reduceNeg, startD, List.replicate, Nat.reduceAdd, Nat.reduceSub, Nat.reduceEqDiff, if_true, if_false, Int.reduceEq, Int.reduceAdd, Int.reduceSub, Int.reduceMul, eq_self, nI]
    rw [w_sliceL (xs := found.map rwT) rfl]
    simp only [wq_a, wq_b, wq_c, wq_d, wq_e, wq_f, wq_g, Int.reduceToNat, Int.reduceLE, Int.reduceLT, Int.reduceNeg, startD, List.replicate, Nat.reduceAdd, Nat.reduceSub, Nat.reduceEqDiff, if_true, if_false, Int.reduceEq, Int.reduceAdd, Int.reduceSub, Int.reduceMul, eq_self]
    rw [show (((k : Nat) : Int) + 1) = ((k + 1 : Nat) : Int) by omega, w_sliceL (xs := found.map rwT) rfl]
    simp only [wq_a, wq_b, wq_c, wq_d, wq_e, wq_f, wq_g, Int.reduceToNat, Int.reduceLE, Int.reduceLT, Int.reduceNeg, startD, List.replicate, Nat.reduceAdd, Nat.reduceSub, Nat.reduceEqDiff, if_true, if_false, Int.reduceEq, Int.reduceAdd, Int.reduceSub, Int.reduceMul, eq_self]
    have ec := cut_two rwT found k
    rw [zm (by rw [← List.length_append, ec, List.length_map]; exact szn (by omega))]
    rw [ec]
    simp only [wq_a, wq_b, wq_c, wq_d, wq_e, wq_f, wq_g, Int.reduceToNat, Int.reduceLE, Int.reduceLT, Int.reduceNeg, startD, List.replicate, Nat.reduceAdd, Nat.reduceSub, Nat.reduceEqDiff, if_true, if_false, Int.reduceEq, Int.reduceAdd, Int.reduceSub, Int.reduceMul, eq_self, h2 hm hl]
    rw [w_eqNil (n := 1) fun a _ => wrL_gd a]
    unfold leanS
    rw [show ((someL ins rows ts).all fun a => !(!fnd rows (found.take k ++ found.drop (k + 1)) a)) = goodL rows (someL ins rows ts) (found.take k ++ found.drop (k + 1)) from rfl]
    cases goodL rows (someL ins rows ts) (found.take k ++ found.drop (k + 1)) with
    | true =>
      simp only [wq_a, wq_b, wq_c, wq_d, wq_e, wq_f, wq_g, Int.reduceToNat, Int.reduceLE, Int.reduceLT, Int.reduceNeg, startD, List.replicate, Nat.reduceAdd, Nat.reduceSub, Nat.reduceEqDiff, if_true, if_false, Int.reduceEq, Int.reduceAdd, Int.reduceSub, Int.reduceMul, eq_self]
      exact ⟨_, _, _, by first | rfl | trivial, rfl⟩
    | false =>
      simp only [wq_a, wq_b, wq_c, wq_d, wq_e, wq_f, wq_g, Int.reduceToNat, Int.reduceLE, Int.reduceLT, Int.reduceNeg, startD, List.replicate, Nat.reduceAdd, Nat.reduceSub, Nat.reduceEqDiff, if_true, if_false, Int.reduceEq, Int.reduceAdd, Int.reduceSub, Int.reduceMul, eq_self]
      exact ⟨_, _, _, by first | rfl | trivial, rfl⟩

end Lw

namespace Lw
open PySem PySem.Spec PyProof.Rows L2 DL
theorem compN {acc : List RowB} {vs : List Nat} {fi : Sl → Sto → Res ItD} {ga : D → Sl → Sto → Res Sl} {fe : Sl → Sto → Res D} {sd : Sl} {S : Sto}
    (hi : Wp (fi sd S) (fun it S1 => S1 = S ∧ it.items = acc.map rwT ∧ ∀ S', Grow S S' → it.chk S' = true) NX) (hl : acc.length ≤ sizeLine)
    (hx : ∀ t ∈ acc, ∀ S', Grow S S' → Wp (ga (rwT t) (wipeD sd vs) S') (fun sd1 S1 => S1 = S' ∧ Wp (fe sd1 S') (fun y S3 => S3 = S' ++ [rowO t] ∧ y = .ref S'.length) NX) NX) : dComp vs fi ga tYesD fe sd S = .ok (.ref S.length) (lay S acc) := by
  obtain ⟨it, S1, e1, rfl, e2, e3⟩ := ok_of_wp hi
  have key : ∀ (ys pre : List RowB), (∀ a ∈ ys, a ∈ acc) → pre.length + ys.length ≤ sizeLine → compD it.chk ga tYesD fe S1.length (wipeD sd vs) (ys.map rwT) (lay S1 pre) = .ok () (lay S1 (pre ++ ys)) := by
    intro ys
    induction ys with
    | nil =>
      intro pre _ _
      show (if it.chk (lay S1 pre) = true then Res.ok () (lay S1 pre) else .stuck) = _
      rw [if_pos (e3 (lay S1 pre) ⟨_, rfl⟩), List.append_nil]
    | cons a ys ih =>
      intro pre hm hlen
      have hlen' : pre.length + 1 + ys.length ≤ sizeLine := by simp at hlen; omega
      obtain ⟨sd1, S2, g1, rfl, h2⟩ := ok_of_wp (hx a (hm a (by simp)) (lay S1 pre) ⟨_, rfl⟩)
      obtain ⟨y, S3, g2, rfl, rfl⟩ := ok_of_wp h2
      have g3 := ih (pre ++ [a]) (fun z hz => hm z (by simp [hz])) (by simp; omega)
      rw [List.map_cons]
      unfold compD
      rw [if_pos (e3 (lay S1 pre) ⟨_, rfl⟩), g1]
      simp only [Res.noExc, Res.bind, tYesD, if_true, g2]
      have hg : (lay S1 pre ++ [rowO a])[S1.length]? = some (.lst ((zsOf (S1.length + 1) pre).map zRef)) := by
        rw [List.getElem?_append_left (by rw [lay_len]; omega)]
        exact lay_rr.1
      rw [hg]
      simp only
      rw [if_pos (by rw [List.length_map, zs_len]; omega), lay_add (by rw [lay_len]), g3]
      simp
  have g := key acc [] (fun _ h => h) (by simpa using hl)
  unfold dComp
  rw [e1]
  show ((compD it.chk ga tYesD fe S1.length (wipeD sd vs) it.items (S1 ++ [.lst []])).bind fun _ S2 => Res.ok (D.ref S1.length) S2) = _
  rw [e2, show S1 ++ [DO.lst []] = lay S1 [] from rfl, g]
  rfl
theorem cut_layG {S G : Sto} {acc : List RowB} : ∃ G', cutR S (.ok (.ref (S ++ G).length) (lay (S ++ G) acc)) = .ok (.ref (S ++ G').length) (lay (S ++ G') acc) := by
  have e : lay (S ++ G) acc = S ++ (G ++ DO.lst ((zsOf ((S ++ G).length + 1) acc).map zRef) :: acc.map rowO) := by simp [lay]
  have hb : ¬ (D.ref (S ++ G).length).blw S.length = true := by show ¬ decide ((S ++ G).length < S.length) = true; simp
  have hr := lay_rr (S := S ++ G) (acc := acc)
  simp only [cutR]
  rw [if_pos (show cutOk S (lay (S ++ G) acc) = true by rw [e]; exact cutOk_app S _), if_neg hb, hr.1]
  dsimp only
  cases acc with
  | nil =>
    rw [if_pos ⟨rfl, by simp⟩]
    refine ⟨[], ?_⟩
    rw [e, List.take_left, List.append_nil]
    rfl
  | cons t ts =>
    refine ⟨G, ?_⟩
    rw [if_neg]
    rintro ⟨h, _⟩
    have : decide ((S ++ G).length + 1 < S.length) = true := by
      unfold D.blws at h
      exact (Bool.and_eq_true_iff.mp h).1
    have := of_decide_eq_true this
    rw [List.length_append] at this
    omega
theorem lean_prog {ins outs : Nat} {rows : List (List En)} {ts : List RowB} {S : Sto} (P : PM ins outs rows) (hn : rows.length ≤ 6) (hb : ∀ t ∈ ts, t.length ≤ 1000 ∧ ∀ b ∈ t, b.length = ins) (hz : ts.length ≤ 200) :
    ∃ G, Fr_lean [plD ins outs rows, .frl (ts.map rwT)] S = .ok (.ref (S ++ G).length) (lay (S ++ G) (leanL ins rows ts)) := by
  have hlen := allW_len P (by omega)
  have nt := fun S : Sto => need_rw (S := S) P hn hb hz
  have aw := fun S : Sto => all_wrong_ok (S := S) P (by omega)
  have fo := fun (S : Sto) (w : Wr) (hw : w ∈ allW ins rows) (us : List RowB) (hu : ∀ t ∈ us, t.length ≤ 1000 ∧ ∀ b ∈ t, b.length = ins) (hl : us.length ≤ 1000) => let m := allW_mem P hw; is_found_ok (S := S) P hu hl m.1 m.2.1 m.2.2
  have hin : ∀ w ∈ someL ins rows ts, w ∈ allW ins rows := fun w hw => (List.mem_filter.mp hw).1
  have main : Wp (dFn 8 br_lean [plD ins outs rows, .frl (ts.map rwT)] S) (fun d S' => ∃ G, d = .ref (S ++ G).length ∧ S' = lay (S ++ G) (leanL ins rows ts)) NX := by
    rw [w_dFn]
    unfold br_lean
    generalize plD ins outs rows = PP at nt aw fo ⊢
    have h1 : ∀ {a2 a3 a4 a5 a6 a7 : Option D}, dFrz (dComp [6] (iVal (dCallF 1 F_all_wrong (dCons (dVar 0) dNil))) (gVar 6) (tstB (dCallF 3 F_is_found (dCons (dVar 0) (dCons (dVar 1) (dCons (dVar 6) dNil))))) (dVar 6)) [some PP, some (.frl (ts.map rwT)), a2, a3, a4, a5, a6, a7] S = .ok (.frl ((someL ins rows ts).map wrD)) S := fun {a2 a3 a4 a5 a6 a7} => by
      refine compF (allW ins rows) wrD (fun w => fnd rows ts w) _ ?_ (Nat.le_trans (List.length_filter_le _ _) (szn (by omega))) ?_ ?_
      · simp only [wq_a, wq_b, wq_c, wq_d, wq_e, wq_f, wq_g, Int.reduceToNat, Int.reduceLE, Int.reduceLT, Int.reduceNeg, startD, List.replicate, Nat.reduceAdd, Nat.reduceSub, Nat.reduceEqDiff, if_true, if_false, Int.reduceEq, Int.reduceAdd, Int.reduceSub, Int.reduceMul, eq_self, aw, itemsD]
        exact ⟨trivial, trivial, fun _ _ => rfl⟩
      · intro w hw S' hg
        have e1 := fo S' w hw ts hb (by omega)
        simp only [wq_a, wq_b, wq_c, wq_d, wq_e, wq_f, wq_g, Int.reduceToNat, Int.reduceLE, Int.reduceLT, Int.reduceNeg, startD, List.replicate, Nat.reduceAdd, Nat.reduceSub, Nat.reduceEqDiff, if_true, if_false, Int.reduceEq, Int.reduceAdd, Int.reduceSub, Int.reduceMul, eq_self, wipeD, e1]
        exact ⟨trivial, trivial, trivial, fun _ => ⟨trivial, trivial⟩⟩
      · intro w _ _
        exact gd_blw (n := 1) _ (wrD_gd w)
    have h2 : ∀ {S : Sto} {us : List RowB} {a1 a3 a4 a6 a7 : Option D}, (∀ t ∈ us, t.length ≤ 1000 ∧ ∀ b ∈ t, b.length = ins) → us.length ≤ 1000 → dFrz (dComp [6] (iVal (dVar 2)) (gVar 6) (tNotD (tstB (dCallF 3 F_is_found (dCons (dVar 0) (dCons (dVar 5) (dCons (dVar 6) dNil)))))) (dVar 6)) [some PP, a1, some (.frl ((someL ins rows ts).map wrD)), a3, a4, some (.frl (us.map rwT)), a6, a7] S = .ok (.frl (((someL ins rows ts).filter fun w => !fnd rows us w).map wrD)) S := fun {S us a1 a3 a4 a6 a7} hu hl => by
      refine compF (someL ins rows ts) wrD (fun w => !fnd rows us w) _ ?_ (Nat.le_trans (List.length_filter_le _ _) (Nat.le_trans (List.length_filter_le _ _) (szn (by omega)))) ?_ ?_
      · simp only [wq_a, wq_b, wq_c, wq_d, wq_e, wq_f, wq_g, Int.reduceToNat, Int.reduceLE, Int.reduceLT, Int.reduceNeg, startD, List.replicate, Nat.reduceAdd, Nat.reduceSub, Nat.reduceEqDiff, if_true, if_false, Int.reduceEq, Int.reduceAdd, Int.reduceSub, Int.reduceMul, eq_self, itemsD]
        exact ⟨trivial, trivial, fun _ _ => rfl⟩
      · intro w hw S' hg
        have e1 := fo S' w (hin w hw) us hu hl
        simp only [wq_a, wq_b, wq_c, wq_d, wq_e, wq_f, wq_g, Int.reduceToNat, Int.reduceLE, Int.reduceLT, Int.reduceNeg, startD, List.replicate, Nat.reduceAdd, Nat.reduceSub, Nat.reduceEqDiff, if_true, if_false, Int.reduceEq, Int.reduceAdd, Int.reduceSub, Int.reduceMul, eq_self, wipeD, e1]
        exact ⟨trivial, trivial, trivial, fun _ => ⟨trivial, trivial⟩⟩
      · intro w _ _
        exact gd_blw (n := 1) _ (wrD_gd w)
    have hld : ∀ {S : Sto} {t : RowB}, listD [rwT t] S = .ok (.ref S.length) (S ++ [rowO t]) := fun {S t} => rfl
    have hll : listF [.frl (ts.map rwT)] S = .ok (.frl (ts.map rwT)) S := rfl
    have hit : ∀ {S : Sto} {a2 a3 a4 a5 a6 a7 : Option D}, iRngD3 (d2 subD (dCall lenD (dCons (dVar 1) dNil)) (dC (.int 1))) (dNeg (dC (.int 1))) (dNeg (dC (.int 1))) [some PP, some (.frl (ts.map rwT)), a2, a3, a4, a5, a6, a7] S = .ok ⟨((List.range ts.length).reverse).map nI, yes⟩ S := fun {S a2 a3 a4 a5 a6 a7} => by
      have e1 : d2 subD (dCall lenD (dCons (dVar 1) dNil)) (dC (.int 1)) [some PP, some (.frl (ts.map rwT)), a2, a3, a4, a5, a6, a7] S = .ok (.int (((ts.length : Nat) : Int) - 1)) S := by
        apply eq_of_wp
        simp only [wq_a, wq_b, wq_c, wq_d, wq_e, wq_f, wq_g, Int.reduceToNat, Int.reduceLE, Int.reduceLT, Int.reduceNeg, startD, List.replicate, Nat.reduceAdd, Nat.reduceSub, Nat.reduceEqDiff, if_true, if_false, Int.reduceEq, Int.reduceAdd, Int.reduceSub, Int.reduceMul, eq_self, List.length_map]
        exact ⟨by first | rfl | trivial, by first | rfl | trivial⟩
      have e2 : ∀ {sd : Sl}, dNeg (dC (.int 1)) sd S = .ok (.int (-1)) S := rfl
      unfold iRngD3
      rw [e1]
      simp only [Res.bind, e2]
      rw [if_pos ⟨rng_okI (by omega) (by omega), rng_okI (by omega) (by omega), trivial⟩, show (((ts.length : Nat) : Int) - 1 - -1).toNat = ts.length by omega, down_rev]
    have hR : ∀ {S : Sto} {x3 : D} {found : List RowB} {a1 a2 a4 a5 a6 a7 : Option D}, lsD x3 S = some (found.map rwT) → found.length ≤ 1000 → dComp [7] (iVal (dVar 3)) (gVar 7) tYesD (dCall listD (dCons (dVar 7) dNil)) [some PP, a1, a2, some x3, a4, a5, a6, a7] S = .ok (.ref S.length) (lay S found) := fun {S x3 found a1 a2 a4 a5 a6 a7} h hl => by
      refine compN ?_ (szn (by omega)) ?_
      · obtain ⟨chk, ei, hch⟩ := rows_ls h []
        rw [List.append_nil] at ei
        simp only [wq_a, wq_b, wq_c, wq_d, wq_e, wq_f, wq_g, Int.reduceToNat, Int.reduceLE, Int.reduceLT, Int.reduceNeg, startD, List.replicate, Nat.reduceAdd, Nat.reduceSub, Nat.reduceEqDiff, if_true, if_false, Int.reduceEq, Int.reduceAdd, Int.reduceSub, Int.reduceMul, eq_self, ei]
        refine ⟨trivial, trivial, fun S' hg => ?_⟩
        obtain ⟨T, rfl⟩ := hg
        exact hch T
      · intro t ht S' hg
        simp only [wq_a, wq_b, wq_c, wq_d, wq_e, wq_f, wq_g, Int.reduceToNat, Int.reduceLE, Int.reduceLT, Int.reduceNeg, startD, List.replicate, Nat.reduceAdd, Nat.reduceSub, Nat.reduceEqDiff, if_true, if_false, Int.reduceEq, Int.reduceAdd, Int.reduceSub, Int.reduceMul, eq_self, wipeD, hld]
        exact ⟨by first | rfl | trivial, by first | rfl | trivial, by first | rfl | trivial⟩
    simp only [wq_a, wq_b, wq_c, wq_d, wq_e, wq_f, wq_g, Int.reduceToNat, Int.reduceLE, Int.reduceLT, Int.reduceNeg, startD, List.replicate, Nat.reduceAdd, Nat.reduceSub, Nat.reduceEqDiff, if_true, if_false, Int.reduceEq, Int.reduceAdd, Int.reduceSub, Int.reduceMul, eq_self, nt, h1, hll, hit]
    refine w_loopP nI (fun pre sd S' => ∃ (x3 : D) (a4 a5 a6 a7 : Option D), lsD x3 S' = some ((pre.foldl (leanS rows (someL ins rows ts)) ts).map rwT) ∧ S' = S ∧ sd = [some PP, some (.frl (ts.map rwT)), some (.frl ((someL ins rows ts).map wrD)), some x3, a4, a5, a6, a7]) ((List.range ts.length).reverse) (fun _ _ _ _ _ _ => rfl) ⟨.frl (ts.map rwT), _, _, _, _, rfl, rfl, rfl⟩ ?_ ?_
    · rintro sd S' ⟨x3, a4, a5, a6, a7, h3, rfl, rfl⟩
      obtain ⟨f1, f2⟩ := lean_ok (ins := ins) (rows := rows) (sm := someL ins rows ts) ((List.range ts.length).reverse) ts hb
      simp only [wq_a, wq_b, wq_c, wq_d, wq_e, wq_f, wq_g, Int.reduceToNat, Int.reduceLE, Int.reduceLT, Int.reduceNeg, startD, List.replicate, Nat.reduceAdd, Nat.reduceSub, Nat.reduceEqDiff, if_true, if_false, Int.reduceEq, Int.reduceAdd, Int.reduceSub, Int.reduceMul, eq_self, hR h3 (by omega)]
      refine ⟨[], ?_, ?_⟩
      · rw [List.append_nil]
      · rw [List.append_nil]
        rfl
    · rintro pre k post sd S' e ⟨x3, a4, a5, a6, a7, h3, rfl, rfl⟩
      obtain ⟨f1, f2⟩ := lean_ok (ins := ins) (rows := rows) (sm := someL ins rows ts) pre ts hb
      rw [List.foldl_append, List.foldl_cons, List.foldl_nil]
      generalize pre.foldl (leanS rows (someL ins rows ts)) ts = found at f1 f2 h3 ⊢
      have hm : ∀ t ∈ found.take k ++ found.drop (k + 1), t.length ≤ 1000 ∧ ∀ b ∈ t, b.length = ins := fun t ht => by
        rcases List.mem_append.mp ht with ht | ht
        · exact f2 t (List.mem_of_mem_take ht)
        · exact f2 t (List.mem_of_mem_drop ht)
      have hl : (found.take k ++ found.drop (k + 1)).length ≤ 1000 := by
        rw [List.length_append, List.length_take, List.length_drop]; omega
      simp only [wq_a, wq_b, wq_c, wq_d, wq_e, wq_f, wq_g, Int.reduceToNat, Int.reduceLE, Int.reduceLT, Int.reduceNeg, startD, List.replicate, Nat.reduceAdd, Nat.reduceSub, Nat.reduceEqDiff, if_true, if_false, Int.reduceEq, Int.reduceAdd, Int.reduceSub, Int.reduceMul, eq_self, nI]
      rw [w_sliceL h3]
      simp only [wq_a, wq_b, wq_c, wq_d, wq_e, wq_f, wq_g, Int.reduceToNat, Int.reduceLE, Int.reduceLT, Int.reduceNeg, startD, List.replicate, Nat.reduceAdd, Nat.reduceSub, Nat.reduceEqDiff, if_true, if_false, Int.reduceEq, Int.reduceAdd, Int.reduceSub, Int.reduceMul, eq_self]
      rw [show (((k : Nat) : Int) + 1) = ((k + 1 : Nat) : Int) by omega, w_sliceL h3]
      simp only [wq_a, wq_b, wq_c, wq_d, wq_e, wq_f, wq_g, Int.reduceToNat, Int.reduceLE, Int.reduceLT, Int.reduceNeg, startD, List.replicate, Nat.reduceAdd, Nat.reduceSub, Nat.reduceEqDiff, if_true, if_false, Int.reduceEq, Int.reduceAdd, Int.reduceSub, Int.reduceMul, eq_self]
      have ec := cut_two rwT found k
      rw [zm (by rw [← List.length_append, ec, List.length_map]; exact szn (by omega))]
      rw [ec]
      simp only [wq_a, wq_b, wq_c, wq_d, wq_e, wq_f, wq_g, Int.reduceToNat, Int.reduceLE, Int.reduceLT, Int.reduceNeg, startD, List.replicate, Nat.reduceAdd, Nat.reduceSub, Nat.reduceEqDiff, if_true, if_false, Int.reduceEq, Int.reduceAdd, Int.reduceSub, Int.reduceMul, eq_self, h2 hm hl]
      rw [w_eqNil (n := 1) fun a _ => wrD_gd a]
      unfold leanS
      rw [show ((someL ins rows ts).all fun a => !(!fnd rows (found.take k ++ found.drop (k + 1)) a)) = goodL rows (someL ins rows ts) (found.take k ++ found.drop (k + 1)) from rfl]
      cases goodL rows (someL ins rows ts) (found.take k ++ found.drop (k + 1)) with
      | true =>
        simp only [wq_a, wq_b, wq_c, wq_d, wq_e, wq_f, wq_g, Int.reduceToNat, Int.reduceLE, Int.reduceLT, Int.reduceNeg, startD, List.replicate, Nat.reduceAdd, Nat.reduceSub, Nat.reduceEqDiff, if_true, if_false, Int.reduceEq, Int.reduceAdd, Int.reduceSub, Int.reduceMul, eq_self]
        exact ⟨_, _, _, _, _, rfl, by first | rfl | trivial, rfl⟩
      | false =>
        simp only [wq_a, wq_b, wq_c, wq_d, wq_e, wq_f, wq_g, Int.reduceToNat, Int.reduceLE, Int.reduceLT, Int.reduceNeg, startD, List.replicate, Nat.reduceAdd, Nat.reduceSub, Nat.reduceEqDiff, if_true, if_false, Int.reduceEq, Int.reduceAdd, Int.reduceSub, Int.reduceMul, eq_self]
        exact ⟨x3, _, _, _, _, h3, by first | rfl | trivial, rfl⟩
  obtain ⟨d, S', e, G, rfl, rfl⟩ := Wp.ok main
  unfold Fr_lean cutF
  rw [e]
  exact cut_layG

end Lw

namespace Lw
open PySem PySem.Spec PyProof.Rows L2 DL
noncomputable def tC : Sl → Sto → Res Fl :=
  (sFor (iRngD1 (dC (.int 2))) (gVar 10) (sSeq (sAsg (dCallF 1 Fr_checks (dCons (dVar 3) dNil)) (gVar 14))
  (sSeq (sIf (tNotD (tstB (dCallF 2 (F__law_same 40) (dCons (dVar 14) (dCons (dVar 5) dNil))))) (sRet (dC (.bl false))) sNext)
  (sExpr (dBm "list" appendD (d2 ixD (dVar 14) (dC (.int 0))) (dCons (dC (.str "")) dNil))))))
noncomputable def tA : Sl → Sto → Res Fl :=
  (sFor (iVal (dVar 14)) (gVar 12) (sExpr (dBm "list" appendD (dVar 12) (dCons (dC (.str "")) dNil))))
noncomputable def tB : Sl → Sto → Res Fl :=
  (sSeq (sAsg (dCallF 2 Fr_lean (dCons (dVar 3) (dCons (dVar 13) dNil))) (gVar 14))
  (sSeq (sIf (tOrD (tNotD (tstB (dCallF 2 (F__law_same 40) (dCons (dVar 14) (dCons (dCallF 3 F__law_lean (dCons (dVar 3) (dCons (dVar 9) (dCons (dVar 6) dNil)))) dNil))))) (d2T neD (dVar 13) (dVar 9))) (sRet (dC (.bl false))) sNext)
  tA))
noncomputable def tI : Sl → Sto → Res Fl :=
  (sSeq (sAsg (dFrz (dComp [12] (iVal (dVar 9)) (gVar 12) tYesD (dCall listF (dCons (dVar 12) dNil)))) (gVar 13))
  (sFor (iRngD1 (dC (.int 2))) (gVar 10) tB))
noncomputable def tL : Sl → Sto → Res Fl :=
  (sFor (iVal (dLstF (dCons (dVar 5) (dCons (dVar 7) dNil)))) (gVar 9) tI)
noncomputable def tR : Sl → Sto → Res Fl :=
  (sFor (iRngD1 (dCallF 2 F__law_drawn (dCons (dVar 1) (dCons (dC (.int 9)) dNil)))) (gVar 8) (sExpr (dBm "list" appendD (dVar 7) (dCons (dFrz (dComp [15] (iRngD1 (dCallF 2 F__law_drawn (dCons (dVar 1) (dCons (dC (.int 9)) dNil)))) (gVar 15) tYesD (dCallF 2 F__law_beat (dCons (dVar 1) (dCons (d2 ixD (dVar 3) (dC (.int 0))) dNil))))) dNil))))
noncomputable def tD : Sl → Sto → Res Fl :=
  (sFor (iVal (dVar 4)) (gTupD 2 (gsCons (gVar 11) (gsCons (gVar 12) gsNil))) (sIf (tNotD (tstB (dCallF 3 F__law_finds (dCons (dVar 3) (dCons (dVar 5) (dCons (dVar 11) dNil)))))) (sExpr (dBm "list" appendD (dVar 5) (dCons (dVar 12) dNil))) sNext))
theorem eqb_law : b_law =
  (sSeq (sAsg (dCallF 1 Fr__law_start (dCons (dFrz (dVar 0)) dNil)) (gVar 1))
  (sSeq (sFor (iVal (d2 ixD (dLstF (dCons (dLstF (dCons (dC (.int 0)) (dCons (dC (.int 2)) dNil))) (dCons (dLstF (dCons (dC (.int 1)) (dCons (dC (.int 2)) dNil))) (dCons (dLstF (dCons (dC (.int 2)) dNil)) dNil)))) (dCallF 2 F__law_drawn (dCons (dVar 1) (dCons (dC (.int 3)) dNil))))) (gVar 2) (sSeq (sAsg (dCallF 3 F__law_plain (dCons (dVar 1) (dCons (d2 ixD (dLstF (dCons (dC (.int 3)) (dCons (dC (.int 2)) (dCons (d2 ixD (dLstF (dCons (dC (.int 4)) (dCons (dC (.int 5)) dNil))) (dCallF 2 F__law_drawn (dCons (dVar 1) (dCons (dC (.int 2)) dNil)))) dNil)))) (dVar 2)) (dCons (d2 ixD (dLstF (dCons (dC (.int 2)) (dCons (dC (.int 3)) (dCons (dC (.int 1)) dNil)))) (dVar 2)) dNil)))) (gVar 3))
  (sSeq (sAsg (dCallF 1 F__law_wrong (dCons (dVar 3) dNil)) (gVar 4))
  (sSeq (sAsg (dLst dNil) (gVar 5))
  (sSeq tD
  (sSeq (sAsg (dFrz (dComp [11, 12] (iVal (dVar 4)) (gTupD 2 (gsCons (gVar 11) (gsCons (gVar 12) gsNil))) tYesD (dVar 11))) (gVar 6))
  (sSeq (sAsg (dLst dNil) (gVar 7))
  (sSeq tR
  (sSeq tL
  tC)))))))))
  (sRet (dC (.bl true))))) := rfl
theorem At.set {l r : Nat} {S : Sto} {o : DO} (h : At l S) (n : r ≠ l) : At l (S.set r o) := by
  obtain ⟨x, e, hs⟩ := h
  exact ⟨x, by rw [List.getElem?_set_ne n]; exact e, hs⟩
theorem ne_ref {k : Nat} {ts : List (List (List Bool))} {S : Sto} {Q : D → Sto → Prop} {X : Exc → Sto → Prop} (h : S[k]? = some (.lst (ts.map rwT))) : Wp (neD (.frl (ts.map rwT)) (.ref k) S) Q X = Q (.bl false) S := by
  have g : GD 2 (D.frl (ts.map rwT)) := gd_frl (gd_map fun t _ => rwT_gd t)
  have e : toP S 60 (.ref k) = toP S 60 (.frl (ts.map rwT)) := by
    simp only [toP, h]
  have e2 : neD (.frl (ts.map rwT)) (.ref k) S = neD (.frl (ts.map rwT)) (.frl (ts.map rwT)) S := by
    simp only [neD, sameD, e]
  rw [e2, w_neG g g, decide_eq_true rfl]
  rfl

theorem zs_ix : ∀ (b : Nat) (ts : List RowB) (pre : List (Nat × RowB)) (z : Nat × RowB) (post : List (Nat × RowB)), zsOf b ts = pre ++ z :: post → z.1 = b + pre.length ∧ ts[pre.length]? = some z.2
  | _, [], pre, z, post, h => by cases pre <;> cases h
  | b, t :: ts, [], z, post, h => by
    rw [zsOf, List.nil_append, List.cons.injEq] at h
    rw [← h.1]
    exact ⟨rfl, rfl⟩
  | b, t :: ts, p :: pre, z, post, h => by
    rw [zsOf, List.cons_append, List.cons.injEq] at h
    obtain ⟨h1, h2⟩ := zs_ix (b + 1) ts pre z post h.2
    rw [List.length_cons]
    exact ⟨by omega, by rw [List.getElem?_cons_succ]; exact h2⟩
theorem sm_rows {S : Sto} {x : Nat} {y : D} {ts : List RowB} {b : Nat} (hx : RR S x (zsOf b ts)) (hy : lsD y S = some (ts.map rwT)) (hb : ∀ t ∈ ts, t.length ≤ 1000) (hl : ts.length ≤ 1000) : Sm S 2 (.ref x) y := by
  refine .lst (xs := (zsOf b ts).map zRef) (ys := ts.map rwT) ?_ hy (by rw [List.length_map, zs_len]; omega) (by rw [List.length_map, List.length_map, zs_len]) fun i u v hu hv => ?_
  · show (match S[x]? with | some (.lst ds) => some ds | _ => none) = _
    rw [hx.1]
  · rw [List.getElem?_map] at hu hv
    cases e1 : (zsOf b ts)[i]? with
    | none => rw [e1] at hu; cases hu
    | some z =>
      rw [e1] at hu
      cases hu
      have e2 : ts[i]? = some z.2 := by
        rw [← zs_snd b ts, List.getElem?_map, e1]
        rfl
      rw [e2] at hv
      cases hv
      have hz := hx.2 z (List.mem_of_getElem? e1)
      refine .lst (xs := z.2.map sW) (ys := z.2.map sW) ?_ rfl ?_ rfl fun j p q hp hq => ?_
      · show (match S[z.1]? with | some (.lst ds) => some ds | _ => none) = _
        rw [hz]
      · rw [List.length_map]
        have := hb z.2 (List.mem_of_getElem? e2)
        omega
      · rw [hp] at hq
        cases hq
        obtain ⟨w, _, rfl⟩ := List.mem_map.mp (List.mem_of_getElem? hp)
        exact .str (strOk_W (wB_ok _))
theorem tA_ok {k : Nat} {ts : List RowB} {b0 b1 b2 b3 b4 b5 b6 b7 b8 b9 b10 b11 b12 b13 b15 : Option D} {S0 : Sto} (hb : ∀ t ∈ ts, t.length ≤ 1000) (hk : S0.length = k) :
    Wp (tA [b0, b1, b2, b3, b4, b5, b6, b7, b8, b9, b10, b11, b12, b13, some (.ref k), b15] (lay S0 ts))
      (fun fl S' => Grow S0 S' ∧ ∃ c12, fl = .nx [b0, b1, b2, b3, b4, b5, b6, b7, b8, b9, b10, b11, c12, b13, some (.ref k), b15]) NX := by
  subst hk
  unfold tA
  obtain ⟨chk, ei, hch⟩ := ref_items (lay_rr (S := S0) (acc := ts)).1
  simp only [wq_a, wq_b, wq_c, wq_d, wq_e, wq_f, wq_g, Int.reduceToNat, Int.reduceLE, Int.reduceLT, Int.reduceNeg, startD, List.replicate, Nat.reduceAdd, Nat.reduceSub, Nat.reduceEqDiff, if_true, if_false, Int.reduceEq, Int.reduceAdd, Int.reduceSub, Int.reduceMul, eq_self, ei]
  have hc : ∀ S' : Sto, (∃ T : Sto, S' = S0 ++ .lst ((zsOf (S0.length + 1) ts).map zRef) :: T) → chk S' = true := fun S' h => by
    obtain ⟨T, rfl⟩ := h
    exact hch _ (get_mid rfl)
  refine w_loopP zRef (fun pre sd S' => ∃ (c12 : Option D) (T : Sto), (∀ j, pre.length ≤ j → T[j]? = (ts.map rowO)[j]?) ∧ S' = S0 ++ .lst ((zsOf (S0.length + 1) ts).map zRef) :: T ∧ sd = [b0, b1, b2, b3, b4, b5, b6, b7, b8, b9, b10, b11, c12, b13, some (.ref S0.length), b15]) (zsOf (S0.length + 1) ts) (fun _ _ _ _ _ z => by obtain ⟨_, T, _, e, _⟩ := z; exact hc _ ⟨T, e⟩) ⟨_, ts.map rowO, fun _ _ => rfl, rfl, rfl⟩ ?_ ?_
  · rintro sd S' ⟨c12, T, _, rfl, rfl⟩
    exact ⟨⟨_, rfl⟩, _, rfl⟩
  · rintro pre z post sd S' e ⟨c12, T, hT, rfl, rfl⟩
    obtain ⟨e1, e2⟩ := zs_ix _ _ _ _ _ e
    have hz : T[pre.length]? = some (.lst (z.2.map sW)) := by rw [hT _ (Nat.le_refl _), List.getElem?_map, e2]; rfl
    have hg : (S0 ++ DO.lst ((zsOf (S0.length + 1) ts).map zRef) :: T)[z.1]? = some (.lst (z.2.map sW)) := by
      rw [e1, List.getElem?_append_right (by omega), show S0.length + 1 + pre.length - S0.length = pre.length + 1 by omega, List.getElem?_cons_succ]
      exact hz
    have hs : ∀ d : DO, (S0 ++ DO.lst ((zsOf (S0.length + 1) ts).map zRef) :: T).set z.1 d = S0 ++ DO.lst ((zsOf (S0.length + 1) ts).map zRef) :: T.set pre.length d := fun d => by
      rw [e1, List.set_append_right _ _ (by omega), show S0.length + 1 + pre.length - S0.length = pre.length + 1 by omega, List.set_cons_succ]
    have hzl := hb z.2 (List.mem_of_getElem? e2)
    simp only [wq_a, wq_b, wq_c, wq_d, wq_e, wq_f, wq_g, Int.reduceToNat, Int.reduceLE, Int.reduceLT, Int.reduceNeg, startD, List.replicate, Nat.reduceAdd, Nat.reduceSub, Nat.reduceEqDiff, if_true, if_false, Int.reduceEq, Int.reduceAdd, Int.reduceSub, Int.reduceMul, eq_self, zRef]
    rw [zm (isTy_lst hg)]
    simp only [wq_a, wq_b, wq_c, wq_d, wq_e, wq_f, wq_g, Int.reduceToNat, Int.reduceLE, Int.reduceLT, Int.reduceNeg, startD, List.replicate, Nat.reduceAdd, Nat.reduceSub, Nat.reduceEqDiff, if_true, if_false, Int.reduceEq, Int.reduceAdd, Int.reduceSub, Int.reduceMul, eq_self]
    rw [w_appL hg (by rw [sizeLine_eq, List.length_map]; omega), hs]
    refine ⟨_, _, fun j hj => ?_, rfl, rfl⟩
    rw [List.length_append, List.length_singleton] at hj
    rw [List.getElem?_set_ne (by omega)]
    exact hT j (by omega)
theorem tB_ok {j ins outs : Nat} {rows : List (List En)} {ts : List RowB} {b0 b1 b2 b4 b5 b7 b8 b10 b11 b12 b14 b15 : Option D} {S : Sto} (P : PM ins outs rows) (hn : rows.length ≤ 6) (hb : ∀ t ∈ ts, t.length ≤ 1000 ∧ ∀ b ∈ t, b.length = ins) (hz : ts.length ≤ 200) (hj : S[j]? = some (.lst (ts.map rwT))) :
    Wp (tB [b0, b1, b2, some (plD ins outs rows), b4, b5, some (.frl ((allW ins rows).map (wrL ins))), b7, b8, some (.ref j), b10, b11, b12, some (.frl (ts.map rwT)), b14, b15] S)
      (fun fl S' => Grow S S' ∧ ∃ c12 c14, fl = .nx [b0, b1, b2, some (plD ins outs rows), b4, b5, some (.frl ((allW ins rows).map (wrL ins))), b7, b8, some (.ref j), b10, b11, c12, some (.frl (ts.map rwT)), c14, b15]) NX := by
  obtain ⟨G, hle⟩ := lean_prog (S := S) P hn hb hz
  have hgr : Grow S (lay (S ++ G) (leanL ins rows ts)) := by
    unfold lay
    rw [List.append_assoc]
    exact ⟨_, rfl⟩
  have hj2 := hgr.get hj
  have hl2 : lsD (.ref j) (lay (S ++ G) (leanL ins rows ts)) = some (ts.map rwT) := by
    show (match (lay (S ++ G) (leanL ins rows ts))[j]? with | some (.lst ds) => some ds | _ => none) = _
    rw [hj2]
  have hll := law_lean_ok P (by omega) hl2 hb (by omega)
  obtain ⟨f1, f2⟩ := lean_ok (ins := ins) (rows := rows) (sm := someL ins rows ts) ((List.range ts.length).reverse) ts hb
  have sm : F__law_same 40 [.ref (S ++ G).length, .frl ((leanL ins rows ts).map rwT)] (lay (S ++ G) (leanL ins rows ts)) = .ok (.bl true) (lay (S ++ G) (leanL ins rows ts)) := same2_ok 2 37 (sm_rows lay_rr rfl (fun t ht => (f2 t ht).1) (by unfold leanL; omega))
  have f3 : ∀ t ∈ leanL ins rows ts, t.length ≤ 1000 := fun t ht => (f2 t ht).1
  unfold tB
  generalize plD ins outs rows = PP at hle hll ⊢
  generalize (D.frl ((allW ins rows).map (wrL ins))) = EV at hll ⊢
  simp only [wq_a, wq_b, wq_c, wq_d, wq_e, wq_f, wq_g, Int.reduceToNat, Int.reduceLE, Int.reduceLT, Int.reduceNeg, startD, List.replicate, Nat.reduceAdd, Nat.reduceSub, Nat.reduceEqDiff, if_true, if_false, Int.reduceEq, Int.reduceAdd, Int.reduceSub, Int.reduceMul, eq_self, hle, hll, sm, ne_ref hj2]
  refine Wp.mono (tA_ok f3 rfl) ?_ (fun _ _ z => z)
  rintro _ S' ⟨hg, c12, rfl⟩
  refine ⟨Grow.trans ⟨G, rfl⟩ hg, _, _, rfl⟩
theorem tI_ok {j ins outs : Nat} {rows : List (List En)} {ts : List RowB} {b0 b1 b2 b4 b5 b7 b8 b10 b11 b12 b13 b14 b15 : Option D} {S : Sto} (P : PM ins outs rows) (hn : rows.length ≤ 6) (hb : ∀ t ∈ ts, t.length ≤ 1000 ∧ ∀ b ∈ t, b.length = ins) (hz : ts.length ≤ 200) (hj : S[j]? = some (.lst (ts.map rwT))) :
    Wp (tI [b0, b1, b2, some (plD ins outs rows), b4, b5, some (.frl ((allW ins rows).map (wrL ins))), b7, b8, some (.ref j), b10, b11, b12, b13, b14, b15] S)
      (fun fl S' => Grow S S' ∧ ∃ c10 c12 c13 c14, fl = .nx [b0, b1, b2, some (plD ins outs rows), b4, b5, some (.frl ((allW ins rows).map (wrL ins))), b7, b8, some (.ref j), c10, b11, c12, c13, c14, b15]) NX := by
  have tb := fun (S' : Sto) (b10 b12 b14 : Option D) (hg : Grow S S') => tB_ok (b0 := b0) (b1 := b1) (b2 := b2) (b4 := b4) (b5 := b5) (b7 := b7) (b8 := b8) (b10 := b10) (b11 := b11) (b12 := b12) (b14 := b14) (b15 := b15) (S := S') P hn hb hz (hg.get hj)
  unfold tI
  generalize plD ins outs rows = PP at tb ⊢
  generalize (D.frl ((allW ins rows).map (wrL ins))) = EV at tb ⊢
  have hand : dFrz (dComp [12] (iVal (dVar 9)) (gVar 12) tYesD (dCall listF (dCons (dVar 12) dNil))) [b0, b1, b2, some PP, b4, b5, some EV, b7, b8, some (.ref j), b10, b11, b12, b13, b14, b15] S = .ok (.frl (ts.map rwT)) S := by
    have := compF (sd := [b0, b1, b2, some PP, b4, b5, some EV, b7, b8, some (.ref j), b10, b11, b12, b13, b14, b15]) (S := S) (vs := [12]) (fi := iVal (dVar 9)) (ga := gVar 12) (ft := tYesD) (fe := dCall listF (dCons (dVar 12) dNil)) ts rwT (fun _ => true) rwT ?_ (Nat.le_trans (List.length_filter_le _ _) (szn (by omega))) ?_ ?_
    · rw [this, List.filter_eq_self.mpr fun _ _ => rfl]
    · obtain ⟨chk, ei, hch⟩ := rows_ref hj []
      rw [List.append_nil] at ei
      simp only [wq_a, wq_b, wq_c, wq_d, wq_e, wq_f, wq_g, Int.reduceToNat, Int.reduceLE, Int.reduceLT, Int.reduceNeg, startD, List.replicate, Nat.reduceAdd, Nat.reduceSub, Nat.reduceEqDiff, if_true, if_false, Int.reduceEq, Int.reduceAdd, Int.reduceSub, Int.reduceMul, eq_self, ei]
      refine ⟨by first | rfl | trivial, by first | rfl | trivial, fun S' hg => ?_⟩
      obtain ⟨T, rfl⟩ := hg
      exact hch T
    · intro t ht S' _
      have lf : ∀ S' : Sto, listF [rwT t] S' = .ok (rwT t) S' := fun S' => rfl
      simp only [wq_a, wq_b, wq_c, wq_d, wq_e, wq_f, wq_g, Int.reduceToNat, Int.reduceLE, Int.reduceLT, Int.reduceNeg, startD, List.replicate, Nat.reduceAdd, Nat.reduceSub, Nat.reduceEqDiff, if_true, if_false, Int.reduceEq, Int.reduceAdd, Int.reduceSub, Int.reduceMul, eq_self, wipeD, lf]
      exact ⟨by first | rfl | trivial, by first | rfl | trivial, by first | rfl | trivial, fun _ => ⟨by first | rfl | trivial, by first | rfl | trivial⟩⟩
    · intro t _ _
      exact sWs_blw
  simp only [wq_a, wq_b, wq_c, wq_d, wq_e, wq_f, wq_g, Int.reduceToNat, Int.reduceLE, Int.reduceLT, Int.reduceNeg, startD, List.replicate, Nat.reduceAdd, Nat.reduceSub, Nat.reduceEqDiff, if_true, if_false, Int.reduceEq, Int.reduceAdd, Int.reduceSub, Int.reduceMul, eq_self, hand]
  rw [zm (rng_okI (by decide) (by decide))]
  simp only [wq_a, wq_b, wq_c, wq_d, wq_e, wq_f, wq_g, Int.reduceToNat, Int.reduceLE, Int.reduceLT, Int.reduceNeg, startD, List.replicate, Nat.reduceAdd, Nat.reduceSub, Nat.reduceEqDiff, if_true, if_false, Int.reduceEq, Int.reduceAdd, Int.reduceSub, Int.reduceMul, eq_self]
  refine w_rangeP (fun _ sd S' => Grow S S' ∧ ∃ c10 c12 c14, sd = [b0, b1, b2, some PP, b4, b5, some EV, b7, b8, some (.ref j), c10, b11, c12, some (.frl (ts.map rwT)), c14, b15]) 0 2 (fun _ _ _ _ _ => rfl) ⟨Grow.refl _, _, _, _, rfl⟩ ?_ ?_
  · rintro sd S' ⟨hg, c10, c12, c14, rfl⟩
    exact ⟨hg, _, _, _, _, rfl⟩
  · rintro i sd S' _ ⟨hg, c10, c12, c14, rfl⟩
    simp only [wq_a, wq_b, wq_c, wq_d, wq_e, wq_f, wq_g, Int.reduceToNat, Int.reduceLE, Int.reduceLT, Int.reduceNeg, startD, List.replicate, Nat.reduceAdd, Nat.reduceSub, Nat.reduceEqDiff, if_true, if_false, Int.reduceEq, Int.reduceAdd, Int.reduceSub, Int.reduceMul, eq_self]
    refine Wp.mono (tb S' _ c12 c14 hg) ?_ (fun _ _ z => z)
    rintro _ S2 ⟨hg2, d12, d14, rfl⟩
    exact ⟨hg.trans hg2, _, _, _, rfl⟩
theorem tL_ok {k5 k7 ins outs : Nat} {rows : List (List En)} {t5 t7 : List RowB} {b0 b1 b2 b4 b8 b9 b10 b11 b12 b13 b14 b15 : Option D} {S : Sto} (P : PM ins outs rows) (hn : rows.length ≤ 6) (hb5 : ∀ t ∈ t5, t.length ≤ 1000 ∧ ∀ b ∈ t, b.length = ins) (hz5 : t5.length ≤ 200) (hb7 : ∀ t ∈ t7, t.length ≤ 1000 ∧ ∀ b ∈ t, b.length = ins) (hz7 : t7.length ≤ 200) (h5 : S[k5]? = some (.lst (t5.map rwT))) (h7 : S[k7]? = some (.lst (t7.map rwT))) :
    Wp (tL [b0, b1, b2, some (plD ins outs rows), b4, some (.ref k5), some (.frl ((allW ins rows).map (wrL ins))), some (.ref k7), b8, b9, b10, b11, b12, b13, b14, b15] S)
      (fun fl S' => Grow S S' ∧ ∃ c9 c10 c12 c13 c14, fl = .nx [b0, b1, b2, some (plD ins outs rows), b4, some (.ref k5), some (.frl ((allW ins rows).map (wrL ins))), some (.ref k7), b8, c9, c10, b11, c12, c13, c14, b15]) NX := by
  have i5 := fun (S : Sto) (b10 b12 b13 b14 : Option D) (h : S[k5]? = some (.lst (t5.map rwT))) => tI_ok (b0 := b0) (b1 := b1) (b2 := b2) (b4 := b4) (b5 := some (.ref k5)) (b7 := some (.ref k7)) (b8 := b8) (b10 := b10) (b11 := b11) (b12 := b12) (b13 := b13) (b14 := b14) (b15 := b15) P hn hb5 hz5 h
  have i7 := fun (S : Sto) (b10 b12 b13 b14 : Option D) (h : S[k7]? = some (.lst (t7.map rwT))) => tI_ok (b0 := b0) (b1 := b1) (b2 := b2) (b4 := b4) (b5 := some (.ref k5)) (b7 := some (.ref k7)) (b8 := b8) (b10 := b10) (b11 := b11) (b12 := b12) (b13 := b13) (b14 := b14) (b15 := b15) P hn hb7 hz7 h
  unfold tL
  generalize plD ins outs rows = PP at i5 i7 ⊢
  generalize (D.frl ((allW ins rows).map (wrL ins))) = EV at i5 i7 ⊢
  simp only [wq_a, wq_b, wq_c, wq_d, wq_e, wq_f, wq_g, Int.reduceToNat, Int.reduceLE, Int.reduceLT, Int.reduceNeg, startD, List.replicate, Nat.reduceAdd, Nat.reduceSub, Nat.reduceEqDiff, if_true, if_false, Int.reduceEq, Int.reduceAdd, Int.reduceSub, Int.reduceMul, eq_self, itemsD]
  refine w_loopP (fun i : Bool => D.ref (if i then k5 else k7)) (fun _ sd S' => Grow S S' ∧ ∃ c9 c10 c12 c13 c14, sd = [b0, b1, b2, some PP, b4, some (.ref k5), some EV, some (.ref k7), b8, c9, c10, b11, c12, c13, c14, b15]) [true, false] (fun _ _ _ _ _ _ => rfl) ⟨Grow.refl _, _, _, _, _, _, rfl⟩ ?_ ?_
  · rintro sd S' ⟨hg, c9, c10, c12, c13, c14, rfl⟩
    exact ⟨hg, _, _, _, _, _, rfl⟩
  · rintro pre i post sd S' e ⟨hg, c9, c10, c12, c13, c14, rfl⟩
    cases i with
    | true =>
      simp only [wq_a, wq_b, wq_c, wq_d, wq_e, wq_f, wq_g, Int.reduceToNat, Int.reduceLE, Int.reduceLT, Int.reduceNeg, startD, List.replicate, Nat.reduceAdd, Nat.reduceSub, Nat.reduceEqDiff, if_true, if_false, Int.reduceEq, Int.reduceAdd, Int.reduceSub, Int.reduceMul, eq_self, if_true]
      refine Wp.mono (i5 S' c10 c12 c13 c14 (hg.get h5)) ?_ (fun _ _ z => z)
      rintro _ S2 ⟨hg2, d10, d12, d13, d14, rfl⟩
      exact ⟨hg.trans hg2, _, _, _, _, _, rfl⟩
    | false =>
      simp only [wq_a, wq_b, wq_c, wq_d, wq_e, wq_f, wq_g, Int.reduceToNat, Int.reduceLE, Int.reduceLT, Int.reduceNeg, startD, List.replicate, Nat.reduceAdd, Nat.reduceSub, Nat.reduceEqDiff, if_true, if_false, Int.reduceEq, Int.reduceAdd, Int.reduceSub, Int.reduceMul, eq_self, Bool.false_eq_true, if_false]
      refine Wp.mono (i7 S' c10 c12 c13 c14 (hg.get h7)) ?_ (fun _ _ z => z)
      rintro _ S2 ⟨hg2, d10, d12, d13, d14, rfl⟩
      exact ⟨hg.trans hg2, _, _, _, _, _, rfl⟩

end Lw

namespace Lw
open PySem PySem.Spec PyProof.Rows L2 DL
theorem rows_drawn {l k k5 ins outs : Nat} {o5 : DO} {rows : List (List En)} {x0 a2 a4 a5 a6 a8 a9 a10 a11 a12 a13 a14 a15 : Option D} {S : Sto} (P : PM ins outs rows) (hat : At l S) (hk : S[k]? = some (.lst [])) (hkl : k ≠ l) (h5 : S[k5]? = some o5) (h5l : k5 ≠ l) (h5k : k5 ≠ k) :
    Wp (tR [x0, some (.ref l), a2, some (plD ins outs rows), a4, a5, a6, some (.ref k), a8, a9, a10, a11, a12, a13, a14, a15] S)
      (fun fl S' => ∃ (ts : List (List (List Bool))) (c8 : Option D), (∀ t ∈ ts, t.length ≤ 1000 ∧ ∀ b ∈ t, b.length = ins) ∧ ts.length ≤ 200 ∧ At l S' ∧ S'[k]? = some (.lst (ts.map rwT)) ∧ S'[k5]? = some o5 ∧ fl = .nx [x0, some (.ref l), a2, some (plD ins outs rows), a4, a5, a6, some (.ref k), c8, a9, a10, a11, a12, a13, a14, a15]) NX := by
  have i4 := P.i4
  unfold tR
  have x0' : ∀ {S : Sto}, Wp (ixD (plD ins outs rows) (.int 0) S) = Wp (.ok (.int ((ins : Nat) : Int)) S) := rfl
  generalize plD ins outs rows = PP at x0' ⊢
  simp only [wq_a, wq_b, wq_c, wq_d, wq_e, wq_f, wq_g, Int.reduceToNat, Int.reduceLE, Int.reduceLT, Int.reduceNeg, startD, List.replicate, Nat.reduceAdd, Nat.reduceSub, Nat.reduceEqDiff, if_true, if_false, Int.reduceEq, Int.reduceAdd, Int.reduceSub, Int.reduceMul, eq_self]
  refine (draw hat (many := 9)).w ?_
  rintro _ S2 d2 ⟨v, rfl, v0, v1⟩
  have hk2 : S2[k]? = some (.lst []) := by rw [d2.get hkl]; exact hk
  have h52 : S2[k5]? = some o5 := by rw [d2.get h5l]; exact h5
  simp only [wq_a, wq_b, wq_c, wq_d, wq_e, wq_f, wq_g, Int.reduceToNat, Int.reduceLE, Int.reduceLT, Int.reduceNeg, startD, List.replicate, Nat.reduceAdd, Nat.reduceSub, Nat.reduceEqDiff, if_true, if_false, Int.reduceEq, Int.reduceAdd, Int.reduceSub, Int.reduceMul, eq_self]
  rw [zm (rng_okI (by omega) (by omega))]
  simp only [wq_a, wq_b, wq_c, wq_d, wq_e, wq_f, wq_g, Int.reduceToNat, Int.reduceLE, Int.reduceLT, Int.reduceNeg, startD, List.replicate, Nat.reduceAdd, Nat.reduceSub, Nat.reduceEqDiff, if_true, if_false, Int.reduceEq, Int.reduceAdd, Int.reduceSub, Int.reduceMul, eq_self]
  refine w_rangeP (fun n sd S' => ∃ (ts : List (List (List Bool))) (c8 : Option D), (∀ t ∈ ts, t.length ≤ 1000 ∧ ∀ b ∈ t, b.length = ins) ∧ ts.length = n ∧ At l S' ∧ S'[k]? = some (.lst (ts.map rwT)) ∧ S'[k5]? = some o5 ∧ sd = [x0, some (.ref l), a2, some PP, a4, a5, a6, some (.ref k), c8, a9, a10, a11, a12, a13, a14, a15]) 0 v.toNat (fun _ _ _ _ _ => rfl) ⟨[], _, (fun t ht => by cases ht), rfl, d2.at, hk2, h52, rfl⟩ ?_ ?_
  · rintro sd S' ⟨ts, c8, h1, h2, h3, h4, h6, rfl⟩
    exact ⟨ts, _, h1, by omega, h3, h4, h6, rfl⟩
  · rintro n sd S' hn ⟨ts, c8, h1, h2, h3, h4, h60, rfl⟩
    simp only [wq_a, wq_b, wq_c, wq_d, wq_e, wq_f, wq_g, Int.reduceToNat, Int.reduceLE, Int.reduceLT, Int.reduceNeg, startD, List.replicate, Nat.reduceAdd, Nat.reduceSub, Nat.reduceEqDiff, if_true, if_false, Int.reduceEq, Int.reduceAdd, Int.reduceSub, Int.reduceMul, eq_self]
    rw [zm (isTy_lst h4)]
    simp only [wq_a, wq_b, wq_c, wq_d, wq_e, wq_f, wq_g, Int.reduceToNat, Int.reduceLE, Int.reduceLT, Int.reduceNeg, startD, List.replicate, Nat.reduceAdd, Nat.reduceSub, Nat.reduceEqDiff, if_true, if_false, Int.reduceEq, Int.reduceAdd, Int.reduceSub, Int.reduceMul, eq_self]
    refine compG (fun _ y => ∃ b : { b : List Bool // b.length = ins }, y = sW b.val) h3.lt ?_
    simp only [wq_a, wq_b, wq_c, wq_d, wq_e, wq_f, wq_g, Int.reduceToNat, Int.reduceLE, Int.reduceLT, Int.reduceNeg, startD, List.replicate, Nat.reduceAdd, Nat.reduceSub, Nat.reduceEqDiff, if_true, if_false, Int.reduceEq, Int.reduceAdd, Int.reduceSub, Int.reduceMul, eq_self]
    refine (draw h3 (many := 9)).w ?_
    rintro _ S4 d4 ⟨w, rfl, w0, w1⟩
    simp only [wq_a, wq_b, wq_c, wq_d, wq_e, wq_f, wq_g, Int.reduceToNat, Int.reduceLE, Int.reduceLT, Int.reduceNeg, startD, List.replicate, Nat.reduceAdd, Nat.reduceSub, Nat.reduceEqDiff, if_true, if_false, Int.reduceEq, Int.reduceAdd, Int.reduceSub, Int.reduceMul, eq_self]
    rw [zm (rng_okI (by omega) (by omega))]
    simp only [wq_a, wq_b, wq_c, wq_d, wq_e, wq_f, wq_g, Int.reduceToNat, Int.reduceLE, Int.reduceLT, Int.reduceNeg, startD, List.replicate, Nat.reduceAdd, Nat.reduceSub, Nat.reduceEqDiff, if_true, if_false, Int.reduceEq, Int.reduceAdd, Int.reduceSub, Int.reduceMul, eq_self]
    refine ⟨d4, szn (by rw [rangeL_len]; omega), fun _ => rfl, fun x hx S' T hd => ?_, ?_, ?_⟩
    · simp only [wq_a, wq_b, wq_c, wq_d, wq_e, wq_f, wq_g, Int.reduceToNat, Int.reduceLE, Int.reduceLT, Int.reduceNeg, startD, List.replicate, Nat.reduceAdd, Nat.reduceSub, Nat.reduceEqDiff, if_true, if_false, Int.reduceEq, Int.reduceAdd, Int.reduceSub, Int.reduceMul, eq_self, wipeD, x0']
      refine ⟨trivial, trivial, trivial, ?_⟩
      refine (beat_ok (hd.at.app T) (outs := ((ins : Nat) : Int)) (by omega) (by omega)).wT hd.at.lt ?_
      rintro _ S6 d6 ⟨b, rfl, hb⟩
      exact ⟨S6, rfl, d6, ⟨b, by omega⟩, rfl⟩
    · rintro x _ y ⟨b, rfl⟩
      rfl
    intro ys S6 d6 f
    obtain ⟨cs, rfl⟩ := f.ex (f := fun b : { b : List Bool // b.length = ins } => sW b.val) fun a _ b hb => hb
    have hlen := f.len
    rw [rangeL_len, List.length_map] at hlen
    have ecs : cs.map (fun b : { b : List Bool // b.length = ins } => sW b.val) = (cs.map (·.val)).map sW := by rw [List.map_map]; rfl
    have hbs : ∀ b ∈ cs.map (·.val), b.length = ins := fun b hb => by
      obtain ⟨z, _, rfl⟩ := List.mem_map.mp hb
      exact z.2
    have hbl : (cs.map (·.val)).length ≤ 1000 := by rw [List.length_map]; omega
    rw [ecs]
    clear hlen ecs f
    generalize cs.map (fun b : { b : List Bool // b.length = ins } => b.val) = bs at hbs hbl ⊢
    have hk6 : S6[k]? = some (.lst (ts.map rwT)) := by rw [d6.get hkl]; exact h4
    have h56 : S6[k5]? = some o5 := by rw [d6.get h5l]; exact h60
    try simp only [wq_a, wq_b, wq_c, wq_d, wq_e, wq_f, wq_g, Int.reduceToNat, Int.reduceLE, Int.reduceLT, Int.reduceNeg, startD, List.replicate, Nat.reduceAdd, Nat.reduceSub, Nat.reduceEqDiff, if_true, if_false, Int.reduceEq, Int.reduceAdd, Int.reduceSub, Int.reduceMul, eq_self]
    rw [w_appL hk6 (by rw [sizeLine_eq, List.length_map]; omega)]
    simp only [wq_a, wq_b, wq_c, wq_d, wq_e, wq_f, wq_g, Int.reduceToNat, Int.reduceLE, Int.reduceLT, Int.reduceNeg, startD, List.replicate, Nat.reduceAdd, Nat.reduceSub, Nat.reduceEqDiff, if_true, if_false, Int.reduceEq, Int.reduceAdd, Int.reduceSub, Int.reduceMul, eq_self]
    refine ⟨ts ++ [bs], _, fun t ht => ?_, by rw [List.length_append, List.length_singleton, h2], ?_, ?_, ?_, rfl⟩
    · rcases List.mem_append.mp ht with h | h
      · exact h1 t h
      · rw [List.mem_singleton.mp h]; exact ⟨hbl, hbs⟩
    · exact d6.at.set hkl
    · rw [List.getElem?_set_self (List.getElem?_eq_some_iff.mp hk6).1, List.map_append]
      rfl
    · rw [List.getElem?_set_ne (Ne.symm h5k)]
      exact h56
theorem due_drawn {l k ins outs : Nat} {rows : List (List En)} {ys : List Yr} {x0 a2 a6 a7 a8 a9 a10 a11 a12 a13 a14 a15 : Option D} {S : Sto} (P : PM ins outs rows) (hn : rows.length ≤ 6) (hys : ys.map (·.1) = allW ins rows) (hyg : ∀ y ∈ ys, y.2 = .frl ((fnR ins rows y.1).map sW)) (hlen : (allW ins rows).length ≤ 200) (hat : At l S) (hk : S[k]? = some (.lst [])) (hkl : k ≠ l) :
    Wp (tD [x0, some (.ref l), a2, some (plD ins outs rows), some (.frl (ys.map (yD ins))), some (.ref k), a6, a7, a8, a9, a10, a11, a12, a13, a14, a15] S)
      (fun fl S' => ∃ (c11 c12 : Option D), At l S' ∧ S'[k]? = some (.lst ((dueL ins rows).map rwT)) ∧ fl = .nx [x0, some (.ref l), a2, some (plD ins outs rows), some (.frl (ys.map (yD ins))), some (.ref k), a6, a7, a8, a9, a10, c11, c12, a13, a14, a15]) NX := by
  unfold tD
  have lf := fun (S : Sto) (w : Wr) (hw : w ∈ allW ins rows) (us : List RowB) (hy : S[k]? = some (.lst (us.map rwT))) (hu : ∀ t ∈ us, t.length ≤ 1000 ∧ ∀ b ∈ t, b.length = ins) (hl : us.length ≤ 1000) => let m := allW_mem P hw; law_finds_ok (S := S) P (rows_ref hy) hu hl m.1 m.2.1 m.2.2
  have hdue := fun (pre : List Wr) (h : ∀ w ∈ pre, w ∈ allW ins rows) => due_ok P (by omega) pre [] h (fun t ht => by cases ht)
  generalize plD ins outs rows = PP at lf ⊢
  simp only [wq_a, wq_b, wq_c, wq_d, wq_e, wq_f, wq_g, Int.reduceToNat, Int.reduceLE, Int.reduceLT, Int.reduceNeg, startD, List.replicate, Nat.reduceAdd, Nat.reduceSub, Nat.reduceEqDiff, if_true, if_false, Int.reduceEq, Int.reduceAdd, Int.reduceSub, Int.reduceMul, eq_self, itemsD]
  refine w_loopP (yD ins) (fun pre sd S' => ∃ (c11 c12 : Option D), At l S' ∧ S'[k]? = some (.lst (((pre.map (·.1)).foldl (stepC ins rows) []).map rwT)) ∧ sd = [x0, some (.ref l), a2, some PP, some (.frl (ys.map (yD ins))), some (.ref k), a6, a7, a8, a9, a10, c11, c12, a13, a14, a15]) ys (fun _ _ _ _ _ _ => rfl) ⟨_, _, hat, hk, rfl⟩ ?_ ?_
  · rintro sd S' ⟨c11, c12, h1, h2, rfl⟩
    refine ⟨_, _, h1, ?_, rfl⟩
    rw [h2, hys]
    rfl
  · rintro pre y post sd S' e ⟨c11, c12, h1, h2, rfl⟩
    have hy : y ∈ ys := by rw [e]; simp
    have hw : y.1 ∈ allW ins rows := by rw [← hys]; exact List.mem_map.mpr ⟨y, hy, rfl⟩
    obtain ⟨f1, f2⟩ := hdue (pre.map (·.1)) fun w hw => by
      obtain ⟨z, hz, rfl⟩ := List.mem_map.mp hw
      rw [← hys]
      exact List.mem_map.mpr ⟨z, by rw [e]; simp [hz], rfl⟩
    have hpl : pre.length ≤ 200 := by
      have h3 := congrArg List.length e
      have h4 := congrArg List.length hys
      simp at h3 h4
      omega
    have hg := hyg y hy
    rw [List.map_append, List.foldl_append, List.map_singleton, List.foldl_cons, List.foldl_nil]
    rw [List.length_map] at f1
    generalize (pre.map (·.1)).foldl (stepC ins rows) [] = acc at f1 f2 h2 ⊢
    have hal : acc.length ≤ 1000 := by simp at f1; omega
    have e1 := lf S' y.1 hw acc h2 f2 hal
    simp only [wq_a, wq_b, wq_c, wq_d, wq_e, wq_f, wq_g, Int.reduceToNat, Int.reduceLE, Int.reduceLT, Int.reduceNeg, startD, List.replicate, Nat.reduceAdd, Nat.reduceSub, Nat.reduceEqDiff, if_true, if_false, Int.reduceEq, Int.reduceAdd, Int.reduceSub, Int.reduceMul, eq_self, yD, gTupD, e1]
    unfold stepC
    cases hf : fnd rows acc y.1 with
    | true =>
      simp only [wq_a, wq_b, wq_c, wq_d, wq_e, wq_f, wq_g, Int.reduceToNat, Int.reduceLE, Int.reduceLT, Int.reduceNeg, startD, List.replicate, Nat.reduceAdd, Nat.reduceSub, Nat.reduceEqDiff, if_true, if_false, Int.reduceEq, Int.reduceAdd, Int.reduceSub, Int.reduceMul, eq_self]
      exact ⟨_, _, h1, h2, rfl⟩
    | false =>
      simp only [wq_a, wq_b, wq_c, wq_d, wq_e, wq_f, wq_g, Int.reduceToNat, Int.reduceLE, Int.reduceLT, Int.reduceNeg, startD, List.replicate, Nat.reduceAdd, Nat.reduceSub, Nat.reduceEqDiff, if_true, if_false, Int.reduceEq, Int.reduceAdd, Int.reduceSub, Int.reduceMul, eq_self]
      rw [zm (isTy_lst h2)]
      simp only [wq_a, wq_b, wq_c, wq_d, wq_e, wq_f, wq_g, Int.reduceToNat, Int.reduceLE, Int.reduceLT, Int.reduceNeg, startD, List.replicate, Nat.reduceAdd, Nat.reduceSub, Nat.reduceEqDiff, if_true, if_false, Int.reduceEq, Int.reduceAdd, Int.reduceSub, Int.reduceMul, eq_self]
      rw [w_appL h2 (by rw [sizeLine_eq, List.length_map]; omega)]
      refine ⟨_, _, h1.set hkl, ?_, rfl⟩
      rw [List.getElem?_set_self (List.getElem?_eq_some_iff.mp h2).1, hg]
      simp only [Bool.false_eq_true, if_false, List.map_append]
      rfl
theorem fold_ne {ins : Nat} {rows : List (List En)} : ∀ (ws : List Wr) (acc : List RowB), acc ≠ [] → ws.foldl (stepC ins rows) acc ≠ []
  | [], _, h => h
  | w :: ws, acc, h => by
    rw [List.foldl_cons]
    refine fold_ne ws _ ?_
    unfold stepC
    split
    · exact h
    · simp
theorem due_ne {ins outs : Nat} {rows : List (List En)} (P : PM ins outs rows) : dueL ins rows ≠ [] := by
  have hmm := metL_met P.nxt P.n1
  have hw : allW ins rows ≠ [] := by
    intro z
    have h0 : 0 ∈ metL rows := List.mem_of_getElem? hmm.hd
    have h1 : 0 ∈ srtN (metL rows) := (srtN_perm _).mem_iff.mpr h0
    have h2 : ((0, 0), none) ∈ wrsI ins rows 0 := List.mem_flatMap.mpr ⟨0, List.mem_range.mpr (Nat.two_pow_pos ins), by simp [wrsK]⟩
    have : ((0, 0), none) ∈ allW ins rows := List.mem_flatMap.mpr ⟨0, h1, h2⟩
    rw [z] at this
    cases this
  unfold dueL
  cases ha : allW ins rows with
  | nil => exact absurd ha hw
  | cons w ws =>
    rw [List.foldl_cons]
    refine fold_ne ws _ ?_
    have : fnd rows [] w = false := by
      unfold fnd
      cases w.2 with
      | none => rfl
      | some o => rfl
    unfold stepC
    rw [this]
    simp
theorem allW_len2 {ins outs a b : Nat} {rows : List (List En)} (P : PM ins outs rows) (hn : rows.length ≤ a) (hi : 2 ^ ins ≤ b) : (allW ins rows).length ≤ a * (b * (a + 1)) := by
  have h1 : ∀ i k, (wrsK ins rows i k).length ≤ a + 1 := fun i k => by
    unfold wrsK
    rw [List.length_cons]
    have := wrsO_len (ins := ins) (i := i) (k := k) (rows := rows) (os := List.range rows.length)
    rw [List.length_range] at this
    omega
  have h2 : ∀ i, (wrsI ins rows i).length ≤ b * (a + 1) := fun i => by
    have := flat_len (f := wrsK ins rows i) (n := a + 1) (l := List.range (2 ^ ins)) fun k _ => h1 i k
    rw [List.length_range] at this
    exact Nat.le_trans this (Nat.mul_le_mul_right _ hi)
  have h3 := flat_len (f := wrsI ins rows) (n := b * (a + 1)) (l := srtN (metL rows)) fun i _ => h2 i
  have h4 : (srtN (metL rows)).length ≤ a := by rw [(srtN_perm _).length_eq]; have := (metL_met P.nxt P.n1).le; omega
  exact Nat.le_trans h3 (Nat.mul_le_mul_right _ h4)
theorem tC_ok {k5 ins outs : Nat} {rows : List (List En)} {b0 b1 b2 b4 b6 b7 b8 b9 b10 b11 b12 b13 b14 b15 : Option D} {S : Sto} (P : PM ins outs rows) (hn : rows.length ≤ 6) (hlen : (allW ins rows).length ≤ 200) (h5 : S[k5]? = some (.lst ((dueL ins rows).map rwT))) :
    Wp (tC [b0, b1, b2, some (plD ins outs rows), b4, some (.ref k5), b6, b7, b8, b9, b10, b11, b12, b13, b14, b15] S)
      (fun fl S' => Grow S S' ∧ ∃ c10 c14, fl = .nx [b0, b1, b2, some (plD ins outs rows), b4, some (.ref k5), b6, b7, b8, b9, c10, b11, b12, b13, c14, b15]) NX := by
  have co := fun S : Sto => checks_ok (S := S) P hn (by omega)
  obtain ⟨f1, f2⟩ := due_ok P (by omega) (allW ins rows) [] (fun _ h => h) (fun t ht => by cases ht)
  have hne := due_ne P
  have f1' : (dueL ins rows).length ≤ 200 := by
    unfold dueL
    simp at f1
    omega
  have f2' : ∀ t ∈ dueL ins rows, t.length ≤ 1000 := fun t ht => (f2 t ht).1
  unfold tC
  generalize plD ins outs rows = PP at co ⊢
  generalize dueL ins rows = due at co h5 f1' f2' hne
  simp only [wq_a, wq_b, wq_c, wq_d, wq_e, wq_f, wq_g, Int.reduceToNat, Int.reduceLE, Int.reduceLT, Int.reduceNeg, startD, List.replicate, Nat.reduceAdd, Nat.reduceSub, Nat.reduceEqDiff, if_true, if_false, Int.reduceEq, Int.reduceAdd, Int.reduceSub, Int.reduceMul, eq_self]
  rw [zm (rng_okI (by decide) (by decide))]
  simp only [wq_a, wq_b, wq_c, wq_d, wq_e, wq_f, wq_g, Int.reduceToNat, Int.reduceLE, Int.reduceLT, Int.reduceNeg, startD, List.replicate, Nat.reduceAdd, Nat.reduceSub, Nat.reduceEqDiff, if_true, if_false, Int.reduceEq, Int.reduceAdd, Int.reduceSub, Int.reduceMul, eq_self]
  refine w_rangeP (fun _ sd S' => Grow S S' ∧ ∃ c10 c14, sd = [b0, b1, b2, some PP, b4, some (.ref k5), b6, b7, b8, b9, c10, b11, b12, b13, c14, b15]) 0 2 (fun _ _ _ _ _ => rfl) ⟨Grow.refl _, _, _, rfl⟩ ?_ ?_
  · rintro sd S' ⟨hg, c10, c14, rfl⟩
    exact ⟨hg, _, _, rfl⟩
  · rintro i sd S' _ ⟨hg, c10, c14, rfl⟩
    obtain ⟨t, ts, rfl⟩ : ∃ t ts, due = t :: ts := by
      cases due with
      | nil => exact absurd rfl hne
      | cons t ts => exact ⟨t, ts, rfl⟩
    have hgl : Grow S' (lay S' (t :: ts)) := ⟨_, rfl⟩
    have h52 := (hg.trans hgl).get h5
    have hl2 : lsD (.ref k5) (lay S' (t :: ts)) = some ((t :: ts).map rwT) := by
      show (match (lay S' (t :: ts))[k5]? with | some (.lst ds) => some ds | _ => none) = _
      rw [h52]
    have sm : F__law_same 40 [.ref S'.length, .ref k5] (lay S' (t :: ts)) = .ok (.bl true) (lay S' (t :: ts)) := same2_ok 2 37 (sm_rows lay_rr hl2 f2' (by omega))
    have hrr := lay_rr (S := S') (acc := t :: ts)
    have h0 : (lay S' (t :: ts))[S'.length + 1]? = some (.lst (t.map sW)) := hrr.2 (S'.length + 1, t) (by simp [zsOf])
    have ix : ∀ {Q : D → Sto → Prop} {X : Exc → Sto → Prop}, Wp (ixD (.ref S'.length) (.int 0) (lay S' (t :: ts))) Q X = Q (.ref (S'.length + 1)) (lay S' (t :: ts)) := fun {Q X} => by
      have e0 : atI ((zsOf (S'.length + 1) (t :: ts)).map zRef) 0 = some (.ref (S'.length + 1)) := by
        rw [show (0 : Int) = ((0 : Nat) : Int) from rfl, atI_pos (by omega)]
        rfl
      simp only [ixD, hrr.1, e0]
      rfl
    have hset : ∀ d : DO, Grow S' ((lay S' (t :: ts)).set (S'.length + 1) d) := fun d => by
      unfold lay
      rw [List.set_append_right _ _ (by omega)]
      exact ⟨_, rfl⟩
    have htl := f2' t (by simp)
    simp only [wq_a, wq_b, wq_c, wq_d, wq_e, wq_f, wq_g, Int.reduceToNat, Int.reduceLE, Int.reduceLT, Int.reduceNeg, startD, List.replicate, Nat.reduceAdd, Nat.reduceSub, Nat.reduceEqDiff, if_true, if_false, Int.reduceEq, Int.reduceAdd, Int.reduceSub, Int.reduceMul, eq_self, co, sm, ix]
    rw [zm (isTy_lst h0)]
    simp only [wq_a, wq_b, wq_c, wq_d, wq_e, wq_f, wq_g, Int.reduceToNat, Int.reduceLE, Int.reduceLT, Int.reduceNeg, startD, List.replicate, Nat.reduceAdd, Nat.reduceSub, Nat.reduceEqDiff, if_true, if_false, Int.reduceEq, Int.reduceAdd, Int.reduceSub, Int.reduceMul, eq_self]
    rw [w_appL h0 (by rw [sizeLine_eq, List.length_map]; omega)]
    exact ⟨hg.trans (hset _), _, _, rfl⟩
theorem law_gen {x0 : D} {S S0 : Sto} {sc : List Int} (h : frzD S x0 S = .ok (.frl (sc.map .int)) S0) : ∃ S', dFn 16 b_law [x0] S = .ok (.bl true) S' := by
  have main : Wp (dFn 16 b_law [x0] S) (fun d _ => d = .bl true) NX := by
    rw [w_dFn]
    show Wp (b_law [some x0, none, none, none, none, none, none, none, none, none, none, none, none, none, none, none] S) _ _
    rw [eqb_law]
    simp only [wq_a, wq_b, wq_c, wq_d, wq_e, wq_f, wq_g, Int.reduceToNat, Int.reduceLE, Int.reduceLT, Int.reduceNeg, startD, List.replicate, Nat.reduceAdd, Nat.reduceSub, Nat.reduceEqDiff, if_true, if_false, Int.reduceEq, Int.reduceAdd, Int.reduceSub, Int.reduceMul, eq_self, w_dFrz, h]
    obtain ⟨o, e0, hs⟩ := start_ok (ns := sc) (S := S0)
    rw [e0]
    simp only [wq_a, wq_b, wq_c, wq_d, wq_e, wq_f, wq_g, Int.reduceToNat, Int.reduceLE, Int.reduceLT, Int.reduceNeg, startD, List.replicate, Nat.reduceAdd, Nat.reduceSub, Nat.reduceEqDiff, if_true, if_false, Int.reduceEq, Int.reduceAdd, Int.reduceSub, Int.reduceMul, eq_self]
    generalize hl : S0.length = l
    have at0 : At l (S0 ++ [o]) := by subst hl; exact ⟨o, get_last, hs⟩
    generalize S0 ++ [o] = S1 at at0
    refine (draw at0 (many := 3)).w ?_
    rintro _ S2 d2 ⟨v, rfl, v0, v1⟩
    obtain ⟨us, hus, hu3⟩ : ∃ us : List Nat, atI [D.frl [.int 0, .int 2], .frl [.int 1, .int 2], .frl [.int 2]] v = some (.frl (us.map nI)) ∧ ∀ u ∈ us, u < 3 := by
      have : v = 0 ∨ v = 1 ∨ v = 2 := by omega
      rcases this with rfl | rfl | rfl
      · exact ⟨[0, 2], rfl, by decide⟩
      · exact ⟨[1, 2], rfl, by decide⟩
      · exact ⟨[2], rfl, by decide⟩
    simp only [wq_a, wq_b, wq_c, wq_d, wq_e, wq_f, wq_g, Int.reduceToNat, Int.reduceLE, Int.reduceLT, Int.reduceNeg, startD, List.replicate, Nat.reduceAdd, Nat.reduceSub, Nat.reduceEqDiff, if_true, if_false, Int.reduceEq, Int.reduceAdd, Int.reduceSub, Int.reduceMul, eq_self, hus, itemsD]
    refine w_loopP nI (fun _ sd S' => At l S' ∧ ∃ a2 a3 a4 a5 a6 a7 a8 a9 a10 a11 a12 a13 a14 a15, sd = [some x0, some (.ref l), a2, a3, a4, a5, a6, a7, a8, a9, a10, a11, a12, a13, a14, a15]) us (fun _ _ _ _ _ _ => rfl) ⟨d2.at, _, _, _, _, _, _, _, _, _, _, _, _, _, _, rfl⟩ ?_ ?_
    · rintro sd S' ⟨_, a2, a3, a4, a5, a6, a7, a8, a9, a10, a11, a12, a13, a14, a15, rfl⟩
      simp only [wq_a, wq_b, wq_c, wq_d, wq_e, wq_f, wq_g, Int.reduceToNat, Int.reduceLE, Int.reduceLT, Int.reduceNeg, startD, List.replicate, Nat.reduceAdd, Nat.reduceSub, Nat.reduceEqDiff, if_true, if_false, Int.reduceEq, Int.reduceAdd, Int.reduceSub, Int.reduceMul, eq_self]
    · rintro pre turn post sd S3 e ⟨at3, a2, a3, a4, a5, a6, a7, a8, a9, a10, a11, a12, a13, a14, a15, rfl⟩
      have hturn : turn < 3 := hu3 turn (by rw [e]; simp)
      simp only [wq_a, wq_b, wq_c, wq_d, wq_e, wq_f, wq_g, Int.reduceToNat, Int.reduceLE, Int.reduceLT, Int.reduceNeg, startD, List.replicate, Nat.reduceAdd, Nat.reduceSub, Nat.reduceEqDiff, if_true, if_false, Int.reduceEq, Int.reduceAdd, Int.reduceSub, Int.reduceMul, eq_self, nI]
      refine (draw at3 (many := 2)).w ?_
      rintro _ S4 d4 ⟨w, rfl, w0, w1⟩
      obtain ⟨fo, hfo, f4, f5⟩ : ∃ fo : Int, atI [D.int 4, .int 5] w = some (.int fo) ∧ 4 ≤ fo ∧ fo ≤ 5 := by
        have : w = 0 ∨ w = 1 := by omega
        rcases this with rfl | rfl
        · exact ⟨4, rfl, by decide, by decide⟩
        · exact ⟨5, rfl, by decide, by decide⟩
      obtain ⟨mo, wi, hmo, hwi, q1, q2, q3, q4, q5⟩ : ∃ mo wi : Int, atI [D.int 3, .int 2, .int fo] ((turn : Nat) : Int) = some (.int mo) ∧ atI [D.int 2, .int 3, .int 1] ((turn : Nat) : Int) = some (.int wi) ∧ 1 ≤ mo ∧ mo ≤ 5 ∧ 1 ≤ wi ∧ wi ≤ 4 ∧ ((mo ≤ 3 ∧ wi ≤ 2) ∨ (mo ≤ 2 ∧ wi ≤ 3) ∨ wi ≤ 1) := by
        have : turn = 0 ∨ turn = 1 ∨ turn = 2 := by omega
        rcases this with rfl | rfl | rfl
        · exact ⟨3, 2, rfl, rfl, by decide, by decide, by decide, by decide, by decide⟩
        · exact ⟨2, 3, rfl, rfl, by decide, by decide, by decide, by decide, by decide⟩
        · exact ⟨fo, 1, rfl, rfl, by omega, by omega, by decide, by decide, by omega⟩
      simp only [wq_a, wq_b, wq_c, wq_d, wq_e, wq_f, wq_g, Int.reduceToNat, Int.reduceLE, Int.reduceLT, Int.reduceNeg, startD, List.replicate, Nat.reduceAdd, Nat.reduceSub, Nat.reduceEqDiff, if_true, if_false, Int.reduceEq, Int.reduceAdd, Int.reduceSub, Int.reduceMul, eq_self, hfo, hmo, hwi]
      refine (plain_ok d4.at (most := mo) (wires := wi)).w ?_
      rintro _ S5 d5 ⟨ins, outs, rows, rfl, P, hpl, hpi⟩
      have hn : rows.length ≤ 6 := by omega
      have hlen : (allW ins rows).length ≤ 200 := by
        rcases q5 with ⟨z1, z2⟩ | ⟨z1, z2⟩ | z1
        · exact Nat.le_trans (allW_len2 (a := 3) (b := 2 ^ 2) P (by omega) (Nat.pow_le_pow_right (by decide) (by omega))) (by decide)
        · exact Nat.le_trans (allW_len2 (a := 2) (b := 2 ^ 3) P (by omega) (Nat.pow_le_pow_right (by decide) (by omega))) (by decide)
        · exact Nat.le_trans (allW_len2 (a := 5) (b := 2 ^ 1) P (by omega) (Nat.pow_le_pow_right (by decide) (by omega))) (by decide)
      obtain ⟨ys, hys, hyg, hlw⟩ := law_wrong2_ok (S := S5) P (by omega)
      have hyl : ys.length ≤ 200 := by
        have := congrArg List.length hys
        rw [List.length_map] at this
        omega
      simp only [wq_a, wq_b, wq_c, wq_d, wq_e, wq_f, wq_g, Int.reduceToNat, Int.reduceLE, Int.reduceLT, Int.reduceNeg, startD, List.replicate, Nat.reduceAdd, Nat.reduceSub, Nat.reduceEqDiff, if_true, if_false, Int.reduceEq, Int.reduceAdd, Int.reduceSub, Int.reduceMul, eq_self, hlw]
      generalize hk : S5.length = k
      have hkl : k ≠ l := by have := d5.at.lt; omega
      have hk6 : (S5 ++ [DO.lst []])[k]? = some (.lst []) := by rw [← hk]; exact get_last
      have at6 : At l (S5 ++ [DO.lst []]) := d5.at.app _
      generalize S5 ++ [DO.lst []] = S6 at hk6 at6
      refine Wp.mono (due_drawn P hn hys hyg hlen at6 hk6 hkl) ?_ (fun _ _ z => z)
      rintro _ S7 ⟨c11, c12, at7, hk7, rfl⟩
      have hev : dFrz (dComp [11, 12] (iVal (dVar 4)) (gTupD 2 (gsCons (gVar 11) (gsCons (gVar 12) gsNil))) tYesD (dVar 11)) [some x0, some (.ref l), some (.int ((turn : Nat) : Int)), some (plD ins outs rows), some (.frl (ys.map (yD ins))), some (.ref k), a6, a7, a8, a9, a10, c11, c12, a13, a14, a15] S7 = .ok (.frl ((allW ins rows).map (wrL ins))) S7 := by
        have := compF (sd := [some x0, some (.ref l), some (.int ((turn : Nat) : Int)), some (plD ins outs rows), some (.frl (ys.map (yD ins))), some (.ref k), a6, a7, a8, a9, a10, c11, c12, a13, a14, a15]) (S := S7) (vs := [11, 12]) (fi := iVal (dVar 4)) (ga := gTupD 2 (gsCons (gVar 11) (gsCons (gVar 12) gsNil))) (ft := tYesD) (fe := dVar 11) ys (yD ins) (fun _ => true) (fun y => wrL ins y.1) ?_ (Nat.le_trans (List.length_filter_le _ _) (szn (by omega))) ?_ ?_
        · rw [this, List.filter_eq_self.mpr fun _ _ => rfl, ← hys, List.map_map]
          rfl
        · simp only [wq_a, wq_b, wq_c, wq_d, wq_e, wq_f, wq_g, Int.reduceToNat, Int.reduceLE, Int.reduceLT, Int.reduceNeg, startD, List.replicate, Nat.reduceAdd, Nat.reduceSub, Nat.reduceEqDiff, if_true, if_false, Int.reduceEq, Int.reduceAdd, Int.reduceSub, Int.reduceMul, eq_self, itemsD]
          exact ⟨trivial, trivial, fun _ _ => rfl⟩
        · intro y hy S' hg
          simp only [wq_a, wq_b, wq_c, wq_d, wq_e, wq_f, wq_g, Int.reduceToNat, Int.reduceLE, Int.reduceLT, Int.reduceNeg, startD, List.replicate, Nat.reduceAdd, Nat.reduceSub, Nat.reduceEqDiff, if_true, if_false, Int.reduceEq, Int.reduceAdd, Int.reduceSub, Int.reduceMul, eq_self, wipeD, yD, gTupD]
          exact ⟨by first | rfl | trivial, by first | rfl | trivial, by first | rfl | trivial, fun _ => ⟨by first | rfl | trivial, by first | rfl | trivial⟩⟩
        · intro y _ _
          exact gd_blw (n := 1) _ (wrL_gd y.1)
      simp only [wq_a, wq_b, wq_c, wq_d, wq_e, wq_f, wq_g, Int.reduceToNat, Int.reduceLE, Int.reduceLT, Int.reduceNeg, startD, List.replicate, Nat.reduceAdd, Nat.reduceSub, Nat.reduceEqDiff, if_true, if_false, Int.reduceEq, Int.reduceAdd, Int.reduceSub, Int.reduceMul, eq_self, hev]
      generalize hkk : S7.length = k7
      have hk7l : k7 ≠ l := by have := at7.lt; omega
      have hkk7 : k ≠ k7 := by have := (List.getElem?_eq_some_iff.mp hk7).1; omega
      have hk8 : (S7 ++ [DO.lst []])[k7]? = some (.lst []) := by rw [← hkk]; exact get_last
      have h58 : (S7 ++ [DO.lst []])[k]? = some (.lst ((dueL ins rows).map rwT)) := by
        rw [List.getElem?_append_left (List.getElem?_eq_some_iff.mp hk7).1]
        exact hk7
      have at8 : At l (S7 ++ [DO.lst []]) := at7.app _
      generalize S7 ++ [DO.lst []] = S8 at hk8 h58 at8
      refine Wp.mono (rows_drawn P at8 hk8 hk7l h58 hkl hkk7) ?_ (fun _ _ z => z)
      rintro _ S9 ⟨ts, c8, hb, hz, at9, hk9, h59, rfl⟩
      obtain ⟨f1, f2⟩ := due_ok P (by omega) (allW ins rows) [] (fun _ h => h) (fun t ht => by cases ht)
      simp only [wq_a, wq_b, wq_c, wq_d, wq_e, wq_f, wq_g, Int.reduceToNat, Int.reduceLE, Int.reduceLT, Int.reduceNeg, startD, List.replicate, Nat.reduceAdd, Nat.reduceSub, Nat.reduceEqDiff, if_true, if_false, Int.reduceEq, Int.reduceAdd, Int.reduceSub, Int.reduceMul, eq_self]
      refine Wp.mono (tL_ok P hn f2 (by simp at f1; omega) hb hz h59 hk9) ?_ (fun _ _ z => z)
      rintro _ S10 ⟨g10, c9, c10, e12, c13, c14, rfl⟩
      simp only [wq_a, wq_b, wq_c, wq_d, wq_e, wq_f, wq_g, Int.reduceToNat, Int.reduceLE, Int.reduceLT, Int.reduceNeg, startD, List.replicate, Nat.reduceAdd, Nat.reduceSub, Nat.reduceEqDiff, if_true, if_false, Int.reduceEq, Int.reduceAdd, Int.reduceSub, Int.reduceMul, eq_self]
      refine Wp.mono (tC_ok P hn hlen (g10.get h59)) ?_ (fun _ _ z => z)
      rintro _ S11 ⟨g11, e10, e14, rfl⟩
      have at11 : At l S11 := by
        obtain ⟨T, rfl⟩ := g10.trans g11
        exact at9.app T
      exact ⟨at11, _, _, _, _, _, _, _, _, _, _, _, _, _, _, rfl⟩
  obtain ⟨d, S', e, rfl⟩ := Wp.ok main
  exact ⟨S', e⟩
theorem plain : ∀ ns : List Int, ns.length ≤ 63 → ∃ S', F_law [.frl (ns.map .int)] [] = .ok (.bl true) S' := fun ns _ => law_gen (S0 := []) rfl
end Lw

namespace Lw
open PySem PySem.Spec PyProof.Rows L2 DL
theorem run (w : World) : HandSHeadRun.RunEq R (PySem.W.view R.prog [50]) hk ob 20000 loose w := by
  intro os
  kernel_rfl
end Lw
open PySem PySem.W PySem.Calls PyProof.Rows
theorem PySem.Challenge.cw_tablebeat_k30_rows_that_find_all_holds : PySem.Challenge.rw_tablebeat_k30_rows_that_find_all.Holds := by
  w_on; o_law
  refine HandSHeadRun.head_any (r := OpenLaw.row PySem.Challenge.rw_tablebeat_k30_rows_that_find_all) (q := view (OpenLaw.row PySem.Challenge.rw_tablebeat_k30_rows_that_find_all).prog [50]) (H := Lw.hk) (ob := Lw.ob) (M := 20000) (loose := Lw.loose) (d := HandSHeadRun.topDef (OpenLaw.row PySem.Challenge.rw_tablebeat_k30_rows_that_find_all).prog 50) (kwd := []) Lw.ob_eq
    (by kernel_rfl) (fun s => by kernel_rfl) Lw.run (by kernel_rfl) (by kernel_rfl) (by kernel_rfl) (by rfl) (by first | assumption | decide +kernel) (by decide +kernel) ⟨rfl, rfl, rfl, rfl, rfl, by decide +kernel⟩ ?hw ?hc
  case hw => w_witness2
  case hc =>
    refine DL.walk_D (l := PySem.Challenge.rw_tablebeat_k30_rows_that_find_all) (k := 46) (x := "_law_script") (Fl := Lw.F_law) rfl (by kernel_rfl) ⟨rfl, by decide, by decide⟩ Lw.plain ?F
    intro w mg fa h Y G hmg0
    obtain ⟨K, KX, c, e⟩ := Y
    have T := Lw.tx_of (w := w) KX G c e
    have hmg : mg ("law" : PySem.Str) = some (.ref fa) := by
      have e : (HandSHeadRun.topDef (OpenLaw.row PySem.Challenge.rw_tablebeat_k30_rows_that_find_all).prog 50).name = ("law" : PySem.Str) := by kernel_rfl
      rw [← e]
      exact hmg0
    obtain ⟨fd, Fu⟩ := T.f_law
    have e2 := hmg.symm.trans T.g_law
    cases e2
    obtain ⟨hb, hF⟩ := Lw.d_law (P := (PySem.Challenge.rw_tablebeat_k30_rows_that_find_all).prog) (w := w) T Fu
    exact ⟨K, Lw.cl K w, fd, rfl, KX, hb, fun base _ _ => hF base⟩

